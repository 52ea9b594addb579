import PyProof.Rows.All
import Wide.All
import OpenK.AllK
import Wide.FinOn
import HandS.ForMost
import HandS.Walk
import HandS.TupAny
import HandS.IsInst
import KE.SortData
import KE.DatumOrd
import HandS.Lambda
import KE.DataCmp
import HandS.Style
import PyProof.CollectStr
import HandS.RaiseMore
import HandS.SortKw
import KE.DataMinMax
import KE.GoesNew
import HandS.Zip
import HandS.Head0
import HandS.Head1
import HandS.Head2
import HandS.HeadEnd
import HandS.HeadHook1
import HandS.HeadHook2
import HandS.Words
import HandS.Codes
import HandS.HeadHook4
import HandS.HeadWalk
import HandS.ExcInit
import KE.KExcSuper
import KE.KSuper
import HandS.ExcField
import HandS.HotCalls
import PySem.Challenge.RW_shownagain_k28_grades_of_joints
set_option Elab.async false
set_option linter.all false
set_option maxRecDepth 100000
set_option autoImplicit false
/-! Z0: the data D, the small language E, S, and what it computes -/
namespace Z
open PySem

/-- data: what the small language computes with -/
inductive D where
  | non | bl (b : Bool) | int (i : Int) | str (s : Str) | tup (xs : List D) | lst (xs : List D) | loc (n : Nat) | scr (xs : List D) | ins (x : Str) (ns : List Str) (xs : List D)
  deriving Inhabited
mutual
def D.py : D → PyData
  | .non => .none
  | .bl b => .bool b
  | .int i => .int i
  | .str s => .str s
  | .tup xs => .tuple (D.pys xs)
  | .lst xs => .list (D.pys xs)
  | .loc _ => .none
  | .scr _ => .none
  | .ins _ _ _ => .none
def D.pys : List D → List PyData
  | [] => []
  | x :: xs => D.py x :: D.pys xs
end
mutual
/-- no place of the store in it -/
def D.dat : D → Bool
  | .tup xs => D.dats xs
  | .lst xs => D.dats xs
  | .loc _ => false
  | .scr _ => false
  | .ins _ _ _ => false
  | _ => true
def D.dats : List D → Bool
  | [] => true
  | x :: xs => D.dat x && D.dats xs
end
mutual
/-- nothing in it that is read alone -/
def D.cln : D → Bool
  | .tup xs => D.clns xs
  | .lst xs => D.clns xs
  | .scr _ => false
  | .ins _ _ xs => D.clns xs
  | _ => true
def D.clns : List D → Bool
  | [] => true
  | x :: xs => D.cln x && D.clns xs
end
mutual
def D.dep : D → Nat
  | .tup xs => D.deps xs + 1
  | .lst xs => D.deps xs + 1
  | _ => 0
def D.deps : List D → Nat
  | [] => 0
  | x :: xs => max (D.dep x) (D.deps xs)
end

/-- a thing of the store -/
inductive SO where
  | lst (xs : List D)
  deriving Inhabited
abbrev Store := List SO
/-- an exception: its class, what it was told -/
structure Ex where
  cls : Str
  arg : Option D
inductive Res (α : Type) where
  | ok (a : α) (S : Store)
  | exc (x : Ex) (S : Store)
  | stuck
abbrev M (α : Type) := Store → Res α
def M.ret {α : Type} (a : α) : M α := fun S => .ok a S
def M.stk {α : Type} : M α := fun _ => .stuck
def M.bind {α β : Type} (m : M α) (f : α → M β) : M β := fun S => match m S with
  | .ok a S' => f a S'
  | .exc x S' => .exc x S'
  | .stuck => .stuck
/-- nothing is raised here -/
def M.noX {α : Type} (m : M α) : M α := fun S => match m S with
  | .exc _ _ => .stuck
  | r => r
instance : Monad M where
  pure := M.ret
  bind := M.bind

/-! ### heads -/
inductive BI where
  | len | all | any | sum | sorted | tuple | list | int | abs | min | max | str
  deriving DecidableEq, Repr, Inhabited
def BI.nm : BI → Str
  | .len => "len" | .all => "all" | .any => "any" | .sum => "sum" | .sorted => "sorted" | .tuple => "tuple" | .list => "list" | .int => "int" | .abs => "abs" | .min => "min" | .max => "max" | .str => "str"
inductive BT where
  | int | bool | str | tuple | list
  deriving DecidableEq, Repr, Inhabited
def BT.nm : BT → Str
  | .int => "int" | .bool => "bool" | .str => "str" | .tuple => "tuple" | .list => "list"
inductive MT where
  | join
  deriving DecidableEq, Repr, Inhabited
def MT.nm : MT → Str
  | .join => "join"
inductive Hd where
  | bin (op : Operator) | cmp (op : CmpOp) | neg | ix | slice (lo hi : Bool) | rev | bi (b : BI) | isi (t : BT) | isis (ts : List BT) | meth (m : MT) | tup | lst | mnd (mx : Bool)
  deriving DecidableEq, Repr, Inhabited
/-- what is walked -/
inductive SK where
  | val | range1 | range2 | enum | zip
  deriving DecidableEq, Repr, Inhabited
inductive Tg where
  | name (i : Nat)
  | tup (ts : List Tg)
  deriving Inhabited
inductive E where
  | const (d : D)
  | var (i : Nat)
  | glob (g : Nat)
  | op (h : Hd) (es : List E)
  | alloc (es : List E)
  | call (f : Nat) (es : List E)
  | callK (f n : Nat) (ks : List Str) (perm : List Nat) (es kes : List E)
  | chain (o1 o2 : CmpOp) (a b c : E)
  | not (a : E)
  | bool (conj : Bool) (es : List E)
  | ife (t a b : E)
  | comp (own : List Nat) (elt : E) (tg : Tg) (k : SK) (es : List E) (ifs : List E)
  | got (why : Bool) (e : E)
  deriving Inhabited
/-- a statement; m: read with the frame's own lists in view -/
inductive Cmd where
  | asg (m : Bool) (tg : Tg) (e : E)
  | own (i : Nat) (es : List E)
  | app (m : Bool) (i : Nat) (e : E)
  | setIx (o i v : E)
  | putIx (m : Bool) (i : Nat) (j v : E)
  | par (m : Bool) (is : List Nat) (es : List E)
  | ifs (m : Bool) (t : E) (a b : List Cmd)
  | for_ (tg : Tg) (k : SK) (es : List E) (body : List Cmd)
  | ret (m : Bool) (e : E)
  | expr (m : Bool) (e : E)
  | frz (i : Nat)
  | brk | cnt
  | pass
  | dead
  | raise (m : Bool) (x : Str) (es : List E)
  | whl (n : Nat) (m : Bool) (t : E) (body : List Cmd)
  deriving Inhabited

/-! ### operations on data -/
def okB (b : Bool) : M D := M.ret (.bl b)
def many : Nat := 200
/-- == of data -/
def dEq (a b : D) : Option Bool := if a.dat && b.dat && decide (min a.dep b.dep ≤ many) then some (PyData.eqv a.py b.py) else none
def alk (a b : D) : Bool := PySem.W.alike a.py b.py && (match a with | .non => false | _ => true)
def dLt (a b : D) : Option Bool := if a.dat && b.dat && alk a b && decide (min a.dep b.dep ≤ many) then some (PySem.W.dataLt a.py b.py) else none
def seqOf (S : Store) : D → Option (List D)
  | .tup xs => some xs
  | .lst xs => some xs
  | .scr xs => some xs
  | .loc n => match S[n]? with
    | some (.lst xs) => some xs
    | _ => none
  | _ => none
/-- a <= b -/
def dLe (a b : D) : Option Bool := if a.dat && b.dat && alk a b && decide (min a.dep b.dep ≤ many) then some (!PySem.W.dataLt b.py a.py) else none
def toB (o : Option Bool) : M D := match o with
  | some b => okB b
  | none => M.stk
def signs (z : Str) : List D := z.cps.toList.map fun c => .str ⟨#[c]⟩
def binSem : Operator → D → D → M D
  | .Add, .int a, .int b => M.ret (.int (a + b))
  | .Add, .str a, .str b => if a.length + b.length ≤ sizeLine then M.ret (.str (a ++ b)) else M.stk
  | .Add, .tup a, .tup b => if a.length + b.length ≤ sizeLine then M.ret (.tup (a ++ b)) else M.stk
  | .Add, .lst a, .lst b => if a.length + b.length ≤ sizeLine then M.ret (.lst (a ++ b)) else M.stk
  | .Sub, .int a, .int b => M.ret (.int (a - b))
  | .Mult, .int a, .int b => if a.natAbs < 2 ^ 64 ∨ b.natAbs < 2 ^ 64 then M.ret (.int (a * b)) else M.stk
  | .Mod, .int a, .int b => if 0 < b then M.ret (.int (a % b)) else M.stk
  | .FloorDiv, .int a, .int b => if 0 < b ∧ b < 1073741824 then M.ret (.int (a / b)) else M.stk
  | .Pow, .int a, .int b => if 0 ≤ b ∧ b ≤ 1000 ∧ a.natAbs < 2 ^ 64 then M.ret (.int (a ^ b.toNat)) else M.stk
  | _, _, _ => M.stk
def cmpSem : CmpOp → D → D → M D
  | .Eq, a, b => toB (dEq a b)
  | .NotEq, a, b => toB ((dEq a b).map (!·))
  | .Lt, .int a, .int b => okB (decide (a < b))
  | .LtE, .int a, .int b => okB (decide (a ≤ b))
  | .Gt, .int a, .int b => okB (decide (b < a))
  | .GtE, .int a, .int b => okB (decide (b ≤ a))
  | .Lt, a, b => toB (dLt a b)
  | .LtE, a, b => toB (dLe a b)
  | .Is, .bl a, .bl b => okB (decide (a = b))
  | .Is, a, .non => okB (match a with | .non => true | _ => false)
  | .IsNot, a, .non => okB (match a with | .non => false | _ => true)
  | .In, .str a, .str z => (match a.cps.toList with
    | [c] => okB (decide (c ∈ z.cps.toList))
    | _ => M.stk)
  | .In, a, .lst xs => if a.dat && D.dats xs && decide (a.dep ≤ many) then okB (xs.any fun x => PyData.eqv x.py a.py) else M.stk
  | .In, a, .tup xs => if a.dat && D.dats xs && decide (a.dep ≤ many) then okB (xs.any fun x => PyData.eqv x.py a.py) else M.stk
  | .NotIn, a, .lst xs => if a.dat && D.dats xs && decide (a.dep ≤ many) then okB (!xs.any fun x => PyData.eqv x.py a.py) else M.stk
  | .NotIn, a, .tup xs => if a.dat && D.dats xs && decide (a.dep ≤ many) then okB (!xs.any fun x => PyData.eqv x.py a.py) else M.stk
  | _, _, _ => M.stk
def at? (xs : List D) (i : Int) : M D := match L2.atI xs i with
  | some d => M.ret d
  | none => M.stk
def ixSem (a i : D) : M D := fun S => match i with
  | .int i => (match a with
    | .str z => (match L2.atI z.cps.toList i with
      | some c => .ok (.str ⟨#[c]⟩) S
      | none => .stuck)
    | _ => (match seqOf S a with
      | some xs => at? xs i S
      | none => .stuck))
  | _ => .stuck
def cut {α : Type} (xs : List α) (lo hi : Option Int) : List α := (xs.drop (HT.sIx xs.length 0 lo)).take (HT.sIx xs.length xs.length hi - HT.sIx xs.length 0 lo)
def sliceSem (a : D) (lo hi : Option Int) : M D := match a with
  | .tup xs => M.ret (.tup (cut xs lo hi))
  | .lst xs => M.ret (.lst (cut xs lo hi))
  | .scr xs => M.ret (.lst (cut xs lo hi))
  | .str z => M.ret (.str (L2.cutS z lo hi))
  | _ => M.stk
def isT (S : Store) : BT → D → Bool
  | .int, .int _ => true
  | .int, .bl _ => true
  | .bool, .bl _ => true
  | .str, .str _ => true
  | .tuple, .tup _ => true
  | .list, .lst _ => true
  | .list, .scr _ => true
  | .list, .loc n => (match S[n]? with
    | some (.lst _) => true
    | _ => false)
  | _, _ => false
/-- a thing of a known kind -/
def okT (S : Store) : D → Bool
  | .loc n => (match S[n]? with
    | some (.lst _) => true
    | _ => false)
  | .ins _ _ _ => false
  | _ => true
def allB : List D → Option (List Bool)
  | [] => some []
  | .bl b :: r => (allB r).map (b :: ·)
  | _ :: _ => none
def allI : List D → Option (List Int)
  | [] => some []
  | .int b :: r => (allI r).map (b :: ·)
  | _ :: _ => none
def allS : List D → Option (List Str)
  | [] => some []
  | .str b :: r => (allS r).map (b :: ·)
  | _ :: _ => none
abbrev leD : D → D → Bool := PySem.W.dataLe false D.py
def sortD (xs : List D) : List D := xs.mergeSort leD
def alikeD (xs : List D) : Bool := xs.all fun x => xs.all fun y => PySem.W.alike x.py y.py
/-- what the sort's look at the first items takes: tuples with an item, or neither None nor tuples -/
def sortable (xs : List D) : Bool := (xs.all fun x => match x with
  | .tup (_ :: _) => true
  | _ => false) || xs.all fun x => match x with
  | .non => false
  | .loc _ => false
  | .scr _ => false
  | .tup _ => false
  | .ins _ _ _ => false
  | _ => true
def sortOk (xs : List D) : Bool := D.dats xs && (alikeD xs && (sortable xs && decide (D.deps xs ≤ many)))
def strI (i : Int) : Str := toString i
def pickI (mx : Bool) (n : Int) (ns : List Int) : Int := if mx = true then ns.foldl max n else ns.foldl min n
def biSem : BI → List D → M D
  | .len, [a] => fun S => (match a with
    | .str z => .ok (.int z.length) S
    | _ => (match seqOf S a with
      | some xs => .ok (.int xs.length) S
      | none => .stuck))
  | .all, [.lst xs] => (match allB xs with
    | some bs => okB (bs.all id)
    | none => M.stk)
  | .any, [.lst xs] => (match allB xs with
    | some bs => okB (bs.any id)
    | none => M.stk)
  | .sum, [.lst xs] => (match allI xs with
    | some ns => M.ret (.int ns.sum)
    | none => M.stk)
  | .sorted, [a] => (match a with
    | .str z => M.ret (.lst (sortD (signs z)))
    | .lst xs => if sortOk xs = true then M.ret (.lst (sortD xs)) else M.stk
    | .tup xs => if sortOk xs = true then M.ret (.lst (sortD xs)) else M.stk
    | _ => M.stk)
  | .tuple, [a] => (match a with
    | .tup xs => M.ret (.tup xs)
    | .lst xs => M.ret (.tup xs)
    | _ => M.stk)
  | .list, [a] => (match a with
    | .tup xs => M.ret (.lst xs)
    | .lst xs => M.ret (.lst xs)
    | _ => M.stk)
  | .int, [.int i] => M.ret (.int i)
  | .int, [.str z] => (match PySem.intText? z with
    | some n => if z.length ≤ 640 then M.ret (.int n) else M.stk
    | none => M.stk)
  | .str, [.int i] => if i.natAbs.log2 < 1920 ∧ (strI i).length ≤ sizeLine ∧ PySem.PyData.strOk (strI i) = true then M.ret (.str (strI i)) else M.stk
  | .str, [.str z] => M.ret (.str z)
  | .max, [.lst xs] => (match allI xs with
    | some (n :: ns) => M.ret (.int (pickI true n ns))
    | _ => M.stk)
  | .min, [.lst xs] => (match allI xs with
    | some (n :: ns) => M.ret (.int (pickI false n ns))
    | _ => M.stk)
  | .max, [.int i, .int j] => M.ret (.int (if j > i then j else i))
  | .min, [.int i, .int j] => M.ret (.int (if j < i then j else i))
  | .abs, [.int i] => M.ret (.int (if i < 0 then -i else i))
  | _, _ => M.stk
def joinSem (sep : Str) (xs : List D) : M D := match allS xs with
  | some ys => if (ys.map (·.length)).sum + ys.length * sep.length ≤ sizeLine then M.ret (.str (PySem.Txt.join sep ys)) else M.stk
  | none => M.stk
def opSem : Hd → List D → M D
  | .bin o, [a, b] => binSem o a b
  | .cmp o, [a, b] => cmpSem o a b
  | .neg, [.int i] => M.ret (.int (-i))
  | .ix, [a, i] => ixSem a i
  | .slice true true, [a, .int lo, .int hi] => sliceSem a (some lo) (some hi)
  | .slice true false, [a, .int lo] => sliceSem a (some lo) none
  | .slice false true, [a, .int hi] => sliceSem a none (some hi)
  | .slice false false, [a] => sliceSem a none none
  | .rev, [.tup xs] => M.ret (.tup xs.reverse)
  | .bi b, ds => biSem b ds
  | .isi t, [a] => fun S => if okT S a = true then .ok (.bl (isT S t a)) S else .stuck
  | .isis ts, [a] => fun S => if okT S a = true then .ok (.bl (ts.any fun t => isT S t a)) S else .stuck
  | .meth .join, [.str z, .lst xs] => joinSem z xs
  | .mnd mx, [.lst xs, d] => (match allI xs with
    | some (n :: ns) => M.ret (.int (pickI mx n ns))
    | some [] => M.ret d
    | none => M.stk)
  | .tup, ds => if ds.length ≤ sizeLine then M.ret (.tup ds) else M.stk
  | .lst, ds => if ds.length ≤ sizeLine then M.ret (.lst ds) else M.stk
  | _, _ => M.stk
def truth (d : D) : M Bool := fun S => match d with
  | .bl b => .ok b S
  | _ => .stuck
/-- what a zip may walk -/
def sideOf : D → Option (List D)
  | .str z => some (signs z)
  | .tup xs => some xs
  | .lst xs => some xs
  | .scr xs => some xs
  | _ => none
def srcItems : SK → List D → M (List D)
  | .val, [a] => (match a with
    | .str z => M.ret (signs z)
    | .tup xs => M.ret xs
    | .lst xs => M.ret xs
    | .scr xs => M.ret xs
    | _ => M.stk)
  | .range1, [.int n] => if -(2 ^ 62) ≤ n ∧ n ≤ 16777216 then M.ret ((List.range n.toNat).map fun i => D.int (i : Nat)) else M.stk
  | .range2, [.int a, .int b] => if -(2 ^ 62) ≤ a ∧ a < 2 ^ 62 ∧ -(2 ^ 62) ≤ b ∧ b < 2 ^ 62 ∧ b - a ≤ 16777216 then M.ret ((List.range (b - a).toNat).map fun i => D.int (a + (i : Nat))) else M.stk
  | .enum, [.lst xs] => M.ret (xs.mapIdx fun i x => .tup [.int i, x])
  | .zip, [a, b] => (match sideOf a, sideOf b with
    | some xs, some ys => M.ret ((xs.zip ys).map fun p => .tup [p.1, p.2])
    | _, _ => M.stk)
  | _, _ => M.stk

/-! ### what an expression computes -/
abbrev Env := List (Option D)
def wipe (env : Env) : List Nat → Env
  | [] => env
  | v :: vs => (wipe env vs).set v none
mutual
/-- what a target stores, from the left -/
def assigns : Tg → D → Option (List (Nat × D))
  | .name i, d => some [(i, d)]
  | .tup ts, .tup ds => if ts.length = ds.length then assignsAll ts ds else none
  | .tup _, _ => none
def assignsAll : List Tg → List D → Option (List (Nat × D))
  | [], _ => some []
  | t :: ts, d :: ds => (assigns t d).bind fun a => (assignsAll ts ds).map fun r => a ++ r
  | _ :: _, [] => none
end
def setAll {α : Type} (l : List α) (as : List (Nat × α)) : List α := as.foldl (fun l p => l.set p.1 p.2) l
def bindT (t : Tg) (d : D) (env : Env) : Option Env := (assigns t d).map fun as => setAll env (as.map fun p => (p.1, some p.2))
/-- a comprehension's loop: f tells what a turn adds -/
def compLoop (f : D → M (Option D)) : List D → M (List D)
  | [] => M.ret []
  | x :: xs => M.bind (M.noX (f x)) fun o => M.bind (compLoop f xs) fun ys => M.ret (match o with
    | some y => y :: ys
    | none => ys)
/-- a call with keywords: the n positional values, then the keywords' k values in the parameters' order -/
def plc {α : Type} (n k : Nat) (perm : List Nat) (us ws : List α) : List α := if us.length = n ∧ ws.length = k then us ++ perm.filterMap (fun i => ws[i]?) else []
/-- where the arguments may not raise -/
def argX (h : Hd) (m : M (List D)) : M (List D) := match h with
  | .slice true true => M.noX m
  | .meth _ => M.noX m
  | _ => m
/-- what the law's own try makes of a lambda's end -/
def gotSem (why : Bool) : Res D → Res D
  | .ok d S => .ok (if why = true then .tup [.str "", .non] else .tup [.str "value", d]) S
  | .exc x S => .ok (.tup [.str x.cls, x.arg.getD .non]) S
  | .stuck => .stuck
section
variable (gl : Nat → Option D) (cal : Nat → List D → M D)
mutual
def evalE : E → Env → M D
  | .const d, _ => M.ret d
  | .var i, env => (match env[i]? with
    | some (some d) => M.ret d
    | _ => M.stk)
  | .glob g, _ => (match gl g with
    | some d => M.ret d
    | none => M.stk)
  | .op h es, env => M.bind (argX h (evalEs es env)) (opSem h)
  | .alloc es, env => M.bind (evalEs es env) fun ds S => if ds.length ≤ sizeLine ∧ D.clns ds = true then .ok (.loc S.length) (S ++ [.lst ds]) else .stuck
  | .call f es, env => M.bind (evalEs es env) (cal f)
  | .callK f n ks perm es kes, env => M.bind (evalEs es env) fun us => M.bind (evalEs kes env) fun ws => cal f (plc n ks.length perm us ws)
  | .chain o1 o2 a b c, env => M.bind (evalE a env) fun x => M.bind (evalE b env) fun y => M.bind (cmpSem o1 x y) fun k => M.bind (truth k) fun k => if k = true then M.bind (evalE c env) (cmpSem o2 y) else okB false
  | .not a, env => M.bind (evalE a env) fun d => M.bind (truth d) fun b => okB (!b)
  | .bool conj es, env => evalBool conj es env
  | .ife t a b, env => M.bind (evalE t env) fun d => M.bind (truth d) fun c => if c = true then evalE a env else evalE b env
  | .comp own elt tg k es ifs, env => M.bind (evalEs es env) fun ds => M.bind (srcItems k ds) fun items => M.bind (compLoop (fun x => match bindT tg x (wipe env own) with
    | some env' => M.bind (evalIfs ifs env') fun c => if c = true then M.bind (evalE elt env') fun y => M.ret (some y) else M.ret none
    | none => M.stk) items) fun ys => M.ret (.lst ys)
  | .got why e, env => fun S => gotSem why (evalE e env S)
def evalEs : List E → Env → M (List D)
  | [], _ => M.ret []
  | e :: es, env => M.bind (evalE e env) fun d => M.bind (evalEs es env) fun ds => M.ret (d :: ds)
def evalBool : Bool → List E → Env → M D
  | _, [], _ => M.stk
  | _, [e], env => M.bind (evalE e env) fun d => M.bind (truth d) fun b => okB b
  | conj, e :: e2 :: es, env => M.bind (evalE e env) fun d => M.bind (truth d) fun b => if b = conj then evalBool conj (e2 :: es) env else okB b
def evalIfs : List E → Env → M Bool
  | [], _ => M.ret true
  | e :: es, env => M.bind (evalE e env) fun d => M.bind (truth d) fun b => if b = true then evalIfs es env else M.ret false
end
end

/-! ### what a statement does -/
inductive Slot where
  | no | val (d : D) | own (xs : List D)
  deriving Inhabited
abbrev Fr := List Slot
def Slot.str : Slot → Option D
  | .val d => some d
  | _ => none
def Slot.brw : Slot → Option D
  | .val d => some d
  | .own xs => some (.scr xs)
  | .no => none
def Fr.env (m : Bool) (fr : Fr) : Env := fr.map (if m then Slot.brw else Slot.str)
/-- what is read with the own lists in view does not keep them -/
def fitM (m : Bool) (d : D) : M D := if m = true ∧ d.cln = false then M.stk else M.ret d
/-- an exception does not keep them either -/
def fitX {α : Type} (m : Bool) : Res α → Res α
  | .exc x S => if m = true ∧ (x.arg.map D.cln) = some false then .stuck else .exc x S
  | r => r
def storeT (t : Tg) (d : D) (fr : Fr) : Option Fr := (assigns t d).map fun as => setAll fr (as.map fun p => (p.1, Slot.val p.2))
inductive Out where
  | nx (fr : Fr) | ret (d : D) | bk (fr : Fr) | ct (fr : Fr)
def forLoop (f : D → Fr → M Out) : List D → Fr → M Out
  | [], fr => M.ret (.nx fr)
  | x :: xs, fr => M.bind (f x fr) fun o => match o with
    | .nx fr' => forLoop f xs fr'
    | .ct fr' => forLoop f xs fr'
    | .bk fr' => M.ret (.nx fr')
    | .ret d => M.ret (.ret d)
/-- a while, at most n turns -/
def whileLoop (t : Fr → M Bool) (f : Fr → M Out) : Nat → Fr → M Out
  | 0, _ => M.stk
  | n + 1, fr => M.bind (t fr) fun c => if c = true then M.bind (f fr) fun o => (match o with
    | .nx fr' => whileLoop t f n fr'
    | .ct fr' => whileLoop t f n fr'
    | .bk fr' => M.ret (.nx fr')
    | .ret d => M.ret (.ret d)) else M.ret (.nx fr)
section
variable (gl : Nat → Option D) (cal : Nat → List D → M D)
def readE (m : Bool) (e : E) (fr : Fr) : M D := fun S => fitX m (M.bind (evalE gl cal e (fr.env m)) (fitM m) S)
def readEs (m : Bool) (es : List E) (fr : Fr) : M (List D) := fun S => fitX m (M.bind (evalEs gl cal es (fr.env m)) (fun ds => if m = true ∧ D.clns ds = false then M.stk else M.ret ds) S)
mutual
def exec : Cmd → Fr → M Out
  | .asg m tg e, fr => M.bind (readE gl cal m e fr) fun d => match storeT tg d fr with
    | some fr' => M.ret (.nx fr')
    | none => M.stk
  | .own i es, fr => M.bind (readEs gl cal true es fr) fun ds => if ds.length ≤ sizeLine then M.ret (.nx (fr.set i (.own ds))) else M.stk
  | .app m i e, fr => (match fr[i]? with
    | some (.own xs) => M.bind (readE gl cal m e fr) fun d => if xs.length < sizeLine then M.ret (.nx (fr.set i (.own (xs ++ [d])))) else M.stk
    | _ => M.stk)
  | .setIx o i v, fr => M.bind (readE gl cal true v fr) fun d => M.bind (readE gl cal true o fr) fun a => M.bind (readE gl cal true i fr) fun j S => match a, j with
    | .loc n, .int j => (match S[n]? with
      | some (.lst xs) => (match L2.ixN xs.length j with
        | some q => .ok (.nx fr) (S.set n (.lst (xs.set q d)))
        | none => .stuck)
      | _ => .stuck)
    | _, _ => .stuck
  | .putIx m i j v, fr => (match fr[i]? with
    | some (.own xs) => M.bind (readE gl cal m v fr) fun d => M.bind (readE gl cal true j fr) fun j => (match j with
      | .int j => (match L2.ixN xs.length j with
        | some q => M.ret (.nx (fr.set i (.own (xs.set q d))))
        | none => M.stk)
      | _ => M.stk)
    | _ => M.stk)
  | .par m is es, fr => M.bind (readEs gl cal m es fr) fun ds => if ds.length = is.length then M.ret (.nx (setAll fr (is.zip (ds.map Slot.val)))) else M.stk
  | .ifs m t a b, fr => M.bind (readE gl cal m t fr) fun d => M.bind (truth d) fun c => if c = true then execs a fr else execs b fr
  | .for_ tg k es body, fr => M.bind (evalEs gl cal es (fr.env false)) fun ds => M.bind (srcItems k ds) fun items => forLoop (fun x fr => match storeT tg x fr with
    | some fr' => execs body fr'
    | none => M.stk) items fr
  | .ret m e, fr => M.bind (readE gl cal m e fr) fun d => M.ret (.ret d)
  | .expr m e, fr => M.bind (readE gl cal m e fr) fun _ => M.ret (.nx fr)
  | .frz i, fr => (match fr[i]? with
    | some (.own xs) => M.ret (.nx (fr.set i (.val (.lst xs))))
    | _ => M.stk)
  | .brk, fr => M.ret (.bk fr)
  | .cnt, fr => M.ret (.ct fr)
  | .pass, fr => M.ret (.nx fr)
  | .dead, _ => M.stk
  | .raise m x es, fr => M.bind (readEs gl cal m es fr) fun ds S => if ds.length = es.length ∧ ds.length ≤ 1 then .exc ⟨x, ds[0]?⟩ S else .stuck
  | .whl n m t body, fr => whileLoop (fun fr => M.bind (readE gl cal m t fr) truth) (fun fr => execs body fr) n fr
def execs : List Cmd → Fr → M Out
  | [], fr => M.ret (.nx fr)
  | s :: ss, fr => M.bind (exec s fr) fun o => match o with
    | .nx fr' => execs ss fr'
    | o => M.ret o
end
end
/-- a def: how many parameters, how many slots, its body -/
structure Fn where
  np : Nat
  ns : Nat
  body : List Cmd
def startF (n : Nat) (ds : List D) : Fr := ds.map Slot.val ++ List.replicate (n - ds.length) Slot.no
/-- what a def gives, at most k calls deep -/
def run (gl : Nat → Option D) (prog : List Fn) : Nat → Nat → List D → M D
  | 0, _, _ => M.stk
  | k + 1, f, ds => match prog[f]? with
    | some fn => if ds.length = fn.np then M.bind (execs gl (run gl prog k) fn.body (startF fn.ns ds)) fun o => (match o with
      | .ret d => M.ret d
      | .nx _ => M.ret .non
      | _ => M.stk) else M.stk
    | none => M.stk
end Z

/-! Z1: how data lie in the tracked heap -/
namespace Z
open PySem PySem.Spec PyProof.Rows L2

/-- what others own: read by some -/
abbrev Fs := List (Addr × Bool)
def wrp (o : HO) : HO := .frz { cls := .none } o
/-- what one leans on: not the store's things; what others own is read at most -/
def tbB : HO → Bool
  | .tbl _ => true
  | _ => false
/-- no table -/
def ntb : Option HO → Option HO
  | some (.tbl _) => none
  | o => o
theorem ntb_some {o : Option HO} {u : HO} (h : ntb o = some u) : o = some u ∧ tbB u = false := by
  unfold ntb at h
  split at h
  · cases h
  · subst h
    refine ⟨rfl, ?_⟩
    unfold tbB
    split
    · rename_i q
      exact absurd rfl (q _)
    · rfl
theorem ntb_of {o : Option HO} {u : HO} (h : o = some u) (t : tbB u = false) : ntb o = some u := by
  subst h
  cases u <;> first | rfl | cases t
def del (H : Hp) (F : Fs) (ρ : List Addr) : Hp := fun a => if a ∈ ρ then none else match F.lookup a with
  | none => ntb (H a)
  | some true => (ntb (H a)).map wrp
  | some false => none
theorem lookup_mem : ∀ {F : Fs} {a : Addr} {b : Bool}, F.lookup a = some b → (a, b) ∈ F
  | [], _, _, h => by cases h
  | (c, k) :: F, a, b, h => by
    rw [List.lookup_cons] at h
    by_cases hc : (a == c) = true
    · rw [hc] at h
      cases h
      rw [eq_of_beq hc]
      exact List.mem_cons_self
    · rw [Bool.not_eq_true] at hc
      rw [hc] at h
      exact List.mem_cons_of_mem _ (lookup_mem h)
theorem lookup_none {F : Fs} {a : Addr} (h : ∀ p ∈ F, p.1 ≠ a) : F.lookup a = none := by
  cases q : F.lookup a with
  | none => rfl
  | some b => exact absurd rfl (h _ (lookup_mem q))
theorem del_at {H : Hp} {F : Fs} {ρ : List Addr} {a : Addr} (h1 : a ∉ ρ) (h2 : F.lookup a = none) {o : HO} (e : H a = some o) (t : tbB o = false := by rfl) : del H F ρ a = some o := by
  unfold del
  rw [if_neg h1, h2]
  exact ntb_of e t
theorem del_cases {H : Hp} {F : Fs} {ρ : List Addr} {a : Addr} {o : HO} (h : del H F ρ a = some o) : a ∉ ρ ∧ ((F.lookup a = none ∧ H a = some o) ∨ (F.lookup a = some true ∧ ∃ u, H a = some u ∧ o = wrp u)) ∧ ∃ u, H a = some u ∧ tbB u = false := by
  unfold del at h
  by_cases h1 : a ∈ ρ
  · rw [if_pos h1] at h; cases h
  · rw [if_neg h1] at h
    refine ⟨h1, ?_⟩
    split at h
    · rename_i q
      obtain ⟨e1, e2⟩ := ntb_some h
      exact ⟨.inl ⟨q, e1⟩, _, e1, e2⟩
    · rename_i q
      obtain ⟨u, e1, e2⟩ := Option.map_eq_some_iff.mp h
      obtain ⟨e1, e3⟩ := ntb_some e1
      exact ⟨.inr ⟨q, u, e1, e2.symm⟩, _, e1, e3⟩
    · cases h
theorem del_ne {H : Hp} {F : Fs} {ρ : List Addr} {a : Addr} {o : HO} (h : del H F ρ a = some o) : H a ≠ none := by
  obtain ⟨_, h | ⟨_, u, h, _⟩, _⟩ := del_cases h
  · rw [h.2]; intro z; cases z
  · rw [h]; intro z; cases z
theorem del_lst {H : Hp} {F : Fs} {ρ : List Addr} {a : Addr} {xs : List V} (h : del H F ρ a = some (.lst xs)) : H a = some (.lst xs) := by
  obtain ⟨_, h | ⟨_, u, _, h⟩, _⟩ := del_cases h
  · exact h.2
  · cases h
theorem ex_ne {H : Hp} {a : Addr} (h : ∃ u, H a = some u ∧ tbB u = false) : H a ≠ none := by
  obtain ⟨u, e, _⟩ := h
  rw [e]
  exact fun z => nomatch z
/-- leaning by place: where neither changes, so stays what one leans on -/
theorem del_same {H H' : Hp} {F F' : Fs} {ρ ρ' : List Addr} {a : Addr} {o : HO} (h : del H F ρ a = some o) (e : a ∉ ρ → (∃ u, H a = some u ∧ tbB u = false) → a ∉ ρ' ∧ F'.lookup a = F.lookup a ∧ H' a = H a) : del H' F' ρ' a = some o := by
  have n := (del_cases h).1
  obtain ⟨h1, h2, h3⟩ := e n (del_cases h).2.2
  unfold del at h ⊢
  rw [if_neg n] at h
  rw [if_neg h1, h2, h3]
  exact h
abbrev Le (G G' : Hp) : Prop := ∀ a o, G a = some o → G' a = some o
/-- what is read as a list, a tuple -/
def RLe (G G' : Hp) : Prop := ∀ a, (∀ xs, Rd G a (.lst xs) → Rd G' a (.lst xs)) ∧ ∀ xs, Rd G a (.tup xs) → Rd G' a (.tup xs)
theorem Rd.le {G G' : Hp} {a : Addr} {u : HO} (h : Le G G') (r : Rd G a u) : Rd G' a u := by
  rcases r with r | ⟨o, r⟩
  · exact .inl (h _ _ r)
  · exact .inr ⟨o, h _ _ r⟩
theorem Le.r {G G' : Hp} (h : Le G G') : RLe G G' := fun _ => ⟨fun _ r => Rd.le h r, fun _ r => Rd.le h r⟩
theorem SqL.le {K : PySem.W.Frag} {G G' : Hp} {a : Addr} {xs : List V} (h : RLe G G') (r : SqL K G a xs) : SqL K G' a xs := by
  rcases r with r | r
  · exact .inl ((h a).1 _ r)
  · exact .inr r
theorem SqT.le {K : PySem.W.Frag} {G G' : Hp} {a : Addr} {xs : List V} (h : RLe G G') (r : SqT K G a xs) : SqT K G' a xs := by
  rcases r with r | r
  · exact .inl ((h a).2 _ r)
  · exact .inr r
theorem del_leH {H : Hp} {F : Fs} {ρ : List Addr} : RLe (del H F ρ) H := by
  have key : ∀ (a : Addr) (u : HO), (∀ o w, u ≠ .frz o w) → Rd (del H F ρ) a u → Rd H a u := fun a u hu r => by
    rcases r with r | ⟨o, r⟩
    · obtain ⟨_, r | ⟨_, w, _, e⟩, _⟩ := del_cases r
      · exact .inl r.2
      · exact absurd e (hu _ _)
    · obtain ⟨_, r | ⟨_, w, r, e⟩, _⟩ := del_cases r
      · exact .inr ⟨o, r.2⟩
      · cases e
        exact .inl r
  exact fun a => ⟨fun xs => key a _ (fun o w e => by cases e), fun xs => key a _ (fun o w e => by cases e)⟩
/-- where the class x stands -/
def mgA (K : PySem.W.Frag) (x : Str) : Option Addr := match PySem.W.nsIn K mainGlobals x with
  | some (some (.ref a)) => some a
  | _ => none
mutual
/-- v holds d: G, what may not change; ρ, where the store's things stand -/
inductive Rep (K : PySem.W.Frag) (G : Hp) (ρ : List Addr) : V → D → Prop
  | non : Rep K G ρ .non .non
  | bl (b : Bool) : Rep K G ρ (.bl b) (.bl b)
  | int (i : Int) : Rep K G ρ (.int i) (.int i)
  | str {s : Str} : s.length ≤ sizeLine → PySem.PyData.strOk s = true → Rep K G ρ (.str s) (.str s)
  | tup {a : Addr} {vs : List V} {ds : List D} : SqT K G a vs → RepA K G ρ vs ds → ds.length ≤ sizeLine → Rep K G ρ (.ref a) (.tup ds)
  | lst {a : Addr} {vs : List V} {ds : List D} : G a = some (.lst vs) → RepA K G ρ vs ds → ds.length ≤ sizeLine → Rep K G ρ (.ref a) (.lst ds)
  | loc {a : Addr} {n : Nat} : ρ[n]? = some a → Rep K G ρ (.ref a) (.loc n)
  | scr {a : Addr} {vs : List V} {ds : List D} : SqL K G a vs → RepA K G ρ vs ds → ds.length ≤ sizeLine → Rep K G ρ (.ref a) (.scr ds)
  | ins {a C dx : Addr} {fs : List (Str × V)} {x : Str} {ns : List Str} {vs : List V} {ds : List D} : G a = some (.ins C dx fs) → mgA K x = some C → (∀ f, fs.lookup f = (ns.zip vs).lookup f) → RepA K G ρ vs ds → ns.length = ds.length → Rep K G ρ (.ref a) (.ins x ns ds)
inductive RepA (K : PySem.W.Frag) (G : Hp) (ρ : List Addr) : List V → List D → Prop
  | nil : RepA K G ρ [] []
  | cons {v : V} {vs : List V} {d : D} {ds : List D} : Rep K G ρ v d → RepA K G ρ vs ds → RepA K G ρ (v :: vs) (d :: ds)
end
section
variable {K : PySem.W.Frag} {G G' : Hp} {ρ ρ' : List Addr}
mutual
theorem Rep.le (h : Le G G') (p : ρ <+: ρ') : ∀ (d : D) (v : V), Rep K G ρ v d → Rep K G' ρ' v d
  | .non, _, r => by cases r; exact .non
  | .bl b, _, r => by cases r; exact .bl b
  | .int i, _, r => by cases r; exact .int i
  | .str s, _, r => by
    cases r with
    | str z z' => exact .str z z'
  | .tup ds, _, r => by
    cases r with
    | tup a b z => exact .tup (SqT.le (Le.r h) a) (RepA.le h p ds _ b) z
  | .lst ds, _, r => by
    cases r with
    | lst a b z => exact .lst (h _ _ a) (RepA.le h p ds _ b) z
  | .scr ds, _, r => by
    cases r with
    | scr a b z => exact .scr (SqL.le (Le.r h) a) (RepA.le h p ds _ b) z
  | .loc n, _, r => by
    cases r with
    | loc e =>
      obtain ⟨t, rfl⟩ := p
      refine .loc ?_
      rw [List.getElem?_append_left (List.getElem?_eq_some_iff.mp e).1]
      exact e
  | .ins x ns ds, _, r => by
    cases r with
    | ins a b q c z => exact .ins (h _ _ a) b q (RepA.le h p ds _ c) z
theorem RepA.le (h : Le G G') (p : ρ <+: ρ') : ∀ (ds : List D) (vs : List V), RepA K G ρ vs ds → RepA K G' ρ' vs ds
  | [], _, r => by cases r; exact .nil
  | d :: ds, _, r => by
    cases r with
    | cons a b => exact .cons (Rep.le h p d _ a) (RepA.le h p ds _ b)
end
mutual
/-- what is not read alone leans on nothing that is only read -/
theorem Rep.cln (hl : ∀ a vs, G a = some (.lst vs) → G' a = some (.lst vs)) (hi : ∀ a C dx fs, G a = some (.ins C dx fs) → G' a = some (.ins C dx fs)) (ht : ∀ a vs, SqT K G a vs → SqT K G' a vs) : ∀ (d : D) (v : V), d.cln = true → Rep K G ρ v d → Rep K G' ρ v d
  | .non, _, _, r => by cases r; exact .non
  | .bl b, _, _, r => by cases r; exact .bl b
  | .int i, _, _, r => by cases r; exact .int i
  | .str s, _, _, r => by
    cases r with
    | str z z' => exact .str z z'
  | .tup ds, _, f, r => by
    cases r with
    | tup a b z => exact .tup (ht _ _ a) (RepA.cln hl hi ht ds _ (by simpa [D.cln] using f) b) z
  | .lst ds, _, f, r => by
    cases r with
    | lst a b z => exact .lst (hl _ _ a) (RepA.cln hl hi ht ds _ (by simpa [D.cln] using f) b) z
  | .scr ds, _, f, _ => by simp [D.cln] at f
  | .loc n, _, _, r => by
    cases r with
    | loc e => exact .loc e
  | .ins x ns ds, _, f, r => by
    cases r with
    | ins a b q c z => exact .ins (hi _ _ _ _ a) b q (RepA.cln hl hi ht ds _ (by simpa [D.cln] using f) c) z
theorem RepA.cln (hl : ∀ a vs, G a = some (.lst vs) → G' a = some (.lst vs)) (hi : ∀ a C dx fs, G a = some (.ins C dx fs) → G' a = some (.ins C dx fs)) (ht : ∀ a vs, SqT K G a vs → SqT K G' a vs) : ∀ (ds : List D) (vs : List V), D.clns ds = true → RepA K G ρ vs ds → RepA K G' ρ vs ds
  | [], _, _, r => by cases r; exact .nil
  | d :: ds, _, f, r => by
    cases r with
    | cons a b =>
      have f2 : d.cln = true ∧ D.clns ds = true := by simpa [D.clns] using f
      exact .cons (Rep.cln hl hi ht d _ f2.1 a) (RepA.cln hl hi ht ds _ f2.2 b)
end
mutual
theorem Rep.dp : ∀ (d : D) (v : V), d.dat = true → Rep K G ρ v d → Dp K G v d.py
  | .non, _, _, r => by cases r; exact .non
  | .bl b, _, _, r => by cases r; exact .bl b
  | .int i, _, _, r => by cases r; exact .int i
  | .str s, _, _, r => by cases r; exact .str s
  | .tup ds, _, f, r => by
    cases r with
    | tup a b z => exact .tup a (RepA.dp ds _ (by simpa [D.dat] using f) b)
  | .lst ds, _, f, r => by
    cases r with
    | lst a b z => exact .lst (.inl (.inl a)) (RepA.dp ds _ (by simpa [D.dat] using f) b)
  | .loc n, _, f, _ => by simp [D.dat] at f
  | .scr n, _, f, _ => by simp [D.dat] at f
  | .ins _ _ _, _, f, _ => by simp [D.dat] at f
theorem RepA.dp : ∀ (ds : List D) (vs : List V), D.dats ds = true → RepA K G ρ vs ds → DpAll K G vs (D.pys ds)
  | [], _, _, r => by cases r; exact .nil
  | d :: ds, _, f, r => by
    cases r with
    | cons a b =>
      have f2 : d.dat = true ∧ D.dats ds = true := by simpa [D.dats] using f
      exact .cons (Rep.dp d _ f2.1 a) (RepA.dp ds _ f2.2 b)
end
mutual
theorem Dp.le (h : RLe G G') : ∀ (d : PyData) (v : V), Dp K G v d → Dp K G' v d
  | .none, _, r => by cases r; exact .non
  | .bool b, _, r => by cases r; exact .bl b
  | .int i, _, r => by cases r; exact .int i
  | .str s, _, r => by cases r; exact .str s
  | .tuple ds, _, r => by
    cases r with
    | tup a b => exact .tup (SqT.le h a) (DpAll.le h ds _ b)
  | .list ds, _, r => by
    cases r with
    | lst a b => exact .lst (SqL.le h a) (DpAll.le h ds _ b)
  | .dict _, _, r => by cases r
theorem DpAll.le (h : RLe G G') : ∀ (ds : List PyData) (vs : List V), DpAll K G vs ds → DpAll K G' vs ds
  | [], _, r => by cases r; exact .nil
  | d :: ds, _, r => by
    cases r with
    | cons a b => exact .cons (Dp.le h d _ a) (DpAll.le h ds _ b)
end
theorem RepA.length : ∀ {vs : List V} {ds : List D}, RepA K G ρ vs ds → vs.length = ds.length
  | [], [], _ => rfl
  | [], _ :: _, r => nomatch r
  | _ :: _, [], r => nomatch r
  | _ :: _, _ :: _, r => by
    cases r with
    | cons a b => rw [List.length_cons, List.length_cons, RepA.length b]
theorem RepA.append : ∀ {vs ws : List V} {ds es : List D}, RepA K G ρ vs ds → RepA K G ρ ws es → RepA K G ρ (vs ++ ws) (ds ++ es)
  | [], _, [], _, _, q => q
  | [], _, _ :: _, _, r, _ => nomatch r
  | _ :: _, _, [], _, r, _ => nomatch r
  | _ :: _, _, _ :: _, _, r, q => by
    cases r with
    | cons a b => exact .cons a (RepA.append b q)
theorem RepA.get : ∀ {vs : List V} {ds : List D} {i : Nat} {d : D}, RepA K G ρ vs ds → ds[i]? = some d → ∃ v, vs[i]? = some v ∧ Rep K G ρ v d
  | [], [], i, d, _, h => by simp at h
  | [], _ :: _, _, _, r, _ => nomatch r
  | _ :: _, [], _, _, r, _ => nomatch r
  | v :: vs, e :: ds, i, d, r, h => by
    cases r with
    | cons a b =>
      cases i with
      | zero =>
        have e1 : e = d := Option.some.inj h
        subst e1
        exact ⟨v, rfl, a⟩
      | succ i => exact RepA.get (i := i) b (by simpa using h)
theorem RepA.get' : ∀ {vs : List V} {ds : List D} {i : Nat} {v : V}, RepA K G ρ vs ds → vs[i]? = some v → ∃ d, ds[i]? = some d ∧ Rep K G ρ v d
  | [], [], i, d, _, h => by simp at h
  | [], _ :: _, _, _, r, _ => nomatch r
  | _ :: _, [], _, _, r, _ => nomatch r
  | w :: vs, e :: ds, i, v, r, h => by
    cases r with
    | cons a b =>
      cases i with
      | zero =>
        have e1 : w = v := Option.some.inj h
        subst e1
        exact ⟨e, rfl, a⟩
      | succ i => exact RepA.get' (i := i) b (by simpa using h)
theorem RepA.take : ∀ {vs : List V} {ds : List D}, RepA K G ρ vs ds → ∀ n : Nat, RepA K G ρ (vs.take n) (ds.take n)
  | _, _, _, 0 => .nil
  | [], [], _, _ + 1 => .nil
  | [], _ :: _, r, _ => nomatch r
  | _ :: _, [], r, _ => nomatch r
  | _ :: _, _ :: _, r, n + 1 => by
    cases r with
    | cons a b => exact .cons a (RepA.take b n)
theorem RepA.drop : ∀ {vs : List V} {ds : List D}, RepA K G ρ vs ds → ∀ n : Nat, RepA K G ρ (vs.drop n) (ds.drop n)
  | _, _, r, 0 => r
  | [], [], _, _ + 1 => .nil
  | [], _ :: _, r, _ => nomatch r
  | _ :: _, [], r, _ => nomatch r
  | _ :: _, _ :: _, r, n + 1 => by
    cases r with
    | cons a b => exact RepA.drop b n
theorem RepA.set : ∀ {vs : List V} {ds : List D} {v : V} {d : D}, RepA K G ρ vs ds → Rep K G ρ v d → ∀ n : Nat, RepA K G ρ (vs.set n v) (ds.set n d)
  | [], [], _, _, r, _, _ => r
  | [], _ :: _, _, _, r, _, _ => nomatch r
  | _ :: _, [], _, _, r, _, _ => nomatch r
  | _ :: _, _ :: _, _, _, r, q, 0 => by
    cases r with
    | cons a b => exact .cons q b
  | _ :: _, _ :: _, _, _, r, q, n + 1 => by
    cases r with
    | cons a b => exact .cons a (RepA.set b q n)
theorem RepA.reverse : ∀ {vs : List V} {ds : List D}, RepA K G ρ vs ds → RepA K G ρ vs.reverse ds.reverse
  | [], [], r => r
  | [], _ :: _, r => nomatch r
  | _ :: _, [], r => nomatch r
  | _ :: _, _ :: _, r => by
    cases r with
    | cons a b =>
      rw [List.reverse_cons, List.reverse_cons]
      exact RepA.append (RepA.reverse b) (.cons a .nil)
theorem RepA.of {vs : List V} {ds : List D} (hl : vs.length = ds.length) (h : ∀ (i : Nat) v d, vs[i]? = some v → ds[i]? = some d → Rep K G ρ v d) : RepA K G ρ vs ds := by
  induction vs generalizing ds with
  | nil =>
    cases ds with
    | nil => exact .nil
    | cons _ _ => cases hl
  | cons v vs ih =>
    cases ds with
    | nil => cases hl
    | cons d ds => exact .cons (h 0 v d rfl rfl) (ih (by simpa using hl) fun i w e hw he => h (i + 1) w e (by simpa using hw) (by simpa using he))
end

/-! ### the store -/
/-- what all lean on: the written part, the tables of code objects, what is wished of an exception, the classes of exceptions and their fields -/
structure Kx where
  K : PySem.W.Frag
  T : List (Addr × Str)
  E : XK
  xc : Str → Option (Addr × Option Str)
def OB (K : PySem.W.Frag) (G : Hp) (ρ : List Addr) (H : Hp) (a : Addr) : SO → Prop
  | .lst xs => ∃ vs, H a = some (.lst vs) ∧ RepA K G ρ vs xs ∧ xs.length ≤ sizeLine ∧ D.clns xs = true
/-- the store S lies in H at ρ; F: what others own -/
structure Wf (K : Kx) (H : Hp) (F : Fs) (ρ : List Addr) (S : Store) : Prop where
  len : ρ.length = S.length
  nd : ρ.Nodup
  at_ : ∀ (n : Nat) (a : Addr) (o : SO), ρ[n]? = some a → S[n]? = some o → OB K.K (del H F ρ) ρ H a o
  fd : ∀ p ∈ F, H p.1 ≠ none ∧ p.1 ∉ ρ
  tabs : LamX.Tabs K.T H
/-- what has happened -/
structure Stp (K : Kx) (F : Fs) (H : Hp) (ρ : List Addr) (H' : Hp) (ρ' : List Addr) (S' : Store) : Prop where
  same : ∀ a o, H a = some o → a ∉ ρ → (tbB o = false) → H' a = some o
  tbl : ∀ a ps, H a = some (.tbl ps) → ∃ ps', H' a = some (.tbl ps')
  pre : ρ <+: ρ'
  fresh : ∀ a ∈ ρ', a ∈ ρ ∨ H a = none
  wf : Wf K H' F ρ' S'
section
variable {K : Kx} {H H' H1 H2 : Hp} {F : Fs} {ρ ρ' ρ1 ρ2 : List Addr} {S S' S1 S2 : Store}
theorem OB.le {G G' : Hp} {a : Addr} {o : SO} (h : Le G G') (p : ρ <+: ρ') (e : H a = H' a) (x : OB K.K G ρ H a o) : OB K.K G' ρ' H' a o := by
  cases o with
  | lst xs =>
    obtain ⟨vs, h1, h2, h3⟩ := x
    exact ⟨vs, e ▸ h1, RepA.le h p _ _ h2, h3⟩
theorem Wf.tr (w : Wf K H F ρ S) : ∀ a ∈ ρ, H a ≠ none := fun a ha => by
  obtain ⟨n, hn⟩ := List.getElem?_of_mem ha
  have hl : n < S.length := by rw [← w.len]; exact (List.getElem?_eq_some_iff.mp hn).1
  have q := w.at_ n a S[n] hn (List.getElem?_eq_getElem hl)
  revert q
  cases S[n] with
  | lst xs =>
    rintro ⟨vs, h1, _⟩ z
    rw [z] at h1
    cases h1
theorem Wf.nF (w : Wf K H F ρ S) {p : Addr} (h : H p = none) : F.lookup p = none := lookup_none fun q m e => (w.fd q m).1 (e ▸ h)
theorem Wf.nR (w : Wf K H F ρ S) {p : Addr} (h : H p = none) : p ∉ ρ := fun m => w.tr p m h
theorem Stp.refl (w : Wf K H F ρ S) : Stp K F H ρ H ρ S := ⟨fun _ _ e _ _ => e, fun _ ps e => ⟨ps, e⟩, List.prefix_rfl, fun _ h => .inl h, w⟩
theorem Stp.trans (a : Stp K F H ρ H1 ρ1 S1) (b : Stp K F H1 ρ1 H2 ρ2 S2) : Stp K F H ρ H2 ρ2 S2 where
  same := fun c o e n t => b.same c o (a.same c o e n t) (fun m => (a.fresh c m).elim n fun z => by rw [z] at e; cases e) t
  tbl := fun c ps e => by
    obtain ⟨qs, e1⟩ := a.tbl c ps e
    exact b.tbl c qs e1
  pre := a.pre.trans b.pre
  fresh := fun c m => (b.fresh c m).elim (fun m => a.fresh c m) fun z => by
    cases q : H c with
    | none => exact .inr rfl
    | some o =>
      by_cases hc : c ∈ ρ
      · exact .inl hc
      · exfalso
        cases t : tbB o with
        | false =>
          rw [a.same c o q hc t] at z
          cases z
        | true =>
          cases o with
          | tbl ps =>
            obtain ⟨_, e1⟩ := a.tbl c ps q
            rw [e1] at z
            cases z
          | _ => cases t
  wf := b.wf
theorem Stp.keep (a : Stp K F H ρ H1 ρ1 S1) {c : Addr} (n : c ∉ ρ) (e : ∃ u, H c = some u ∧ tbB u = false) : c ∉ ρ1 ∧ H1 c = H c := by
  obtain ⟨o, q, t⟩ := e
  exact ⟨fun m => (a.fresh c m).elim n (by rw [q]; exact fun z => nomatch z), by rw [q]; exact a.same c o q n t⟩
theorem Stp.le (a : Stp K F H ρ H1 ρ1 S1) : Le (del H F ρ) (del H1 F ρ1) := fun c o e => del_same e fun n h => ⟨(a.keep n h).1, rfl, (a.keep n h).2⟩
theorem Stp.rep (a : Stp K F H ρ H1 ρ1 S1) {v : V} {d : D} (r : Rep K.K (del H F ρ) ρ v d) : Rep K.K (del H1 F ρ1) ρ1 v d := Rep.le a.le a.pre _ _ r
theorem Stp.repA (a : Stp K F H ρ H1 ρ1 S1) {v : List V} {d : List D} (r : RepA K.K (del H F ρ) ρ v d) : RepA K.K (del H1 F ρ1) ρ1 v d := RepA.le a.le a.pre _ _ r
theorem tabs_new {T : List (Addr × Str)} {p : Addr} {o : HO} (t : LamX.Tabs T H) (h : H p = none) : LamX.Tabs T (upd H p o) := t.ext fun b u e => by rw [upd_ne (ne_of_none e h)]; exact e
theorem tabs_put {T : List (Addr × Str)} {p : Addr} {o u : HO} (t : LamX.Tabs T H) (h : H p = some u) (hu : (match u with | .tbl _ => false | .ext _ => false | _ => true) = true) : LamX.Tabs T (upd H p o) := fun q hq => by
  obtain ⟨ps, h1, h2, h3⟩ := t q hq
  refine ⟨ps, ?_, h2, fun pos cv hc => ?_⟩
  · rw [upd_ne fun z => ?_]
    · exact h1
    · rw [z, h] at h1
      cases h1
      cases hu
  · obtain ⟨c, e1, e2⟩ := h3 pos cv hc
    refine ⟨c, e1, ?_⟩
    rw [upd_ne fun z => ?_]
    · exact e2
    · rw [z, h] at e2
      cases e2
      cases hu
theorem Wf.trL (w : Wf K H F ρ S) : ∀ a ∈ ρ, ∃ vs, H a = some (.lst vs) := fun a ha => by
  obtain ⟨n, hn⟩ := List.getElem?_of_mem ha
  have hl : n < S.length := by rw [← w.len]; exact (List.getElem?_eq_some_iff.mp hn).1
  have q := w.at_ n a S[n] hn (List.getElem?_eq_getElem hl)
  revert q
  cases S[n] with
  | lst xs =>
    rintro ⟨vs, h1, _⟩
    exact ⟨vs, h1⟩
/-- a new object -/
theorem Wf.laid (w : Wf K H F ρ S) {p : Addr} (h : H p = none) (o : HO) : Stp K F H ρ (upd H p o) ρ S := by
  have le : Le (del H F ρ) (del (upd H p o) F ρ) := fun c u e => del_same e fun n z => ⟨n, rfl, upd_ne fun q => ex_ne z (q ▸ h)⟩
  refine ⟨fun a u e _ _ => by rw [upd_ne (ne_of_none e h)]; exact e, fun a ps e => ⟨ps, by rw [upd_ne (ne_of_none e h)]; exact e⟩, List.prefix_rfl, fun _ m => .inl m, w.len, w.nd, fun n a u e1 e2 => ?_, fun a m => ?_, tabs_new w.tabs h⟩
  · have na : a ≠ p := fun z => w.nR h (z ▸ List.mem_of_getElem? e1)
    exact OB.le le List.prefix_rfl (by rw [upd_ne na]) (w.at_ n a u e1 e2)
  · have na : a.1 ≠ p := fun z => (w.fd a m).1 (z ▸ h)
    rw [upd_ne na]
    exact w.fd a m
theorem Wf.newTup (w : Wf K H F ρ S) {p : Addr} (h : H p = none) {vs : List V} {ds : List D} (r : RepA K.K (del H F ρ) ρ vs ds) (z : ds.length ≤ sizeLine) :
    Rep K.K (del (upd H p (.tup vs)) F ρ) ρ (.ref p) (.tup ds) :=
  .tup (.inl (.inl (del_at (w.nR h) (w.nF h) upd_same))) ((w.laid h _).repA r) z
theorem Wf.newLst (w : Wf K H F ρ S) {p : Addr} (h : H p = none) {vs : List V} {ds : List D} (r : RepA K.K (del H F ρ) ρ vs ds) (z : ds.length ≤ sizeLine) :
    Rep K.K (del (upd H p (.lst vs)) F ρ) ρ (.ref p) (.lst ds) :=
  .lst (del_at (w.nR h) (w.nF h) upd_same) ((w.laid h _).repA r) z
/-- a new thing of the store -/
theorem Wf.alloc (w : Wf K H F ρ S) {p : Addr} (h : H p = none) {vs : List V} {ds : List D} (r : RepA K.K (del H F ρ) ρ vs ds) (z : ds.length ≤ sizeLine) (hc : D.clns ds = true) :
    Stp K F H ρ (upd H p (.lst vs)) (ρ ++ [p]) (S ++ [.lst ds]) := by
  have le : Le (del H F ρ) (del (upd H p (.lst vs)) F (ρ ++ [p])) := fun c u e => del_same e fun n z => by
    have nc : c ≠ p := fun q => ex_ne z (q ▸ h)
    refine ⟨fun m => ?_, rfl, upd_ne nc⟩
    rcases List.mem_append.mp m with m | m
    · exact n m
    · exact nc (by simpa using m)
  have pre : ρ <+: ρ ++ [p] := List.prefix_append _ _
  refine ⟨fun a u e _ _ => by rw [upd_ne (ne_of_none e h)]; exact e, fun a ps e => ⟨ps, by rw [upd_ne (ne_of_none e h)]; exact e⟩, pre, fun a m => ?_, by simp [w.len], ?_, fun n a u e1 e2 => ?_, fun a m => ?_, tabs_new w.tabs h⟩
  · rcases List.mem_append.mp m with m | m
    · exact .inl m
    · exact .inr (by have e : a = p := by simpa using m
                     rw [e]; exact h)
  · refine List.nodup_append.mpr ⟨w.nd, by simp, fun a ha b hb => ?_⟩
    have e : b = p := by simpa using hb
    subst e
    rintro rfl
    exact w.nR h ha
  · by_cases hn : n < ρ.length
    · rw [List.getElem?_append_left hn] at e1
      rw [List.getElem?_append_left (by rw [← w.len]; exact hn)] at e2
      have na : a ≠ p := fun z => w.nR h (z ▸ List.mem_of_getElem? e1)
      exact OB.le le pre (by rw [upd_ne na]) (w.at_ n a u e1 e2)
    · have hn' : n = ρ.length := by
        have := (List.getElem?_eq_some_iff.mp e1).1
        simp at this
        omega
      subst hn'
      have ea : p = a := by simpa using e1
      have eu : SO.lst ds = u := by simpa [w.len] using e2
      subst ea eu
      exact ⟨vs, upd_same, RepA.le le pre _ _ r, z, hc⟩
  · have na : a.1 ≠ p := fun z => (w.fd a m).1 (z ▸ h)
    rw [upd_ne na]
    refine ⟨(w.fd a m).1, fun m' => ?_⟩
    rcases List.mem_append.mp m' with m' | m'
    · exact (w.fd a m).2 m'
    · exact na (by simpa using m')
/-- a list of the store is written -/
theorem Wf.write (w : Wf K H F ρ S) {p : Addr} {n : Nat} (h : ρ[n]? = some p) {vs : List V} {ds : List D} (r : RepA K.K (del H F ρ) ρ vs ds) (z : ds.length ≤ sizeLine) (hc : D.clns ds = true) :
    Stp K F H ρ (upd H p (.lst vs)) ρ (S.set n (.lst ds)) := by
  have mp : p ∈ ρ := List.mem_of_getElem? h
  have le : Le (del H F ρ) (del (upd H p (.lst vs)) F ρ) := fun c u e => del_same e fun n _ => ⟨n, rfl, upd_ne fun z => n (z ▸ mp)⟩
  obtain ⟨us, hus⟩ := w.trL p mp
  refine ⟨fun a u e na _ => by rw [upd_ne (fun z : a = p => na (z ▸ mp))]; exact e, fun a ps e => ⟨ps, by rw [upd_ne (fun z : a = p => by rw [z, hus] at e; cases e)]; exact e⟩, List.prefix_rfl, fun a m => .inl m, by simp [w.len], w.nd, fun m a u e1 e2 => ?_, fun a m => ?_, tabs_put w.tabs hus rfl⟩
  · by_cases hm : m = n
    · subst hm
      have ea : p = a := Option.some.inj (h.symm.trans e1)
      subst ea
      have hl : m < S.length := by rw [← w.len]; exact (List.getElem?_eq_some_iff.mp h).1
      rw [List.getElem?_set_self hl] at e2
      cases e2
      exact ⟨vs, upd_same, RepA.le le List.prefix_rfl _ _ r, z, hc⟩
    · rw [List.getElem?_set_ne (fun z => hm z.symm)] at e2
      have na : a ≠ p := fun z => hm (nodup_ix' w.nd e1 (z ▸ h))
      exact OB.le le List.prefix_rfl (by rw [upd_ne na]) (w.at_ m a u e1 e2)
  · have na : a.1 ≠ p := fun z => (w.fd a m).2 (z ▸ mp)
    rw [upd_ne na]
    exact w.fd a m
where
  nodup_ix' {N : List Addr} (hN : N.Nodup) {i j : Nat} {x : Addr} (a : N[i]? = some x) (b : N[j]? = some x) : i = j := by
    obtain ⟨h1, e1⟩ := List.getElem?_eq_some_iff.mp a
    obtain ⟨h2, e2⟩ := List.getElem?_eq_some_iff.mp b
    exact (List.getElem_inj hN).mp (e1.trans e2.symm)
end

/-! ### readings -/
/-- the exception x: its class c, its dict d -/
def RepX (K : Kx) (G : Hp) (ρ : List Addr) (c : Value) (d : Option Addr) (H : Hp) (x : Ex) : Prop :=
  ∃ (C : Addr) (fo : Option Str) (dx : Addr) (fs : List (Str × V)), K.xc x.cls = some (C, fo) ∧ c = .ref C ∧ d = some dx ∧ H dx = some (.xd fs) ∧ fs.lookup ("tag" : Str) = some (V.str x.cls) ∧
    (match fo, x.arg with
      | none, none => True
      | some f, some a => ∃ v, fs.lookup f = some v ∧ Rep K.K G ρ v a
      | _, _ => False)
def PostE (K : Kx) (F : Fs) (H : Hp) (ρ : List Addr) (x : Ex) (S' : Store) : Prop := ∀ c d H' ρ', Stp K F H ρ H' ρ' S' → RepX K (del H' F ρ') ρ' c d H' x → K.E c d H'
def Post (K : Kx) (F : Fs) (H : Hp) (ρ : List Addr) (Q : VK) : Res D → Prop
  | .ok d S' => ∀ v H' ρ', Stp K F H ρ H' ρ' S' → Rep K.K (del H' F ρ') ρ' v d → Q v H'
  | .exc x S' => PostE K F H ρ x S'
  | .stuck => False
def PostA (K : Kx) (F : Fs) (H : Hp) (ρ : List Addr) (Q : List V → Hp → Prop) : Res (List D) → Prop
  | .ok d S' => ∀ v H' ρ', Stp K F H ρ H' ρ' S' → RepA K.K (del H' F ρ') ρ' v d → Q v H'
  | .exc x S' => PostE K F H ρ x S'
  | .stuck => False
def PostB (K : Kx) (F : Fs) (H : Hp) (ρ : List Addr) (Q : Bool → Hp → Prop) : Res Bool → Prop
  | .ok d S' => ∀ H' ρ', Stp K F H ρ H' ρ' S' → Q d H'
  | .exc x S' => PostE K F H ρ x S'
  | .stuck => False
def EnvOk (K : PySem.W.Frag) (G : Hp) (ρ : List Addr) (env : Env) (σ : L2.St) : Prop := env.length ≤ σ.length ∧ ∀ (i : Nat) (d : D), env[i]? = some (some d) → ∃ v : V, σ[i]? = some (some v) ∧ Rep K G ρ v d
theorem EnvOk.le {K : PySem.W.Frag} {G G' : Hp} {ρ ρ' : List Addr} {env : Env} {σ : L2.St} (h : Le G G') (p : ρ <+: ρ') (e : EnvOk K G ρ env σ) : EnvOk K G' ρ' env σ := ⟨e.1, fun i d q => by
  obtain ⟨v, h1, h2⟩ := e.2 i d q
  exact ⟨v, h1, Rep.le h p _ _ h2⟩⟩
def tE (K : Kx) (f : Env → M D) : TE := fun σ H Q => ∃ F ρ S env, Wf K H F ρ S ∧ EnvOk K.K (del H F ρ) ρ env σ ∧ Post K F H ρ Q (f env S)
def tA (K : Kx) (f : Env → M (List D)) : TA := fun σ H Q => ∃ F ρ S env, Wf K H F ρ S ∧ EnvOk K.K (del H F ρ) ρ env σ ∧ PostA K F H ρ Q (f env S)
def tB (K : Kx) (f : Env → M Bool) : TT := fun σ H Q => ∃ F ρ S env, Wf K H F ρ S ∧ EnvOk K.K (del H F ρ) ρ env σ ∧ PostB K F H ρ Q (f env S)
/-- what is asked of values that hold data -/
def r1 (K : Kx) (g : D → M D) : V → Hp → VK → Prop := fun x H Q => ∃ F ρ S d, Wf K H F ρ S ∧ Rep K.K (del H F ρ) ρ x d ∧ Post K F H ρ Q (g d S)
def r2 (K : Kx) (g : D → D → M D) : R2 := fun x y H Q => ∃ F ρ S d e, Wf K H F ρ S ∧ Rep K.K (del H F ρ) ρ x d ∧ Rep K.K (del H F ρ) ρ y e ∧ Post K F H ρ Q (g d e S)
def rA (K : Kx) (g : List D → M D) : List V → Hp → VK → Prop := fun xs H Q => ∃ F ρ S ds, Wf K H F ρ S ∧ RepA K.K (del H F ρ) ρ xs ds ∧ Post K F H ρ Q (g ds S)
section
variable {K : Kx} {H H' H1 H2 : Hp} {F : Fs} {ρ ρ' ρ1 ρ2 : List Addr} {S S' S1 S2 : Store} {Q : VK}
theorem PostE.from (s : Stp K F H ρ H1 ρ1 S1) {x : Ex} {S' : Store} (h : PostE K F H ρ x S') : PostE K F H1 ρ1 x S' := fun c d H' ρ' t r => h c d H' ρ' (s.trans t) r
theorem Post.from (s : Stp K F H ρ H1 ρ1 S1) {r : Res D} (h : Post K F H ρ Q r) : Post K F H1 ρ1 Q r := by
  cases r with
  | ok d S' => exact fun v H' ρ' t q => h v H' ρ' (s.trans t) q
  | exc x S2 => exact PostE.from s h
  | stuck => exact h
theorem PostA.from {Q : List V → Hp → Prop} (s : Stp K F H ρ H1 ρ1 S1) {r : Res (List D)} (h : PostA K F H ρ Q r) : PostA K F H1 ρ1 Q r := by
  cases r with
  | ok d S' => exact fun v H' ρ' t q => h v H' ρ' (s.trans t) q
  | exc x S2 => exact PostE.from s h
  | stuck => exact h
theorem PostB.from {Q : Bool → Hp → Prop} (s : Stp K F H ρ H1 ρ1 S1) {r : Res Bool} (h : PostB K F H ρ Q r) : PostB K F H1 ρ1 Q r := by
  cases r with
  | ok d S' => exact fun H' ρ' t => h H' ρ' (s.trans t)
  | exc x S2 => exact PostE.from s h
  | stuck => exact h
theorem Post.ok {d : D} {v : V} (w : Wf K H F ρ S) (r : Rep K.K (del H F ρ) ρ v d) (h : Post K F H ρ Q (.ok d S)) : Q v H := h v H ρ (Stp.refl w) r

theorem Post.bind {m : M D} {g : D → M D} (h : Post K F H ρ Q (M.bind m g S)) :
    Post K F H ρ (fun v H1 => ∃ ρ1 S1 d, Stp K F H ρ H1 ρ1 S1 ∧ Rep K.K (del H1 F ρ1) ρ1 v d ∧ Post K F H1 ρ1 Q (g d S1)) (m S) := by
  have p := h
  unfold M.bind at p
  cases q : m S with
  | ok d S1 =>
    rw [q] at p
    exact fun v H1 ρ1 s r => ⟨ρ1, S1, d, s, r, p.from s⟩
  | exc _ _ => rw [q] at p; exact p
  | stuck => rw [q] at p; exact p
theorem Post.bindA {m : M (List D)} {g : List D → M D} (h : Post K F H ρ Q (M.bind m g S)) :
    PostA K F H ρ (fun v H1 => ∃ ρ1 S1 d, Stp K F H ρ H1 ρ1 S1 ∧ RepA K.K (del H1 F ρ1) ρ1 v d ∧ Post K F H1 ρ1 Q (g d S1)) (m S) := by
  have p := h
  unfold M.bind at p
  cases q : m S with
  | ok d S1 =>
    rw [q] at p
    exact fun v H1 ρ1 s r => ⟨ρ1, S1, d, s, r, p.from s⟩
  | exc _ _ => rw [q] at p; exact p
  | stuck => rw [q] at p; exact p
theorem Post.bindB {m : M Bool} {g : Bool → M D} (h : Post K F H ρ Q (M.bind m g S)) :
    PostB K F H ρ (fun d H1 => ∃ ρ1 S1, Stp K F H ρ H1 ρ1 S1 ∧ Post K F H1 ρ1 Q (g d S1)) (m S) := by
  have p := h
  unfold M.bind at p
  cases q : m S with
  | ok d S1 =>
    rw [q] at p
    exact fun H1 ρ1 s => ⟨ρ1, S1, s, p.from s⟩
  | exc _ _ => rw [q] at p; exact p
  | stuck => rw [q] at p; exact p
theorem PostA.bind {m : M D} {g : D → M (List D)} {Q : List V → Hp → Prop} (h : PostA K F H ρ Q (M.bind m g S)) :
    Post K F H ρ (fun v H1 => ∃ ρ1 S1 d, Stp K F H ρ H1 ρ1 S1 ∧ Rep K.K (del H1 F ρ1) ρ1 v d ∧ PostA K F H1 ρ1 Q (g d S1)) (m S) := by
  have p := h
  unfold M.bind at p
  cases q : m S with
  | ok d S1 =>
    rw [q] at p
    exact fun v H1 ρ1 s r => ⟨ρ1, S1, d, s, r, p.from s⟩
  | exc _ _ => rw [q] at p; exact p
  | stuck => rw [q] at p; exact p
theorem PostA.bindA {m : M (List D)} {g : List D → M (List D)} {Q : List V → Hp → Prop} (h : PostA K F H ρ Q (M.bind m g S)) :
    PostA K F H ρ (fun v H1 => ∃ ρ1 S1 d, Stp K F H ρ H1 ρ1 S1 ∧ RepA K.K (del H1 F ρ1) ρ1 v d ∧ PostA K F H1 ρ1 Q (g d S1)) (m S) := by
  have p := h
  unfold M.bind at p
  cases q : m S with
  | ok d S1 =>
    rw [q] at p
    exact fun v H1 ρ1 s r => ⟨ρ1, S1, d, s, r, p.from s⟩
  | exc _ _ => rw [q] at p; exact p
  | stuck => rw [q] at p; exact p
theorem PostB.bind {m : M D} {g : D → M Bool} {Q : Bool → Hp → Prop} (h : PostB K F H ρ Q (M.bind m g S)) :
    Post K F H ρ (fun v H1 => ∃ ρ1 S1 d, Stp K F H ρ H1 ρ1 S1 ∧ Rep K.K (del H1 F ρ1) ρ1 v d ∧ PostB K F H1 ρ1 Q (g d S1)) (m S) := by
  have p := h
  unfold M.bind at p
  cases q : m S with
  | ok d S1 =>
    rw [q] at p
    exact fun v H1 ρ1 s r => ⟨ρ1, S1, d, s, r, p.from s⟩
  | exc _ _ => rw [q] at p; exact p
  | stuck => rw [q] at p; exact p
theorem Post.imp {Q' : VK} {r : Res D} (h : Post K F H ρ Q r) (i : ∀ v H', Q v H' → Q' v H') : Post K F H ρ Q' r := by
  cases r with
  | ok d S' => exact fun v H' ρ' t q => i _ _ (h v H' ρ' t q)
  | exc x S2 => exact h
  | stuck => exact h
theorem PostA.imp {Q Q' : List V → Hp → Prop} {r : Res (List D)} (h : PostA K F H ρ Q r) (i : ∀ v H', Q v H' → Q' v H') : PostA K F H ρ Q' r := by
  cases r with
  | ok d S' => exact fun v H' ρ' t q => i _ _ (h v H' ρ' t q)
  | exc x S2 => exact h
  | stuck => exact h
theorem PostB.imp {Q Q' : Bool → Hp → Prop} {r : Res Bool} (h : PostB K F H ρ Q r) (i : ∀ v H', Q v H' → Q' v H') : PostB K F H ρ Q' r := by
  cases r with
  | ok d S' => exact fun H' ρ' t => i _ _ (h H' ρ' t)
  | exc _ _ => exact h
  | stuck => exact h
/-- two expressions in a row -/
theorem tE_two {f1 f2 : Env → M D} {g : D → D → M D} {σ : L2.St} (h : tE K (fun env => M.bind (f1 env) fun x => M.bind (f2 env) (g x)) σ H Q) :
    tE K f1 σ H fun v H1 => tE K f2 σ H1 fun u H2 => r2 K g v u H2 Q := by
  obtain ⟨F, ρ, S, env, w, e, p⟩ := h
  refine ⟨F, ρ, S, env, w, e, (Post.bind p).imp ?_⟩
  rintro v H1 ⟨ρ1, S1, d, s, r, p1⟩
  refine ⟨F, ρ1, S1, env, s.wf, e.le s.le s.pre, (Post.bind p1).imp ?_⟩
  rintro u H2 ⟨ρ2, S2, d2, s2, r', p2⟩
  exact ⟨F, ρ2, S2, d, d2, s2.wf, s2.rep r, r', p2⟩
theorem tE_one {f1 : Env → M D} {g : D → M D} {σ : L2.St} (h : tE K (fun env => M.bind (f1 env) g) σ H Q) :
    tE K f1 σ H fun v H1 => r1 K g v H1 Q := by
  obtain ⟨F, ρ, S, env, w, e, p⟩ := h
  refine ⟨F, ρ, S, env, w, e, (Post.bind p).imp ?_⟩
  rintro v H1 ⟨ρ1, S1, d, s, r, p1⟩
  exact ⟨F, ρ1, S1, d, s.wf, r, p1⟩
theorem tE_args {f1 : Env → M (List D)} {g : List D → M D} {σ : L2.St} (h : tE K (fun env => M.bind (f1 env) g) σ H Q) :
    tA K f1 σ H fun v H1 => rA K g v H1 Q := by
  obtain ⟨F, ρ, S, env, w, e, p⟩ := h
  refine ⟨F, ρ, S, env, w, e, (Post.bindA p).imp ?_⟩
  rintro v H1 ⟨ρ1, S1, d, s, r, p1⟩
  exact ⟨F, ρ1, S1, d, s.wf, r, p1⟩
end
end Z

/-! Z2: each operation is what the machine does -/
namespace Z
open PySem PySem.Spec PyProof.Rows L2

/-! ### data as the library's data -/
mutual
theorem py_depth : ∀ d : D, d.py.depth = d.dep
  | .non => rfl
  | .bl _ => rfl
  | .int _ => rfl
  | .str _ => rfl
  | .tup xs => by simp only [D.py, D.dep, PyData.depth, pys_depth xs]
  | .lst xs => by simp only [D.py, D.dep, PyData.depth, pys_depth xs]
  | .loc _ => rfl
  | .scr _ => rfl
  | .ins _ _ _ => rfl
theorem pys_depth : ∀ ds : List D, PyData.depthAll (D.pys ds) = D.deps ds
  | [] => rfl
  | d :: ds => by simp only [D.pys, D.deps, PyData.depthAll, py_depth d, pys_depth ds]
end
theorem pys_map : ∀ ds : List D, D.pys ds = ds.map D.py
  | [] => rfl
  | d :: ds => by simp only [D.pys, List.map_cons, pys_map ds]
section
variable {K : Kx} {G : Hp} {ρ : List Addr}
mutual
theorem Rep.lay : ∀ (d : D) (v : V), Rep K.K G ρ v d → d.py.canLay0 = true
  | .non, _, _ => rfl
  | .bl _, _, _ => rfl
  | .int _, _, _ => rfl
  | .str _, _, r => by
    cases r with
    | str z z' => simpa only [D.py, PyData.canLay0] using z'
  | .tup ds, _, r => by
    cases r with
    | tup a b z => simpa only [D.py, PyData.canLay0] using RepA.lay ds _ b
  | .lst ds, _, r => by
    cases r with
    | lst a b z => simpa only [D.py, PyData.canLay0] using RepA.lay ds _ b
  | .loc _, _, _ => rfl
  | .scr _, _, _ => rfl
  | .ins _ _ _, _, _ => rfl
theorem RepA.lay : ∀ (ds : List D) (vs : List V), RepA K.K G ρ vs ds → PyData.canLayAll0 (D.pys ds) = true
  | [], _, _ => rfl
  | d :: ds, _, r => by
    cases r with
    | cons a b =>
      simp only [D.pys, PyData.canLayAll0, Rep.lay d _ a, RepA.lay ds _ b, Bool.and_self]
end
end
theorem Rep.dpH {K : PySem.W.Frag} {H : Hp} {F : Fs} {ρ' ρ : List Addr} {v : V} {d : D} (r : Rep K (del H F ρ') ρ v d) (h : d.dat = true) : Dp K H v d.py := Dp.le del_leH _ _ (Rep.dp d v h r)

section
variable {X : Cx} {Tt : List (Addr × Str)} {Ee : XK} {xc : Str → Option (Addr × Option Str)}
theorem opImp {f : Value → Value → Sem Value} {r r' : R2} (h : OpR X f r) (i : ∀ x y H Q, r' x y H Q → r x y H Q) : OpR X f r' :=
  fun pins s σ H x y v u Q I rx ry q => h pins s σ H x y v u Q I rx ry (i _ _ _ _ q)
theorem callImp {f : Value} {r r' : List V → Hp → VK → Prop} (h : CallR X f r) (i : ∀ xs H Q, r' xs H Q → r xs H Q) : CallR X f r' :=
  fun pins s σ H xs us Q I rs q => h pins s σ H xs us Q I rs (i _ _ _ q)
theorem unImp {f : Value → Sem Value} {r r' : V → Hp → VK → Prop} (h : UnR X f r) (i : ∀ x H Q, r' x H Q → r x H Q) : UnR X f r' :=
  fun pins s σ H x v Q I rx q => h pins s σ H x v Q I rx (i _ _ _ q)
theorem opNone {f : Value → Value → Sem Value} {r : R2} (h : ∀ x y H Q, ¬ r x y H Q) : OpR X f r := fun pins s σ H x y v u Q I rx ry q => absurd q (h _ _ _ _)
theorem callNone {f : Value} {r : List V → Hp → VK → Prop} (h : ∀ xs H Q, ¬ r xs H Q) : CallR X f r := fun pins s σ H xs us Q I rs q => absurd q (h _ _ _)

/-! ### arithmetic -/
theorem post_stk {K : Kx} {F : Fs} {ρ : List Addr} {H : Hp} {Q : VK} {S : Store} (h : Post K F H ρ Q (M.stk S)) : False := h
theorem post_ret {K : Kx} {F : Fs} {ρ : List Addr} {H : Hp} {Q : VK} {S : Store} {d : D} (h : Post K F H ρ Q (M.ret d S)) : Post K F H ρ Q (.ok d S) := h
theorem size_append {a b : Str} : (a ++ b).length = a.length + b.length := by
  show (a.cps ++ b.cps).size = _
  rw [Array.size_append]
  rfl
theorem strOk_append {a b : Str} (ha : PyData.strOk a = true) (hb : PyData.strOk b = true) : PyData.strOk (a ++ b) = true := by
  show (a.cps ++ b.cps).all _ = true
  rw [Array.all_append]
  exact Bool.and_eq_true_iff.mpr ⟨ha, hb⟩

/-- a value that holds what may be walked, by its kind -/
theorem bin_add : OpR X (binaryOp .Add) (r2 (Kx.mk X.K Tt Ee xc) (binSem .Add)) := by
  refine opImp (OpR.or op_add (OpR.or op_add_str (OpR.or op_catA op_cat))) ?_
  rintro x y H Q ⟨F, ρ, S, d, e, w, rd, re, p⟩
  cases rd with
  | int i =>
    cases re with
    | int j => exact .inl ⟨i, j, rfl, rfl, p.ok w (.int _)⟩
    | _ => exact p.elim
  | @str s1 z1 o1 =>
    cases re with
    | @str s2 z2 o2 =>
      by_cases hz : s1.length + s2.length ≤ sizeLine
      · simp only [binSem, if_pos hz] at p
        exact .inr (.inl ⟨s1, s2, rfl, rfl, hz, p.ok w (.str (by rw [size_append]; exact hz) (strOk_append o1 o2))⟩)
      · simp only [binSem, if_neg hz] at p
        exact p.elim
    | _ => exact p.elim
  | @tup a vs ds h1 h2 h3 =>
    cases re with
    | @tup b us es k1 k2 k3 =>
      by_cases hz : ds.length + es.length ≤ sizeLine
      · simp only [binSem, if_pos hz] at p
        have l1 := h2.length
        have l2 := k2.length
        refine .inr (.inr (.inl ⟨a, b, vs, us, rfl, rfl, SqT.le del_leH h1, SqT.le del_leH k1, by omega, fun e => ?_, fun _ e => ?_, fun _ _ q hq => ?_⟩))
        · subst e
          have e0 : ds = [] := List.eq_nil_of_length_eq_zero (by rw [← l1]; rfl)
          subst e0
          exact p.ok w (.tup k1 k2 k3)
        · subst e
          have e0 : es = [] := List.eq_nil_of_length_eq_zero (by rw [← l2]; rfl)
          subst e0
          rw [List.append_nil] at p
          exact p.ok w (.tup h1 h2 h3)
        · exact p _ _ _ (w.laid hq _) (w.newTup hq (h2.append k2) (by rw [List.length_append]; exact hz))
      · simp only [binSem, if_neg hz] at p
        exact p.elim
    | _ => exact p.elim
  | @lst a vs ds h1 h2 h3 =>
    cases re with
    | @lst b us es k1 k2 k3 =>
      by_cases hz : ds.length + es.length ≤ sizeLine
      · simp only [binSem, if_pos hz] at p
        have l1 := h2.length
        have l2 := k2.length
        refine .inr (.inr (.inr ⟨a, b, vs, us, rfl, rfl, del_lst h1, del_lst k1, by omega, fun q hq => ?_⟩))
        exact p _ _ _ (w.laid hq _) (w.newLst hq (h2.append k2) (by rw [List.length_append]; exact hz))
      · simp only [binSem, if_neg hz] at p
        exact p.elim
    | _ => exact p.elim
  | _ => exact p.elim
/-- operators of ints alone -/
theorem bin_int {op : Operator} {C : Int → Int → Prop} {g : Int → Int → Int} (h : OpR X (binaryOp op) (rI C fun i j => .int (g i j)))
    (hs : ∀ i j S, (∃ c : Prop, ∃ _ : Decidable c, (c → C i j) ∧ binSem op (.int i) (.int j) S = (if c then M.ret (.int (g i j)) else M.stk) S)) (hn : ∀ d e S, (¬ ∃ i j, d = .int i ∧ e = .int j) → binSem op d e S = .stuck) : OpR X (binaryOp op) (r2 (Kx.mk X.K Tt Ee xc) (binSem op)) := by
  refine opImp h ?_
  rintro x y H Q ⟨F, ρ, S, d, e, w, rd, re, p⟩
  by_cases hd : ∃ i j, d = .int i ∧ e = .int j
  · obtain ⟨i, j, rfl, rfl⟩ := hd
    cases rd
    cases re
    obtain ⟨c, dc, hc, e⟩ := hs i j S
    rw [e] at p
    by_cases k : c
    · rw [if_pos k] at p
      exact ⟨i, j, rfl, rfl, hc k, p.ok w (.int _)⟩
    · rw [if_neg k] at p
      exact p.elim
  · rw [hn d e S hd] at p
    exact p.elim
theorem bin_sub : OpR X (binaryOp .Sub) (r2 (Kx.mk X.K Tt Ee xc) (binSem .Sub)) := by
  refine bin_int (C := fun _ _ => True) (opImp op_sub ?_) (fun i j S => ⟨True, inferInstance, fun _ => trivial, rfl⟩) fun d e S h => ?_
  · rintro x y H Q ⟨i, j, a, b, _, q⟩
    exact ⟨i, j, a, b, q⟩
  · cases d <;> cases e <;> first | rfl | exact absurd ⟨_, _, rfl, rfl⟩ h
theorem bin_mul : OpR X (binaryOp .Mult) (r2 (Kx.mk X.K Tt Ee xc) (binSem .Mult)) := by
  refine bin_int op_mul (fun i j S => ⟨i.natAbs < 2 ^ 64 ∨ j.natAbs < 2 ^ 64, inferInstance, fun h => ?_, rfl⟩) fun d e S h => ?_
  · unfold CMul
    omega
  · cases d <;> cases e <;> first | rfl | exact absurd ⟨_, _, rfl, rfl⟩ h
theorem bin_mod : OpR X (binaryOp .Mod) (r2 (Kx.mk X.K Tt Ee xc) (binSem .Mod)) := by
  refine bin_int op_mod (fun i j S => ⟨0 < j, inferInstance, fun h => h, rfl⟩) fun d e S h => ?_
  cases d <;> cases e <;> first | rfl | exact absurd ⟨_, _, rfl, rfl⟩ h
theorem bin_fdiv : OpR X (binaryOp .FloorDiv) (r2 (Kx.mk X.K Tt Ee xc) (binSem .FloorDiv)) := by
  refine bin_int op_fdiv (fun i j S => ⟨0 < j ∧ j < 1073741824, inferInstance, fun h => h, rfl⟩) fun d e S h => ?_
  cases d <;> cases e <;> first | rfl | exact absurd ⟨_, _, rfl, rfl⟩ h
theorem bin_pow : OpR X (binaryOp .Pow) (r2 (Kx.mk X.K Tt Ee xc) (binSem .Pow)) := by
  refine bin_int op_pow (fun i j S => ⟨0 ≤ j ∧ j ≤ 1000 ∧ i.natAbs < 2 ^ 64, inferInstance, fun h => ?_, rfl⟩) fun d e S h => ?_
  · unfold CPow
    omega
  · cases d <;> cases e <;> first | rfl | exact absurd ⟨_, _, rfl, rfl⟩ h
theorem bin_all : ∀ op, OpR X (binaryOp op) (r2 (Kx.mk X.K Tt Ee xc) (binSem op))
  | .Add => bin_add
  | .Sub => bin_sub
  | .Mult => bin_mul
  | .Mod => bin_mod
  | .FloorDiv => bin_fdiv
  | .Pow => bin_pow
  | .MatMult => opNone fun x y H Q ⟨F, ρ, S, d, e, w, rd, re, p⟩ => by cases d <;> cases e <;> exact p
  | .Div => opNone fun x y H Q ⟨F, ρ, S, d, e, w, rd, re, p⟩ => by cases d <;> cases e <;> exact p
  | .LShift => opNone fun x y H Q ⟨F, ρ, S, d, e, w, rd, re, p⟩ => by cases d <;> cases e <;> exact p
  | .RShift => opNone fun x y H Q ⟨F, ρ, S, d, e, w, rd, re, p⟩ => by cases d <;> cases e <;> exact p
  | .BitOr => opNone fun x y H Q ⟨F, ρ, S, d, e, w, rd, re, p⟩ => by cases d <;> cases e <;> exact p
  | .BitXor => opNone fun x y H Q ⟨F, ρ, S, d, e, w, rd, re, p⟩ => by cases d <;> cases e <;> exact p
  | .BitAnd => opNone fun x y H Q ⟨F, ρ, S, d, e, w, rd, re, p⟩ => by cases d <;> cases e <;> exact p
end
end Z

/-! Z3: comparisons -/
namespace Z
open PySem PySem.Spec PyProof.Rows L2
section
variable {X : Cx} {Tt : List (Addr × Str)} {Ee : XK} {xc : Str → Option (Addr × Option Str)}
/-- two data -/
def rDD (K : PySem.W.Frag) (ok : PyData → PyData → Prop) (g : PyData → PyData → Bool) : R2 := fun x y H Q => ∃ d e, Dp K H x d ∧ Dp K H y e ∧ d.canLay0 = true ∧ e.canLay0 = true ∧ min d.depth e.depth ≤ many ∧ ok d e ∧ Q (.bl (g d e)) H
theorem op_dd {op : CmpOp} {ok : PyData → PyData → Prop} {g : PyData → PyData → Bool} (hu : X.A.units + many + 5 < cLine)
    (h : ∀ (s : Shared) (v u : Value) (d e : PyData) (as bs : List Addr) (Q : Value → Shared → Prop), Reads s.heap v d as → Reads s.heap u e bs → d.canLay0 = true → e.canLay0 = true → ok d e → X.A.units + min d.depth e.depth < cLine → Q (.bool (g d e)) s → wpAny (model X.prog X.w) X.A (compareOp op v u) Q X.xe s) :
    OpR X (compareOp op) (rDD X.K ok g) := by
  intro pins s σ H x y v u Q I rx ry q
  obtain ⟨d, e, hd, he, ld, le, hm, hok, q⟩ := q
  obtain ⟨as, r1⟩ := Dp.reads I d x v hd rx
  obtain ⟨bs, r2⟩ := Dp.reads I e y u he ry
  exact h s v u d e as bs _ r1 r2 ld le hok (by omega) ⟨.bl _, H, I, rfl, q⟩
theorem op_eqZ (hu : X.A.units + many + 5 < cLine) : OpR X (compareOp .Eq) (rDD X.K (fun _ _ => True) PyData.eqv) :=
  op_dd hu fun s v u d e as bs Q r1 r2 l1 l2 _ hr q => SeqAt.compareEq_reads r1 r2 l1 l2 hr q
theorem op_neZ (hu : X.A.units + many + 5 < cLine) : OpR X (compareOp .NotEq) (rDD X.K (fun _ _ => True) fun d e => !PyData.eqv d e) :=
  op_dd hu fun s v u d e as bs Q r1 r2 l1 l2 _ hr q => SeqAt.compareNe_reads r1 r2 l1 l2 hr q
theorem op_ltZ (hu : X.A.units + many + 5 < cLine) : OpR X (compareOp .Lt) (rDD X.K (fun d e => PySem.W.alike d e = true ∧ d ≠ .none) PySem.W.dataLt) :=
  op_dd hu fun s v u d e as bs Q r1 r2 l1 l2 h hr q => PySem.W.lt_data r1 r2 h.1 h.2 hr q
theorem op_leZ (hu : X.A.units + many + 5 < cLine) : OpR X (compareOp .LtE) (rDD X.K (fun d e => PySem.W.alike d e = true ∧ d ≠ .none) fun d e => !PySem.W.dataLt e d) :=
  op_dd hu fun s v u d e as bs Q r1 r2 l1 l2 h hr q => PySem.W.le_data r1 r2 h.1 h.2 hr q

theorem rdd_of {K : Kx} {ok : PyData → PyData → Prop} {g : PyData → PyData → Bool} {H : Hp} {F : Fs} {ρ : List Addr} {S : Store} {x y : V} {d e : D} {Q : VK} {b : Bool} (w : Wf K H F ρ S) (rd : Rep K.K (del H F ρ) ρ x d) (re : Rep K.K (del H F ρ) ρ y e)
    (h : d.dat = true) (h' : e.dat = true) (hm : min d.dep e.dep ≤ many) (hok : ok d.py e.py) (hb : g d.py e.py = b) (p : Post K F H ρ Q (okB b S)) : rDD K.K ok g x y H Q :=
  ⟨d.py, e.py, rd.dpH h, re.dpH h', rd.lay, re.lay, by rw [py_depth, py_depth]; exact hm, hok, by rw [hb]; exact Post.ok w (.bl b) p⟩
theorem cmp_eq (hu : X.A.units + many + 5 < cLine) : OpR X (compareOp .Eq) (r2 (Kx.mk X.K Tt Ee xc) (cmpSem .Eq)) := by
  refine opImp (op_eqZ hu) ?_
  rintro x y H Q ⟨F, ρ, S, d, e, w, rd, re, p⟩
  simp only [cmpSem, dEq] at p
  by_cases h : (d.dat && e.dat && decide (min d.dep e.dep ≤ many)) = true
  · rw [if_pos h] at p
    simp only [Bool.and_eq_true, decide_eq_true_eq] at h
    exact rdd_of w rd re h.1.1 h.1.2 h.2 trivial rfl p
  · rw [if_neg h] at p
    exact p.elim
theorem cmp_ne (hu : X.A.units + many + 5 < cLine) : OpR X (compareOp .NotEq) (r2 (Kx.mk X.K Tt Ee xc) (cmpSem .NotEq)) := by
  refine opImp (op_neZ hu) ?_
  rintro x y H Q ⟨F, ρ, S, d, e, w, rd, re, p⟩
  simp only [cmpSem, dEq] at p
  by_cases h : (d.dat && e.dat && decide (min d.dep e.dep ≤ many)) = true
  · rw [if_pos h] at p
    simp only [Bool.and_eq_true, decide_eq_true_eq] at h
    exact rdd_of w rd re h.1.1 h.1.2 h.2 trivial rfl p
  · rw [if_neg h] at p
    exact p.elim
theorem alk_iff {d e : D} (h : alk d e = true) (hd : d.dat = true) : PySem.W.alike d.py e.py = true ∧ d.py ≠ .none := by
  unfold alk at h
  cases d <;> simp_all [D.py, D.dat]
theorem cmp_lt (hu : X.A.units + many + 5 < cLine) : OpR X (compareOp .Lt) (r2 (Kx.mk X.K Tt Ee xc) (cmpSem .Lt)) := by
  refine opImp (OpR.or op_lt (op_ltZ hu)) ?_
  rintro x y H Q ⟨F, ρ, S, d, e, w, rd, re, p⟩
  by_cases hi : ∃ i j, d = .int i ∧ e = .int j
  · obtain ⟨i, j, rfl, rfl⟩ := hi
    cases rd
    cases re
    exact .inl ⟨i, j, rfl, rfl, p.ok w (.bl _)⟩
  · have e1 : cmpSem .Lt d e S = toB (dLt d e) S := by
      cases d <;> first | rfl | (cases e <;> first | rfl | exact absurd ⟨_, _, rfl, rfl⟩ hi)
    rw [e1] at p
    simp only [dLt] at p
    by_cases h : (d.dat && e.dat && alk d e && decide (min d.dep e.dep ≤ many)) = true
    · rw [if_pos h] at p
      simp only [Bool.and_eq_true, decide_eq_true_eq] at h
      exact .inr (rdd_of w rd re h.1.1.1 h.1.1.2 h.2 (alk_iff h.1.2 h.1.1.1) rfl p)
    · rw [if_neg h] at p
      exact p.elim
theorem cmp_le (hu : X.A.units + many + 5 < cLine) : OpR X (compareOp .LtE) (r2 (Kx.mk X.K Tt Ee xc) (cmpSem .LtE)) := by
  refine opImp (OpR.or op_le (op_leZ hu)) ?_
  rintro x y H Q ⟨F, ρ, S, d, e, w, rd, re, p⟩
  by_cases hi : ∃ i j, d = .int i ∧ e = .int j
  · obtain ⟨i, j, rfl, rfl⟩ := hi
    cases rd
    cases re
    exact .inl ⟨i, j, rfl, rfl, p.ok w (.bl _)⟩
  · have e1 : cmpSem .LtE d e S = toB (dLe d e) S := by
      cases d <;> first | rfl | (cases e <;> first | rfl | exact absurd ⟨_, _, rfl, rfl⟩ hi)
    rw [e1] at p
    simp only [dLe] at p
    by_cases h : (d.dat && e.dat && alk d e && decide (min d.dep e.dep ≤ many)) = true
    · rw [if_pos h] at p
      simp only [Bool.and_eq_true, decide_eq_true_eq] at h
      exact .inr (rdd_of w rd re h.1.1.1 h.1.1.2 h.2 (alk_iff h.1.2 h.1.1.1) rfl p)
    · rw [if_neg h] at p
      exact p.elim
theorem cmp_gt : OpR X (compareOp .Gt) (r2 (Kx.mk X.K Tt Ee xc) (cmpSem .Gt)) := by
  refine opImp op_gt ?_
  rintro x y H Q ⟨F, ρ, S, d, e, w, rd, re, p⟩
  cases rd with
  | int i =>
    cases re with
    | int j => exact ⟨i, j, rfl, rfl, p.ok w (.bl _)⟩
    | _ => exact p.elim
  | _ => cases re <;> exact p.elim
theorem cmp_ge : OpR X (compareOp .GtE) (r2 (Kx.mk X.K Tt Ee xc) (cmpSem .GtE)) := by
  refine opImp op_ge ?_
  rintro x y H Q ⟨F, ρ, S, d, e, w, rd, re, p⟩
  cases rd with
  | int i =>
    cases re with
    | int j => exact ⟨i, j, rfl, rfl, p.ok w (.bl _)⟩
    | _ => exact p.elim
  | _ => cases re <;> exact p.elim
theorem rep_non {K : PySem.W.Frag} {G : Hp} {ρ : List Addr} {x : V} {d : D} (r : Rep K G ρ x d) : decide (x = .non) = (match d with | .non => true | _ => false) := by
  cases r <;> simp
theorem cmp_is : OpR X (compareOp .Is) (r2 (Kx.mk X.K Tt Ee xc) (cmpSem .Is)) := by
  refine opImp (OpR.or op_isN op_isBl) ?_
  rintro x y H Q ⟨F, ρ, S, d, e, w, rd, re, p⟩
  cases re with
  | non =>
    refine .inl ⟨rfl, ?_⟩
    rw [rep_non rd]
    cases d <;> exact Post.ok w (.bl _) p
  | bl b =>
    cases rd with
    | bl a => exact .inr ⟨a, b, rfl, rfl, p.ok w (.bl _)⟩
    | _ => exact p.elim
  | _ => cases rd <;> exact p.elim
theorem cmp_isnot : OpR X (compareOp .IsNot) (r2 (Kx.mk X.K Tt Ee xc) (cmpSem .IsNot)) := by
  refine opImp op_notN ?_
  rintro x y H Q ⟨F, ρ, S, d, e, w, rd, re, p⟩
  cases re with
  | non =>
    refine ⟨rfl, ?_⟩
    rw [rep_non rd]
    cases d <;> exact Post.ok w (.bl _) p
  | _ => cases rd <;> exact p.elim
/-- in a list, a tuple, of data -/
def rIn (K : PySem.W.Frag) (g : Bool → Bool) : R2 := fun x y H Q => ∃ d ds, Dp K H x d ∧ (Dp K H y (.list ds) ∨ Dp K H y (.tuple ds)) ∧ d.canLay0 = true ∧ PyData.canLayAll0 ds = true ∧ d.depth ≤ many ∧ Q (.bl (g (ds.any fun z => PyData.eqv z d))) H
theorem op_inZ (hu : X.A.units + many + 5 < cLine) : OpR X (compareOp .In) (rIn X.K id) := by
  intro pins s σ H x y v u Q I rx ry h
  obtain ⟨d, ds, hd, he, ld, ls, hm, q⟩ := h
  obtain ⟨as, r1⟩ := Dp.reads I d x v hd rx
  rcases he with he | he
  · obtain ⟨bs, r2⟩ := Dp.reads I (.list ds) y u he ry
    exact SeqAt.in_list_reads r2 r1 ls ld (by omega) ⟨.bl _, H, I, rfl, q⟩
  · obtain ⟨bs, r2⟩ := Dp.reads I (.tuple ds) y u he ry
    exact SeqAt.in_tuple_reads r2 r1 ls ld (by omega) ⟨.bl _, H, I, rfl, q⟩
theorem op_notInZ (hu : X.A.units + many + 5 < cLine) : OpR X (compareOp .NotIn) (rIn X.K not) := by
  intro pins s σ H x y v u Q I rx ry h
  obtain ⟨d, ds, hd, he, ld, ls, hm, q⟩ := h
  obtain ⟨as, r1⟩ := Dp.reads I d x v hd rx
  rcases he with he | he
  · obtain ⟨bs, r2⟩ := Dp.reads I (.list ds) y u he ry
    exact SeqAt.notIn_list_reads r2 r1 ls ld (by omega) ⟨.bl _, H, I, rfl, q⟩
  · obtain ⟨bs, r2⟩ := Dp.reads I (.tuple ds) y u he ry
    exact SeqAt.notIn_tuple_reads r2 r1 ls ld (by omega) ⟨.bl _, H, I, rfl, q⟩
theorem any_py (xs : List D) (a : D) : ((D.pys xs).any fun z => PyData.eqv z a.py) = xs.any fun x => PyData.eqv x.py a.py := by
  rw [pys_map, List.any_map]
  rfl
theorem rIn_of {K : Kx} {g : Bool → Bool} {H : Hp} {F : Fs} {ρ : List Addr} {S : Store} {x y : V} {d : D} {xs : List D} {Q : VK} (w : Wf K H F ρ S) (rd : Rep K.K (del H F ρ) ρ x d) (re : Rep K.K (del H F ρ) ρ y (.lst xs) ∨ Rep K.K (del H F ρ) ρ y (.tup xs))
    (p : Post K F H ρ Q ((if d.dat && D.dats xs && decide (d.dep ≤ many) then okB (g (xs.any fun x => PyData.eqv x.py d.py)) else M.stk) S)) : rIn K.K g x y H Q := by
  by_cases h : (d.dat && D.dats xs && decide (d.dep ≤ many)) = true
  · rw [if_pos h] at p
    simp only [Bool.and_eq_true, decide_eq_true_eq] at h
    refine ⟨d.py, D.pys xs, rd.dpH h.1.1, ?_, rd.lay, ?_, by rw [py_depth]; exact h.2, by rw [any_py]; exact Post.ok w (.bl _) p⟩
    · rcases re with re | re
      · exact .inl (re.dpH (d := .lst xs) (by simpa only [D.dat] using h.1.2))
      · exact .inr (re.dpH (d := .tup xs) (by simpa only [D.dat] using h.1.2))
    · rcases re with re | re
      · cases re with
        | lst a b c => exact b.lay
      · cases re with
        | tup a b c => exact b.lay
  · rw [if_neg h] at p
    exact p.elim
theorem str_one {s : Str} {c : Nat} (h : s.cps.toList = [c]) : s = ⟨#[c]⟩ := by
  obtain ⟨cs⟩ := s
  have : cs = #[c] := Array.toList_inj.mp h
  rw [this]
theorem cmp_in (hu : X.A.units + many + 5 < cLine) : OpR X (compareOp .In) (r2 (Kx.mk X.K Tt Ee xc) (cmpSem .In)) := by
  refine opImp (OpR.or op_in_sign (op_inZ hu)) ?_
  rintro x y H Q ⟨F, ρ, S, d, e, w, rd, re, p⟩
  cases re with
  | @str z zz zo =>
    cases rd with
    | @str a za oa =>
      simp only [cmpSem] at p
      generalize hc : a.cps.toList = l at p
      match l, hc, p with
      | [c], hc, p => exact .inl ⟨c, _, by rw [str_one hc], rfl, p.ok w (.bl _)⟩
      | [], _, p => exact p.elim
      | _ :: _ :: _, _, p => exact p.elim
    | _ => exact p.elim
  | lst a b c => exact .inr (rIn_of w rd (.inl (.lst a b c)) (by cases d <;> exact p))
  | tup a b c => exact .inr (rIn_of w rd (.inr (.tup a b c)) (by cases d <;> exact p))
  | _ => cases rd <;> exact p.elim
theorem cmp_notin (hu : X.A.units + many + 5 < cLine) : OpR X (compareOp .NotIn) (r2 (Kx.mk X.K Tt Ee xc) (cmpSem .NotIn)) := by
  refine opImp (op_notInZ hu) ?_
  rintro x y H Q ⟨F, ρ, S, d, e, w, rd, re, p⟩
  cases re with
  | lst a b c => exact rIn_of w rd (.inl (.lst a b c)) (by cases d <;> exact p)
  | tup a b c => exact rIn_of w rd (.inr (.tup a b c)) (by cases d <;> exact p)
  | _ => cases rd <;> exact p.elim
theorem cmp_all (hu : X.A.units + many + 5 < cLine) : ∀ op, OpR X (compareOp op) (r2 (Kx.mk X.K Tt Ee xc) (cmpSem op))
  | .Eq => cmp_eq hu
  | .NotEq => cmp_ne hu
  | .Lt => cmp_lt hu
  | .LtE => cmp_le hu
  | .Gt => cmp_gt
  | .GtE => cmp_ge
  | .Is => cmp_is
  | .IsNot => cmp_isnot
  | .In => cmp_in hu
  | .NotIn => cmp_notin hu
end
end Z

/-! Z4: sorted of a list, a tuple, a text -/
namespace Z
open PySem PySem.Spec PyProof.Rows PySem.W PySem.Calls

section
variable {prog : Program} {w : World} {A : Around} {E : Value → Shared → Prop} {s : Shared}
/-- what sorted does with the items -/
theorem sorted_by {v : Value} {Q : Value → Shared → Prop}
    (col : wpAny (model prog w) A.in1 (collect v) (fun vs s1 => vs.length ≤ sizeLine ∧ ∀ E' : Value → Shared → Prop, wpAny (model prog w) A.in1.in1 (Builtin.«list.sort» ⟨[.ref s1.heap.objs.size], []⟩) (fun f s' => f = .done (.ret .none) ∧ Q (.ref s1.heap.objs.size) s') E' { s1 with heap := s1.heap.push (seqObj "list" vs.toArray 0) }) E s) :
    wpAny (model prog w) A (call (.builtin "sorted") [v]) Q E s := by
  refine call_function_entry kind_sorted plain_sorted entry_sorted (args_sorted1 _) ?_
  unfold Builtin.«sorted»
  refine wpAny_bind (m := checkCount "sorted" 1 1 _) (wpAny_pure ?_)
  refine wpAny_bind (wpAny_mono col (fun vs s1 h => ?_) fun _ _ e => e)
  obtain ⟨hL, body⟩ := h
  refine wpAny_bind (wpAny_newList ?_ hL)
  show wpAny _ _ _ _ _ { s1 with heap := s1.heap.push (seqObj "list" vs.toArray 0) }
  refine wpAny_bind (wpAny_holding (wpAny_call_entry_kw slot_list_sort ⟨_, Heap.get?_push_size _ rfl, rfl⟩ entry_list_sort ?body (args_list_sort _)))
  case body =>
    refine wpAny_mono (body _) (fun f s' hf => ?_) fun _ _ e => e
    obtain ⟨rfl, hq⟩ := hf
    exact ⟨_, rfl, wpAny_pure ⟨_, rfl, hq⟩⟩
theorem collect_tuple {l : Addr} {vs : List Value} {Q : List Value → Shared → Prop} (hl : IsTup s.heap l vs.toArray)
    (h : Q vs { s with heap := (s.heap.push (seqObj "list" #[] 0)).update s.heap.objs.size (Obj.mapSeq (· ++ vs.toArray)) }) (hsz : vs.length ≤ sizeLine) :
    wpAny (model prog w) A (collect (.ref l)) Q E s := by
  obtain ⟨o, ho, hc, n, hd⟩ := id hl
  unfold collect
  refine wpAny_bind (wpAny_runValue (codeAny_builtin entry_proto_collect' ?_))
  show wpAny _ _ (do again (.builtin "list.__iadd__" ⟨[← newList [], .ref l], []⟩)) _ _ s
  refine wpAny_bind (wpAny_newList (wpAny_pure ⟨Code.quiet_builtin _ (by decide +kernel), codeAny_builtin entry_list_iadd' ?_⟩))
  show wpAny _ _ (Builtin.List.listExtendWith (.ref s.heap.objs.size) (.ref l) (.ref s.heap.objs.size)) _ _ { s with heap := s.heap.push (seqObj "list" #[] 0) }
  unfold Builtin.List.listExtendWith
  have ho' : (s.heap.push (seqObj "list" #[] 0)).get? l = some o := Heap.get?_push_of_some _ ho
  refine wpAny_bind (wpAny_typeOf (T := "tuple") ⟨o, ho', hc⟩ ?_)
  have ht : (Value.type "tuple" == Value.type "tuple") = true := by rfl
  rw [if_pos (by rw [ht]; simp)]
  refine wpAny_bind (listItems_at ho' hd ?_)
  refine wpAny_bind (listItems_at (xs := #[]) (n := 0) (Heap.get?_push_size _ rfl) rfl ?_)
  rw [if_neg (by simp)]
  refine wpAny_bind (listUpdate_at (xs := #[]) (n := 0) (Heap.get?_push_size _ rfl) rfl ?_ (Nat.zero_le _) (by show (#[] ++ vs.toArray).size ≤ sizeLine + 1; simp only [Array.size_append, List.size_toArray, List.length_nil]; omega))
  refine wpAny_pure ?_
  show wpAny (model prog w) A (do
      let o ← load s.heap.objs.size
      match o.data with
      | .seq xs _ => pure xs.toList
      | _ => unsupported "internal:collect") Q E { s with heap := (s.heap.push (seqObj "list" #[] 0)).update s.heap.objs.size (Obj.mapSeq (· ++ vs.toArray)) }
  refine wpAny_bind (wpAny_load (get?_update_seq (Heap.get?_push_size _ rfl) _) ?_)
  show wpAny _ _ (pure ((#[] : Array Value) ++ vs.toArray).toList) Q E _
  rw [show ((#[] : Array Value) ++ vs.toArray).toList = vs by simp]
  exact wpAny_pure h
/-- the new list behind list.sort: the sorted items; the heap keeps what stood -/
theorem sort_new {β : Type} {enc : β → PyData} {R : Value → β → Prop} {vs : List Value} {bs : List β} {s1 : Shared} {Q : Value → Shared → Prop} (e : EachIs R vs bs) (er : EachIs (fun v b => ∃ as, Reads s1.heap v (enc b) as) vs bs) (hal : AllAlike (bs.map enc)) (hk : Sortable (bs.map enc)) (hL : bs.length ≤ sizeLine)
    (hu : ∀ b, b ∈ bs → A.units + 2 + (enc b).depth < cLine)
    (h : ∀ (out : List Value) (h' : Heap), out.length = bs.length → EachIs R out (bs.mergeSort (dataLe false enc)) → (∀ b o, s1.heap.get? b = some o → h'.get? b = some o) → s1.heap.objs.size < h'.objs.size →
      (∃ n, h'.get? s1.heap.objs.size = some { cls := .type "list", data := .seq out.toArray n }) → Q (.ref s1.heap.objs.size) { s1 with heap := h' }) :
    ∀ E' : Value → Shared → Prop, wpAny (model prog w) A.in1.in1 (Builtin.«list.sort» ⟨[.ref s1.heap.objs.size], []⟩) (fun f s' => f = .done (.ret .none) ∧ Q (.ref s1.heap.objs.size) s') E' { s1 with heap := s1.heap.push (seqObj "list" vs.toArray 0) } := by
  intro E'
  have hob : (s1.heap.push (seqObj "list" vs.toArray 0)).get? s1.heap.objs.size = some (seqObj "list" vs.toArray 0) := Heap.get?_push_size _ rfl
  have old : ∀ b o, s1.heap.get? b = some o → (sortingHeap (s1.heap.push (seqObj "list" vs.toArray 0)) s1.heap.objs.size vs).get? b = some o := fun b o q =>
    sortingHeap_old (Nat.ne_of_lt (Heap.lt_size q)) (Heap.get?_push_of_some _ q)
  have er' : EachIs (fun v b => ∃ as, Reads (sortingHeap (s1.heap.push (seqObj "list" vs.toArray 0)) s1.heap.objs.size vs) v (enc b) as) vs bs := er.mono fun _ _ ⟨as, r⟩ => ⟨as, PyProof.Rows.Reads.keeps old r⟩
  have el := e.length
  refine list_sort_vals (s := { s1 with heap := s1.heap.push (seqObj "list" vs.toArray 0) }) hob (SortsAt.data (A := A.in1.in1) (s := { s1 with heap := sortingHeap (s1.heap.push (seqObj "list" vs.toArray 0)) s1.heap.objs.size vs }) (each_map (R := fun v d => ∃ as, Reads (sortingHeap (s1.heap.push (seqObj "list" vs.toArray 0)) s1.heap.objs.size vs) v d as) enc er') hal hk (bound_map hu)) (by rw [el]; exact hL) ⟨rfl, ?_⟩
  refine h _ _ (by rw [sortVals_length false rfl]; exact el) (sortVals_data false e er' hal) (fun b o q => ?_) ?_ ?_
  · unfold sortedHeap
    rw [Heap.get?_update_other _ _ (Nat.ne_of_gt (Heap.lt_size q))]
    exact old b o q
  · unfold sortedHeap
    rw [Heap.size_update, Heap.size_push, Heap.size_push, Heap.size_update, Heap.size_push]
    omega
  · have q1 : ((s1.heap.push (seqObj "list" vs.toArray 0)).update s1.heap.objs.size (Obj.mapSeq fun _ => #[])).get? s1.heap.objs.size = some (Obj.mapSeq (fun _ => #[]) (seqObj "list" vs.toArray 0)) := get?_update_seq (Heap.get?_push_size _ rfl) _
    have q2 := Heap.get?_push_of_some (seqObj "tuple" vs.toArray 0) q1
    have q3 := Heap.get?_push_of_some (seqObj "list" #[] 0) q2
    obtain ⟨n, q⟩ : ∃ n, Obj.mapSeq (fun _ => #[]) (seqObj "list" vs.toArray 0) = seqObj "list" #[] n := ⟨_, rfl⟩
    rw [q] at q3
    unfold sortedHeap
    exact ⟨_, get?_update_seq q3 _⟩
end
end Z

namespace Z
open PySem PySem.Spec PyProof.Rows L2
section
variable {X : Cx} {Tt : List (Addr × Str)} {Ee : XK} {xc : Str → Option (Addr × Option Str)}
theorem each_repA {K : PySem.W.Frag} {G : Hp} {ρ : List Addr} : ∀ {vs : List V} {us : List Value} {ds : List D}, Vals vs us → RepA K G ρ vs ds → PySem.W.EachIs (fun u d => ∃ v, RelV v u ∧ Rep K G ρ v d) us ds
  | [], [], [], _, _ => .nil
  | [], [], _ :: _, _, r => nomatch r
  | _ :: _, _, [], _, r => nomatch r
  | [], _ :: _, _, q, _ => nomatch q
  | _ :: _, [], _, q, _ => nomatch q
  | v :: vs, u :: us, d :: ds, q, r => by
    cases q with
    | cons q1 q2 =>
      cases r with
      | cons r1 r2 => exact .cons ⟨v, q1, r1⟩ (each_repA q2 r2)
theorem repA_each {K : PySem.W.Frag} {G : Hp} {ρ : List Addr} : ∀ {us : List Value} {ds : List D}, PySem.W.EachIs (fun u d => ∃ v, RelV v u ∧ Rep K G ρ v d) us ds → ∃ vs, Vals vs us ∧ RepA K G ρ vs ds
  | [], [], _ => ⟨[], .nil, .nil⟩
  | [], _ :: _, r => nomatch r
  | _ :: _, [], r => nomatch r
  | u :: us, d :: ds, r => by
    cases r with
    | cons r1 r2 =>
      obtain ⟨v, q1, q2⟩ := r1
      obtain ⟨vs, q3, q4⟩ := repA_each r2
      exact ⟨v :: vs, .cons q1 q3, .cons q2 q4⟩
theorem each_reads {pins : List (Addr × Obj)} {σ : L2.St} {H : Hp} {s : Shared} {F : Fs} {ρ : List Addr} (I : L2.Inv X pins σ H s) : ∀ {us : List Value} {ds : List D}, D.dats ds = true → PySem.W.EachIs (fun u d => ∃ v, RelV v u ∧ Rep X.K (del H F ρ) ρ v d) us ds → PySem.W.EachIs (fun u d => ∃ as, Reads s.heap u d.py as) us ds
  | [], [], _, _ => .nil
  | [], _ :: _, _, r => nomatch r
  | _ :: _, [], _, r => nomatch r
  | u :: us, d :: ds, f, r => by
    have f2 : d.dat = true ∧ D.dats ds = true := by simpa [D.dats] using f
    cases r with
    | cons r1 r2 =>
      obtain ⟨v, q1, q2⟩ := r1
      exact .cons (Dp.reads I d.py v u (q2.dpH f2.1) q1) (each_reads I f2.2 r2)
theorem deps_mem : ∀ {ds : List D} {d : D}, d ∈ ds → d.dep ≤ D.deps ds
  | e :: ds, d, h => by
    simp only [D.deps]
    rcases List.mem_cons.mp h with rfl | h
    · omega
    · have := deps_mem h
      omega
theorem sortOk_al {xs : List D} (h : alikeD xs = true) : PySem.W.AllAlike (xs.map D.py) := by
  intro d hd d' hd'
  obtain ⟨b, hb, rfl⟩ := List.mem_map.mp hd
  obtain ⟨b', hb', rfl⟩ := List.mem_map.mp hd'
  exact List.all_eq_true.mp (List.all_eq_true.mp h b hb) b' hb'
theorem sortOk_st {xs : List D} (h : sortable xs = true) : PySem.W.Sortable (xs.map D.py) := by
  unfold sortable at h
  rcases Bool.or_eq_true_iff.mp h with h | h
  · refine .inl fun d hd => ?_
    obtain ⟨b, hb, rfl⟩ := List.mem_map.mp hd
    have q := List.all_eq_true.mp h b hb
    match b, q with
    | .tup (x :: r), _ => exact ⟨x.py, D.pys r, by simp only [D.py, D.pys]⟩
  · refine .inr fun d hd => ?_
    obtain ⟨b, hb, rfl⟩ := List.mem_map.mp hd
    have q := List.all_eq_true.mp h b hb
    cases b with
    | non => cases q
    | loc _ => cases q
    | scr _ => cases q
    | tup _ => cases q
    | bl _ => exact ⟨(fun z => nomatch z), (fun xs z => nomatch z)⟩
    | int _ => exact ⟨(fun z => nomatch z), (fun xs z => nomatch z)⟩
    | str _ => exact ⟨(fun z => nomatch z), (fun xs z => nomatch z)⟩
    | lst _ => exact ⟨(fun z => nomatch z), (fun xs z => nomatch z)⟩
    | ins _ _ _ => cases q
/-- sorted of values that hold data: a new list -/
def rSort (K : PySem.W.Frag) : List V → Hp → VK → Prop := fun vs H Q => ∃ (a : Addr) (ys : List V) (F : Fs) (ρ : List Addr) (ds : List D), vs = [.ref a] ∧ (SqL K H a ys ∨ SqT K H a ys) ∧ RepA K (del H F ρ) ρ ys ds ∧ sortOk ds = true ∧ ds.length ≤ sizeLine ∧
  ∀ (p : Addr) (zs : List V), H p = none → RepA K (del H F ρ) ρ zs (sortD ds) → Q (.ref p) (upd H p (.lst zs))
theorem cr_sort (hu : X.A.units + many + 5 < cLine) : CallR X (.builtin "sorted") (rSort X.K) := by
  intro pins s σ H vs us Q I r h
  obtain ⟨a, ys, F, ρ, ds, rfl, hs, hr, hok, hz, q⟩ := h
  obtain ⟨u, rfl, ru⟩ := vals1 r
  cases ru
  unfold sortOk at hok
  obtain ⟨ok1, hok⟩ := Bool.and_eq_true_iff.mp hok
  obtain ⟨ok2, hok⟩ := Bool.and_eq_true_iff.mp hok
  obtain ⟨ok3, ok4⟩ := Bool.and_eq_true_iff.mp hok
  have ok4 : D.deps ds ≤ many := of_decide_eq_true ok4
  have fin : ∀ (its : List Value), Vals ys its → ∀ (h1 : Heap), (∀ b o, s.heap.get? b = some o → h1.get? b = some o) → its.length ≤ sizeLine ∧ ∀ E' : Value → Shared → Prop, wpAny (model X.prog X.w) X.A.in1.in1 (Builtin.«list.sort» ⟨[.ref h1.objs.size], []⟩)
      (fun f s' => f = .done (.ret .none) ∧ EP X pins σ Q (.ref h1.objs.size) s') E' { s with heap := h1.push (PyProof.Rows.seqObj "list" its.toArray 0) } := by
    intro its rv h1 kp
    have e := each_repA rv hr
    have el := e.length
    refine ⟨by rw [el]; exact hz, ?_⟩
    have I1 : L2.Inv X pins σ H { s with heap := h1 } := I.kept (t' := s.toks) kp
    refine sort_new (s1 := { s with heap := h1 }) (enc := D.py) e (each_reads I1 ok1 e) (sortOk_al ok2) (sortOk_st ok3) hz (fun b hb => ?_) fun out h' ho eo kp' hlt hat => ?_
    · rw [py_depth]
      have := deps_mem hb
      omega
    · obtain ⟨zs, rz, rr⟩ := repA_each eo
      obtain ⟨n, hat⟩ := hat
      have zl2 : zs.length = ds.length := by rw [rr.length]; exact List.length_mergeSort _
      refine ⟨.ref h1.objs.size, _, I1.laid (t' := s.toks) (o := .lst zs) kp' (Nat.le_refl _) (show ObjOk X.prog X.w _ h' _ (.lst zs) from ⟨by omega, out, n, rz, hat⟩), rfl, q _ zs (I1.hok.fresh (Nat.le_refl _)) rr⟩
  rcases hs with hs | hs
  · obtain ⟨its, rv, pl, _⟩ := I.list hs
    refine sorted_by (PyProof.Rows.collect_list pl.isList ?_ ?_)
    · have kp : ∀ b o, s.heap.get? b = some o → ((s.heap.push (PyProof.Rows.seqObj "list" #[] 0)).update s.heap.objs.size (Obj.mapSeq (· ++ its.toArray))).get? b = some o := fun b o e => by
        rw [Heap.get?_update_other _ _ (Nat.ne_of_gt (Heap.lt_size e))]
        exact Heap.get?_push_of_some _ e
      exact fin its rv _ kp
    · rw [(each_repA rv hr).length]; exact hz
  · obtain ⟨its, rv, pl, _⟩ := I.tuple hs
    refine sorted_by (collect_tuple pl ?_ ?_)
    · have kp : ∀ b o, s.heap.get? b = some o → ((s.heap.push (PyProof.Rows.seqObj "list" #[] 0)).update s.heap.objs.size (Obj.mapSeq (· ++ its.toArray))).get? b = some o := fun b o e => by
        rw [Heap.get?_update_other _ _ (Nat.ne_of_gt (Heap.lt_size e))]
        exact Heap.get?_push_of_some _ e
      exact fin its rv _ kp
    · rw [(each_repA rv hr).length]; exact hz
end
end Z

/-! Z5: built-in functions, subscripts, slices, join, isinstance -/
namespace Z
open PySem PySem.Spec PyProof.Rows L2
section
variable {X : Cx} {Tt : List (Addr × Str)} {Ee : XK} {xc : Str → Option (Addr × Option Str)}
theorem allB_rep {K : PySem.W.Frag} {G : Hp} {ρ : List Addr} : ∀ {ds : List D} {vs : List V} {bs : List Bool}, RepA K G ρ vs ds → allB ds = some bs → vs = bs.map V.bl
  | [], _, bs, r, h => by
    cases r
    have e : [] = bs := Option.some.inj h
    subst e
    rfl
  | d :: ds, _, bs, r, h => by
    cases r with
    | cons a b =>
      cases a with
      | bl x =>
        simp only [allB] at h
        obtain ⟨cs, h1, h2⟩ := Option.map_eq_some_iff.mp h
        subst h2
        rw [allB_rep b h1]
        rfl
      | _ => cases h
theorem allI_rep {K : PySem.W.Frag} {G : Hp} {ρ : List Addr} : ∀ {ds : List D} {vs : List V} {bs : List Int}, RepA K G ρ vs ds → allI ds = some bs → vs = bs.map V.int
  | [], _, bs, r, h => by
    cases r
    have e : [] = bs := Option.some.inj h
    subst e
    rfl
  | d :: ds, _, bs, r, h => by
    cases r with
    | cons a b =>
      cases a with
      | int x =>
        simp only [allI] at h
        obtain ⟨cs, h1, h2⟩ := Option.map_eq_some_iff.mp h
        subst h2
        rw [allI_rep b h1]
        rfl
      | _ => cases h
theorem allS_rep {K : PySem.W.Frag} {G : Hp} {ρ : List Addr} : ∀ {ds : List D} {vs : List V} {bs : List Str}, RepA K G ρ vs ds → allS ds = some bs → vs = bs.map V.str ∧ ∀ x ∈ bs, PyData.strOk x = true
  | [], _, bs, r, h => by
    cases r
    have e : [] = bs := Option.some.inj h
    subst e
    exact ⟨rfl, fun x m => nomatch m⟩
  | d :: ds, _, bs, r, h => by
    cases r with
    | cons a b =>
      cases a with
      | @str x z o =>
        simp only [allS] at h
        obtain ⟨cs, h1, h2⟩ := Option.map_eq_some_iff.mp h
        subst h2
        obtain ⟨q1, q2⟩ := allS_rep b h1
        rw [q1]
        refine ⟨rfl, fun y m => ?_⟩
        rcases List.mem_cons.mp m with rfl | m
        · exact o
        · exact q2 y m
      | _ => cases h
/-- a thing of the store, read -/
theorem Wf.seq {K : Kx} {H : Hp} {F : Fs} {ρ : List Addr} {S : Store} {n : Nat} {a : Addr} {xs : List D} (w : Wf K H F ρ S) (e : ρ[n]? = some a) (h : S[n]? = some (.lst xs)) : ∃ vs, H a = some (.lst vs) ∧ RepA K.K (del H F ρ) ρ vs xs ∧ xs.length ≤ sizeLine := by
  obtain ⟨vs, h1, h2, h3, _⟩ := w.at_ n a _ e h
  exact ⟨vs, h1, h2, h3⟩
theorem seqOf_rep {K : Kx} {H : Hp} {F : Fs} {ρ : List Addr} {S : Store} {v : V} {d : D} {xs : List D} (w : Wf K H F ρ S) (r : Rep K.K (del H F ρ) ρ v d) (h : seqOf S d = some xs) :
    ∃ a vs, v = .ref a ∧ (SqL K.K H a vs ∨ SqT K.K H a vs) ∧ RepA K.K (del H F ρ) ρ vs xs ∧ xs.length ≤ sizeLine := by
  cases r with
  | tup a b c =>
    have e := Option.some.inj h
    subst e
    exact ⟨_, _, rfl, .inr (SqT.le del_leH a), b, c⟩
  | lst a b c =>
    have e := Option.some.inj h
    subst e
    exact ⟨_, _, rfl, .inl (.inl (.inl (del_lst a))), b, c⟩
  | scr a b c =>
    have e := Option.some.inj h
    subst e
    exact ⟨_, _, rfl, .inl (SqL.le del_leH a), b, c⟩
  | @loc a n e =>
    simp only [seqOf] at h
    cases q : S[n]? with
    | none => rw [q] at h; cases h
    | some o =>
      cases o with
      | lst ys =>
        rw [q] at h
        have e2 := Option.some.inj h
        subst e2
        obtain ⟨vs, h1, h2, h3⟩ := w.seq e q
        exact ⟨a, vs, rfl, .inl (.inl (.inl h1)), h2, h3⟩
  | _ => cases h
theorem sizeLine_one : (1 : Nat) ≤ sizeLine := by rw [sizeLine_eq]; decide
theorem sign_rep {K : PySem.W.Frag} {G : Hp} {ρ : List Addr} {z : Str} (o : PyData.strOk z = true) {c : Nat} (h : c ∈ z.cps.toList) : Rep K G ρ (.str ⟨#[c]⟩) (.str ⟨#[c]⟩) := by
  refine .str sizeLine_one ?_
  have q : z.cps.all (· < 0x110000) = true := o
  rw [← Array.all_toList] at q
  have q2 := List.all_eq_true.mp q c h
  show (#[c] : Array Nat).all (· < 0x110000) = true
  simpa using q2
theorem signs_rep {K : PySem.W.Frag} {G : Hp} {ρ : List Addr} {z : Str} (o : PyData.strOk z = true) : RepA K G ρ (z.cps.toList.map fun c => V.str ⟨#[c]⟩) (signs z) := by
  refine RepA.of (by simp [signs]) fun i v d hv hd => ?_
  unfold signs at hd
  rw [List.getElem?_map] at hv hd
  cases e : z.cps.toList[i]? with
  | none => rw [e] at hv; cases hv
  | some c =>
    rw [e] at hv hd
    have e1 := Option.some.inj hv
    have e2 := Option.some.inj hd
    subst e1 e2
    exact sign_rep o (List.mem_of_getElem? e)

/-! ### len, all, any, sum, tuple, list, int, abs -/
theorem bi_len : CallR X (.builtin "len") (rA (Kx.mk X.K Tt Ee xc) (biSem .len)) := by
  refine callImp call_len ?_
  rintro xs H Q ⟨F, ρ, S, ds, w, rd, p⟩
  cases rd with
  | nil => exact p.elim
  | @cons v vs d ds r rr =>
    cases rr with
    | cons _ _ => exact p.elim
    | nil =>
      cases h : seqOf S d with
      | some ys =>
        obtain ⟨a, us, rfl, hs, hr, hz⟩ := seqOf_rep w r h
        refine ⟨_, ys.length, rfl, ?_, ?_⟩
        · rw [← hr.length]
          rcases hs with hs | hs
          · exact .inl ⟨us, hs, rfl⟩
          · exact .inr ⟨us, hs, rfl⟩
        · have p' : Post (Kx.mk X.K Tt Ee xc) F H ρ Q (biSem .len [d] S) := p
          cases r with
          | tup a b c =>
            have e := Option.some.inj h
            subst e
            exact p'.ok w (.int _)
          | lst a b c =>
            have e := Option.some.inj h
            subst e
            exact p'.ok w (.int _)
          | scr a b c =>
            have e := Option.some.inj h
            subst e
            exact p'.ok w (.int _)
          | loc e =>
            simp only [biSem, h] at p'
            exact p'.ok w (.int _)
          | ins _ _ _ _ _ => cases h
      | none =>
        cases r with
        | @str z zz zo => exact ⟨.str z, z.length, rfl, ⟨zz, rfl⟩, Post.ok w (.int _) p⟩
        | tup _ _ _ => cases h
        | lst _ _ _ => cases h
        | scr _ _ _ => cases h
        | non => exact p.elim
        | bl _ => exact p.elim
        | int _ => exact p.elim
        | ins _ _ _ _ _ => exact p.elim
        | loc e =>
          have p' : Post (Kx.mk X.K Tt Ee xc) F H ρ Q (biSem .len [.loc _] S) := p
          simp only [biSem, h] at p'
          exact p'.elim
theorem bi_all (hc : X.calm = true) : CallR X (.builtin "all") (rA (Kx.mk X.K Tt Ee xc) (biSem .all)) := by
  refine callImp (cr_all hc) ?_
  rintro xs H Q ⟨F, ρ, S, ds, w, rd, p⟩
  cases rd with
  | nil => exact p.elim
  | @cons v vs d ds r rr =>
    cases rr with
    | cons _ _ => cases r <;> exact p.elim
    | nil =>
      cases r with
      | @lst a us es h1 h2 h3 =>
        have p' : Post (Kx.mk X.K Tt Ee xc) F H ρ Q (biSem .all [.lst es] S) := p
        simp only [biSem] at p'
        cases e : allB es with
        | none => rw [e] at p'; exact p'.elim
        | some bs =>
          rw [e] at p'
          refine ⟨a, bs, rfl, ?_, p'.ok w (.bl _)⟩
          rw [← allB_rep h2 e]
          exact .inl (.inl (del_lst h1))
      | _ => exact p.elim
theorem bi_any (hc : X.calm = true) : CallR X (.builtin "any") (rA (Kx.mk X.K Tt Ee xc) (biSem .any)) := by
  refine callImp (cr_any hc) ?_
  rintro xs H Q ⟨F, ρ, S, ds, w, rd, p⟩
  cases rd with
  | nil => exact p.elim
  | @cons v vs d ds r rr =>
    cases rr with
    | cons _ _ => cases r <;> exact p.elim
    | nil =>
      cases r with
      | @lst a us es h1 h2 h3 =>
        have p' : Post (Kx.mk X.K Tt Ee xc) F H ρ Q (biSem .any [.lst es] S) := p
        simp only [biSem] at p'
        cases e : allB es with
        | none => rw [e] at p'; exact p'.elim
        | some bs =>
          rw [e] at p'
          refine ⟨a, bs, rfl, ?_, p'.ok w (.bl _)⟩
          rw [← allB_rep h2 e]
          exact .inl (.inl (del_lst h1))
      | _ => exact p.elim
theorem bi_sum (hc : X.calm = true) : CallR X (.builtin "sum") (rA (Kx.mk X.K Tt Ee xc) (biSem .sum)) := by
  refine callImp (cr_sum hc) ?_
  rintro xs H Q ⟨F, ρ, S, ds, w, rd, p⟩
  cases rd with
  | nil => exact p.elim
  | @cons v vs d ds r rr =>
    cases rr with
    | cons _ _ => cases r <;> exact p.elim
    | nil =>
      cases r with
      | @lst a us es h1 h2 h3 =>
        have p' : Post (Kx.mk X.K Tt Ee xc) F H ρ Q (biSem .sum [.lst es] S) := p
        simp only [biSem] at p'
        cases e : allI es with
        | none => rw [e] at p'; exact p'.elim
        | some bs =>
          rw [e] at p'
          refine ⟨a, bs, rfl, ?_, p'.ok w (.int _)⟩
          rw [← allI_rep h2 e]
          exact .inl (.inl (del_lst h1))
      | _ => exact p.elim
theorem bi_tuple : CallR X (.type "tuple") (rA (Kx.mk X.K Tt Ee xc) (biSem .tuple)) := by
  refine callImp call_tuple_of ?_
  rintro xs H Q ⟨F, ρ, S, ds, w, rd, p⟩
  cases rd with
  | nil => exact p.elim
  | @cons v vs d ds r rr =>
    cases rr with
    | cons _ _ => exact p.elim
    | nil =>
      cases r with
      | @lst a us es h1 h2 h3 => exact ⟨a, us, rfl, .inl ⟨.inl (.inl (del_lst h1)), fun l hl => p _ _ _ (w.laid hl _) (w.newTup hl h2 h3)⟩⟩
      | @tup a us es h1 h2 h3 => exact ⟨a, us, rfl, .inr ⟨SqT.le del_leH h1, Post.ok w (.tup h1 h2 h3) p⟩⟩
      | _ => exact p.elim
theorem bi_list : CallR X (.type "list") (rA (Kx.mk X.K Tt Ee xc) (biSem .list)) := by
  refine callImp call_list_of ?_
  rintro xs H Q ⟨F, ρ, S, ds, w, rd, p⟩
  cases rd with
  | nil => exact p.elim
  | @cons v vs d ds r rr =>
    cases rr with
    | cons _ _ => exact p.elim
    | nil =>
      cases r with
      | @lst a us es h1 h2 h3 => exact ⟨a, us, rfl, .inl (.inl (.inl (del_lst h1))), fun l hl => p _ _ _ (w.laid hl _) (w.newLst hl h2 h3)⟩
      | @tup a us es h1 h2 h3 => exact ⟨a, us, rfl, .inr (SqT.le del_leH h1), fun l hl => p _ _ _ (w.laid hl _) (w.newLst hl h2 h3)⟩
      | _ => exact p.elim
theorem bi_int : CallR X (.type "int") (rA (Kx.mk X.K Tt Ee xc) (biSem .int)) := by
  refine callImp (CallR.or call_int1 call_int_str) ?_
  rintro xs H Q ⟨F, ρ, S, ds, w, rd, p⟩
  cases rd with
  | nil => exact p.elim
  | @cons v vs d ds r rr =>
    cases rr with
    | cons _ _ => cases r <;> exact p.elim
    | nil =>
      cases r with
      | int i => exact .inl (.inl ⟨i, rfl, Post.ok w (.int i) p⟩)
      | @str z zz zo =>
        have p' : Post (Kx.mk X.K Tt Ee xc) F H ρ Q ((match PySem.intText? z with
          | some n => if z.length ≤ 640 then M.ret (D.int n) else M.stk
          | none => M.stk) S) := p
        cases hz : PySem.intText? z with
        | none => rw [hz] at p'; exact p'.elim
        | some n =>
          rw [hz] at p'
          have p' : Post (Kx.mk X.K Tt Ee xc) F H ρ Q ((if z.length ≤ 640 then M.ret (D.int n) else M.stk) S) := p'
          by_cases hl : z.length ≤ 640
          · rw [if_pos hl] at p'
            exact .inr ⟨z, n, rfl, hz, hl, Post.ok w (.int n) p'⟩
          · rw [if_neg hl] at p'
            exact p'.elim
      | _ => exact p.elim
theorem bi_str : CallR X (.type "str") (rA (Kx.mk X.K Tt Ee xc) (biSem .str)) := by
  refine callImp (CallR.or call_str_int SkE.call_str_str) ?_
  rintro xs H Q ⟨F, ρ, S, ds, w, rd, p⟩
  cases rd with
  | nil => exact p.elim
  | @cons v vs d ds r rr =>
    cases rr with
    | cons _ _ => cases r <;> exact p.elim
    | nil =>
      cases r with
      | int i =>
        have p' : Post (Kx.mk X.K Tt Ee xc) F H ρ Q ((if i.natAbs.log2 < 1920 ∧ (strI i).length ≤ sizeLine ∧ PySem.PyData.strOk (strI i) = true then M.ret (.str (strI i)) else M.stk) S) := p
        by_cases hl : i.natAbs.log2 < 1920 ∧ (strI i).length ≤ sizeLine ∧ PySem.PyData.strOk (strI i) = true
        · rw [if_pos hl] at p'
          exact .inl ⟨i, rfl, hl.1, Post.ok w (.str hl.2.1 hl.2.2) p'⟩
        · rw [if_neg hl] at p'
          exact p'.elim
      | @str z zz zo => exact .inr ⟨z, rfl, Post.ok w (.str zz zo) p⟩
      | _ => exact p.elim
theorem depth_ints : ∀ ns : List Int, PyData.depthAll (ns.map PyData.int) = 0
  | [] => rfl
  | n :: ns => by
    rw [List.map_cons]
    unfold PyData.depthAll
    rw [depth_ints ns]
    rfl
theorem alike_ints (ns : List Int) : PySem.W.AlikeAll (ns.map PyData.int) := by
  refine ⟨fun x hx y hy => ?_, fun x hx => ?_⟩
  · obtain ⟨a, _, rfl⟩ := List.mem_map.mp hx
    obtain ⟨b, _, rfl⟩ := List.mem_map.mp hy
    rfl
  · obtain ⟨a, _, rfl⟩ := List.mem_map.mp hx
    exact fun z => by cases z
def nmP (mx : Bool) : String := if mx = true then "max" else "min"
theorem reads_int {h : Heap} {v : Value} {m : Int} {bs : List Addr} (r : Reads h v (.int m) bs) : RelV (.int m) v := by
  cases r
  exact ⟨_, rfl⟩
/-- min, max of a list of ints -/
theorem call_pick (hc : X.calm = true) (hu : X.A.units + many + 5 < cLine) (mx : Bool) : CallR X (.builtin (nmP mx)) (fun xs H Q => ∃ (a : Addr) (n : Int) (ns : List Int), xs = [.ref a] ∧ SqL X.K H a ((n :: ns).map V.int) ∧ Q (.int (pickI mx n ns)) H) := by
  intro pins s σ H xs us Q I r h
  obtain ⟨a, n, ns, rfl, hs, q⟩ := h
  obtain ⟨its, rv, hl, _⟩ := I.list hs
  rw [Vals.ref1 r]
  have hr : ReadsAll s.heap (its.toArray).toList (PyData.int n :: ns.map PyData.int) [] := IntsAre.reads s.heap rv.ints
  have hd : X.A.units + 1 + PyData.depthAll (PyData.int n :: ns.map PyData.int) < cLine := by
    have e := depth_ints (n :: ns)
    rw [List.map_cons] at e
    rw [e]
    omega
  have ha := alike_ints (n :: ns)
  rw [List.map_cons] at ha
  cases mx with
  | true =>
    refine PySem.W.max_list_data (I.ok.hd hc) hl.isList hr ha hd fun i v h' tk bs _ rr hk => ⟨.int _, H, I.kept hk, ?_, q⟩
    rw [PySem.W.maxD_ints] at rr
    exact reads_int rr
  | false =>
    refine PySem.W.min_list_data (I.ok.hd hc) hl.isList hr ha hd fun i v h' tk bs _ rr hk => ⟨.int _, H, I.kept hk, ?_, q⟩
    rw [PySem.W.minD_ints] at rr
    exact reads_int rr
/-- .. with default= -/
theorem call_pickD (hc : X.calm = true) (hu : X.A.units + many + 5 < cLine) (mx : Bool) : CallRK X (.builtin (nmP mx)) [("default" : Str)] (fun xs zs H Q => ∃ (a : Addr) (ns : List Int) (d : V), xs = [.ref a] ∧ zs = [d] ∧ SqL X.K H a (ns.map V.int) ∧ (match ns with
    | [] => Q d H
    | n :: ns => Q (.int (pickI mx n ns)) H)) := by
  intro pins s σ H xs zs us ws Q I r rz h
  obtain ⟨a, ns, d, rfl, rfl, hs, q⟩ := h
  obtain ⟨its, rv, hl, _⟩ := I.list hs
  obtain ⟨w1, rfl, e1⟩ := vals1 rz
  rw [Vals.ref1 r]
  have hr : ReadsAll s.heap (its.toArray).toList (ns.map PyData.int) [] := IntsAre.reads s.heap rv.ints
  have hd : X.A.units + 1 + PyData.depthAll (ns.map PyData.int) < cLine := by
    rw [depth_ints ns]
    omega
  show wpAny _ _ (call (.builtin (nmP mx)) [.ref a] [(Str.ofString "default", w1)]) _ _ _
  cases mx with
  | true =>
    refine PySem.W.max_list_default (I.ok.hd hc) hl.isList hr (alike_ints ns) hd (fun e h' tk hk => ?_) fun y ys i v h' tk bs e _ rr hk => ?_
    · obtain rfl := List.map_eq_nil_iff.mp e
      exact ⟨d, H, I.kept hk, e1, q⟩
    · cases ns with
      | nil => cases e
      | cons n ns =>
        cases e
        rw [PySem.W.maxD_ints] at rr
        exact ⟨.int _, H, I.kept hk, reads_int rr, q⟩
  | false =>
    refine PySem.W.min_list_default (I.ok.hd hc) hl.isList hr (alike_ints ns) hd (fun e h' tk hk => ?_) fun y ys i v h' tk bs e _ rr hk => ?_
    · obtain rfl := List.map_eq_nil_iff.mp e
      exact ⟨d, H, I.kept hk, e1, q⟩
    · cases ns with
      | nil => cases e
      | cons n ns =>
        cases e
        rw [PySem.W.minD_ints] at rr
        exact ⟨.int _, H, I.kept hk, reads_int rr, q⟩
theorem pick_of {mx : Bool} {K : PySem.W.Frag} {H : Hp} {F : Fs} {ρ : List Addr} {S : Store} {v : V} {xs : List D} {Q : VK} (w : Wf (Kx.mk K Tt Ee xc) H F ρ S) (r : Rep K (del H F ρ) ρ v (.lst xs)) (p : Post (Kx.mk K Tt Ee xc) F H ρ Q ((match allI xs with
    | some (n :: ns) => M.ret (D.int (pickI mx n ns))
    | _ => M.stk) S)) : ∃ (a : Addr) (n : Int) (ns : List Int), [v] = [.ref a] ∧ SqL K H a ((n :: ns).map V.int) ∧ Q (.int (pickI mx n ns)) H := by
  cases r with
  | @lst a vs ds h1 h2 h3 =>
    cases e : allI xs with
    | none => rw [e] at p; exact p.elim
    | some ms =>
      rw [e] at p
      cases ms with
      | nil => exact p.elim
      | cons n ns =>
        have ev := allI_rep h2 e
        exact ⟨a, n, ns, rfl, ev ▸ SqL.le del_leH (.inl (.inl h1)), Post.ok w (.int _) p⟩
theorem bi_max (hc : X.calm = true) (hu : X.A.units + many + 5 < cLine) : CallR X (.builtin "max") (rA (Kx.mk X.K Tt Ee xc) (biSem .max)) := by
  refine callImp (CallR.or (call_pick hc hu true) (call_max2 hc)) ?_
  rintro xs H Q ⟨F, ρ, S, ds, w, rd, p⟩
  cases rd with
  | nil => exact p.elim
  | @cons v vs d ds r rr =>
    cases rr with
    | nil =>
      cases d with
      | lst ys => exact .inl (pick_of w r p)
      | _ => exact p.elim
    | @cons v2 vs2 d2 ds2 r2 rr =>
      cases rr with
      | cons _ _ => cases r <;> cases r2 <;> exact p.elim
      | nil =>
        cases r with
        | int i =>
          cases r2 with
          | int j => exact .inr ⟨i, j, rfl, Post.ok w (.int _) p⟩
          | _ => exact p.elim
        | _ => cases r2 <;> exact p.elim
theorem bi_min (hc : X.calm = true) (hu : X.A.units + many + 5 < cLine) : CallR X (.builtin "min") (rA (Kx.mk X.K Tt Ee xc) (biSem .min)) := by
  refine callImp (CallR.or (call_pick hc hu false) (call_min2 hc)) ?_
  rintro xs H Q ⟨F, ρ, S, ds, w, rd, p⟩
  cases rd with
  | nil => exact p.elim
  | @cons v vs d ds r rr =>
    cases rr with
    | nil =>
      cases d with
      | lst ys => exact .inl (pick_of w r p)
      | _ => exact p.elim
    | @cons v2 vs2 d2 ds2 r2 rr =>
      cases rr with
      | cons _ _ => cases r <;> cases r2 <;> exact p.elim
      | nil =>
        cases r with
        | int i =>
          cases r2 with
          | int j => exact .inr ⟨i, j, rfl, Post.ok w (.int _) p⟩
          | _ => exact p.elim
        | _ => cases r2 <;> exact p.elim
theorem bi_abs : CallR X (.builtin "abs") (rA (Kx.mk X.K Tt Ee xc) (biSem .abs)) := by
  refine callImp call_abs ?_
  rintro xs H Q ⟨F, ρ, S, ds, w, rd, p⟩
  cases rd with
  | nil => exact p.elim
  | @cons v vs d ds r rr =>
    cases rr with
    | cons _ _ => cases r <;> exact p.elim
    | nil =>
      cases r with
      | int i => exact ⟨i, rfl, Post.ok w (.int _) p⟩
      | _ => exact p.elim
/-! ### sorted -/
theorem signs_ok (z : Str) : sortOk (signs z) = true := by
  have h1 : ∀ l : List Nat, D.dats (l.map fun c => D.str ⟨#[c]⟩) = true := by
    intro l
    induction l with
    | nil => rfl
    | cons c l ih => simp only [List.map_cons, D.dats, D.dat, ih, Bool.and_self]
  have h2 : ∀ l : List Nat, D.deps (l.map fun c => D.str ⟨#[c]⟩) = 0 := by
    intro l
    induction l with
    | nil => rfl
    | cons c l ih => simp only [List.map_cons, D.deps, D.dep, ih, Nat.max_self]
  unfold sortOk
  rw [show D.dats (signs z) = true from h1 _, show D.deps (signs z) = 0 from h2 _]
  have h3 : alikeD (signs z) = true := by
    refine List.all_eq_true.mpr fun x hx => List.all_eq_true.mpr fun y hy => ?_
    obtain ⟨c, _, rfl⟩ := List.mem_map.mp hx
    obtain ⟨c', _, rfl⟩ := List.mem_map.mp hy
    simp only [D.py, PySem.W.alike]
  have h4 : sortable (signs z) = true := by
    unfold sortable
    refine Bool.or_eq_true_iff.mpr (.inr (List.all_eq_true.mpr fun x hx => ?_))
    obtain ⟨c, _, rfl⟩ := List.mem_map.mp hx
    rfl
  rw [h3, h4]
  rfl
/-- sorted of a text -/
def rSortS (K : PySem.W.Frag) : List V → Hp → VK → Prop := fun vs H Q => ∃ (z : Str) (F : Fs) (ρ : List Addr), vs = [.str z] ∧ z.length ≤ sizeLine ∧ PyData.strOk z = true ∧
  ∀ (p : Addr) (zs : List V), H p = none → RepA K (del H F ρ) ρ zs (sortD (signs z)) → Q (.ref p) (upd H p (.lst zs))
theorem cr_sortS (hu : X.A.units + many + 5 < cLine) (hc : X.calm = true) : CallR X (.builtin "sorted") (rSortS X.K) := by
  intro pins s σ H vs us Q I r h
  obtain ⟨z, F, ρ, rfl, hz, ho, q⟩ := h
  obtain ⟨u, rfl, t, rfl⟩ := vals1 r
  have hok := signs_ok z
  unfold sortOk at hok
  obtain ⟨ok1, hok⟩ := Bool.and_eq_true_iff.mp hok
  obtain ⟨ok2, hok⟩ := Bool.and_eq_true_iff.mp hok
  obtain ⟨ok3, ok4⟩ := Bool.and_eq_true_iff.mp hok
  have ok4 : D.deps (signs z) ≤ many := of_decide_eq_true ok4
  have sl : (signs z).length = z.length := by
    unfold signs
    rw [List.length_map, Array.length_toList]
    rfl
  refine sorted_by (wpAny_collect_str (A := X.A.in1) (I.ok.hd hc) z t (fun s1 acc kp hg hd hos hacc => ?_) hz)
  have I1 : L2.Inv X pins σ H s1 := by
    have I0 : L2.Inv X pins σ H { s with heap := s1.heap, toks := s1.toks } := I.kept (t' := s1.toks) kp
    obtain ⟨h1, g1, d1, t1, o1⟩ := s1
    simp only at hg hd hos
    subst hg hd hos
    exact I0
  obtain ⟨hsz, hat⟩ := hacc
  have rv : Vals (z.cps.toList.map fun c => V.str ⟨#[c]⟩) acc.toList := by
    have gen : ∀ (l : List Nat) (m : List Value), m.length = l.length → (∀ (j : Nat) v, m[j]? = some v → ∃ c u, l[j]? = some c ∧ v = Value.str ⟨#[c]⟩ u) → Vals (l.map fun c => V.str ⟨#[c]⟩) m := by
      intro l
      induction l with
      | nil =>
        intro m hm _
        have : m = [] := List.eq_nil_of_length_eq_zero hm
        subst this
        exact .nil
      | cons c l ih =>
        intro m hm hh
        cases m with
        | nil => cases hm
        | cons v m =>
          obtain ⟨c', u, e1, e2⟩ := hh 0 v rfl
          have e1 : c = c' := Option.some.inj e1
          subst e1
          exact .cons ⟨u, e2⟩ (ih m (by simpa using hm) fun j v hv => hh (j + 1) v (by simpa using hv))
    refine gen _ _ (by rw [Array.length_toList, Array.length_toList]; exact hsz) fun j v hv => ?_
    rw [Array.getElem?_toList] at hv
    obtain ⟨c, u, e1, e2⟩ := hat j v hv
    exact ⟨c, u, by rw [Array.getElem?_toList]; exact e1, e2⟩
  have hr : RepA X.K (del H F ρ) ρ (z.cps.toList.map fun c => V.str ⟨#[c]⟩) (signs z) := signs_rep ho
  have e := each_repA rv hr
  have el := e.length
  refine ⟨by rw [el, sl]; exact hz, ?_⟩
  refine sort_new (s1 := s1) (enc := D.py) e (each_reads I1 ok1 e) (sortOk_al ok2) (sortOk_st ok3) (by rw [sl]; exact hz) (fun b hb => ?_) fun out h' ho eo kp' hlt hat => ?_
  · rw [py_depth]
    have := deps_mem hb
    omega
  · obtain ⟨zs, rz, rr⟩ := repA_each eo
    obtain ⟨n, hat⟩ := hat
    have zl2 : zs.length = (signs z).length := by rw [rr.length]; exact List.length_mergeSort _
    refine ⟨.ref s1.heap.objs.size, _, I1.laid (t' := s1.toks) (o := .lst zs) kp' (Nat.le_refl _) (show ObjOk X.prog X.w _ h' _ (.lst zs) from ⟨by rw [zl2, sl]; exact hz, out, n, rz, hat⟩), rfl, q _ zs (I1.hok.fresh (Nat.le_refl _)) rr⟩
theorem sortD_length (ds : List D) : (sortD ds).length = ds.length := List.length_mergeSort _
theorem bi_sorted (hu : X.A.units + many + 5 < cLine) (hc : X.calm = true) : CallR X (.builtin "sorted") (rA (Kx.mk X.K Tt Ee xc) (biSem .sorted)) := by
  refine callImp (CallR.or (cr_sort hu) (cr_sortS hu hc)) ?_
  rintro xs H Q ⟨F, ρ, S, ds, w, rd, p⟩
  cases rd with
  | nil => exact p.elim
  | @cons v vs d ds r rr =>
    cases rr with
    | cons _ _ => exact p.elim
    | nil =>
      have p' : Post (Kx.mk X.K Tt Ee xc) F H ρ Q (biSem .sorted [d] S) := p
      cases r with
      | @lst a us es h1 h2 h3 =>
        simp only [biSem] at p'
        by_cases hk : sortOk es = true
        · rw [if_pos hk] at p'
          exact .inl ⟨a, us, F, ρ, es, rfl, .inl (.inl (.inl (del_lst h1))), h2, hk, h3, fun q zs hq rz => p' _ _ _ (w.laid hq _) (w.newLst hq rz (by rw [sortD_length]; exact h3))⟩
        · rw [if_neg hk] at p'
          exact p'.elim
      | @tup a us es h1 h2 h3 =>
        simp only [biSem] at p'
        by_cases hk : sortOk es = true
        · rw [if_pos hk] at p'
          exact .inl ⟨a, us, F, ρ, es, rfl, .inr (SqT.le del_leH h1), h2, hk, h3, fun q zs hq rz => p' _ _ _ (w.laid hq _) (w.newLst hq rz (by rw [sortD_length]; exact h3))⟩
        · rw [if_neg hk] at p'
          exact p'.elim
      | @str z zz zo =>
        refine .inr ⟨z, F, ρ, rfl, zz, zo, fun q zs hq rz => p' _ _ _ (w.laid hq _) (w.newLst hq rz ?_)⟩
        rw [sortD_length]
        unfold signs
        rw [List.length_map, Array.length_toList]
        exact zz
      | _ => exact p.elim
/-! ### subscripts, slices -/
theorem atI_get {α : Type} {xs : List α} {i : Int} {x : α} (h : atI xs i = some x) : ∃ j : Nat, ixN xs.length i = some j ∧ xs[j]? = some x := Option.bind_eq_some_iff.mp h
theorem atI_rep {K : PySem.W.Frag} {G : Hp} {ρ : List Addr} {vs : List V} {ds : List D} {i : Int} {d : D} (r : RepA K G ρ vs ds) (h : atI ds i = some d) : ∃ v, atI vs i = some v ∧ Rep K G ρ v d := by
  obtain ⟨j, h1, h2⟩ := atI_get h
  obtain ⟨v, e1, e2⟩ := r.get h2
  refine ⟨v, ?_, e2⟩
  unfold atI
  rw [r.length, h1]
  exact e1
theorem ix_all : IxR X (r2 (Kx.mk X.K Tt Ee xc) ixSem) := by
  have base := ix_seq (X := X)
  intro value slice pins s σ H x y v u Q I rx ry h hs
  refine base value slice pins s σ H x y v u Q I rx ry ?_ hs
  obtain ⟨F, ρ, S, d, e, w, rd, re, p⟩ := h
  cases re with
  | int i =>
    have p' : Post (Kx.mk X.K Tt Ee xc) F H ρ Q (ixSem d (.int i) S) := p
    have sq : ∀ ys, seqOf S d = some ys → Post (Kx.mk X.K Tt Ee xc) F H ρ Q (at? ys i S) → rIx X.K x (.int i) H Q := by
      intro ys hy p2
      obtain ⟨a, us, rfl, hq, hr, hz⟩ := seqOf_rep w rd hy
      unfold at? at p2
      cases e : atI ys i with
      | none => rw [e] at p2; exact p2.elim
      | some d' =>
        rw [e] at p2
        obtain ⟨v', e1, e2⟩ := atI_rep hr e
        rcases hq with hq | hq
        · exact .inl ⟨a, us, i, v', rfl, rfl, hq, e1, p2.ok w e2⟩
        · exact .inr (.inl ⟨a, us, i, v', rfl, rfl, hq, e1, p2.ok w e2⟩)
    cases rd with
    | @str z zz zo =>
      simp only [ixSem] at p'
      cases e : atI z.cps.toList i with
      | none => rw [e] at p'; exact p'.elim
      | some c =>
        rw [e] at p'
        obtain ⟨j, _, hj⟩ := atI_get e
        exact .inr (.inr ⟨z, i, c, rfl, rfl, zz, e, p'.ok w (sign_rep zo (List.mem_of_getElem? hj))⟩)
    | tup a b c => exact sq _ rfl p'
    | lst a b c => exact sq _ rfl p'
    | scr a b c => exact sq _ rfl p'
    | @loc a n e =>
      simp only [ixSem] at p'
      cases q : seqOf S (.loc n) with
      | none => rw [q] at p'; exact p'.elim
      | some ys =>
        rw [q] at p'
        exact sq ys q p'
    | _ => exact p.elim
  | _ => exact p.elim
theorem cut_rep {K : PySem.W.Frag} {G : Hp} {ρ : List Addr} {vs : List V} {ds : List D} (r : RepA K G ρ vs ds) (lo hi : Option Int) : RepA K G ρ (cutV vs lo hi) (cut ds lo hi) := by
  unfold cutV cut
  rw [r.length]
  exact (r.drop _).take _
theorem cut_length {α : Type} (xs : List α) (lo hi : Option Int) : (cut xs lo hi).length ≤ xs.length := by
  unfold cut
  rw [List.length_take, List.length_drop]
  omega
theorem strOk_cut {z : Str} (h : PyData.strOk z = true) (lo hi : Option Int) : PyData.strOk (cutS z lo hi) = true := by
  have q : z.cps.all (· < 0x110000) = true := h
  rw [← Array.all_toList] at q
  have q2 := List.all_eq_true.mp q
  show (cutS z lo hi).cps.all (· < 0x110000) = true
  rw [← Array.all_toList]
  refine List.all_eq_true.mpr fun c hc => q2 c ?_
  unfold cutS at hc
  simp only at hc
  exact List.mem_of_mem_drop (List.mem_of_mem_take (by simpa using hc))
def r1S (K : Kx) (g : D → Option Int → Option Int → M D) : V → Option Int → Option Int → Hp → VK → Prop := fun x lo hi H Q => ∃ F ρ S d, Wf K H F ρ S ∧ Rep K.K (del H F ρ) ρ x d ∧ Post K F H ρ Q (g d lo hi S)
theorem sl_all : SlR X (r1S (Kx.mk X.K Tt Ee xc) sliceSem) := by
  have base := SlR.or (sl_tupA (X := X)) (SlR.or (sl_list (X := X)) (sl_str (X := X)))
  intro pins s σ H x v vl vu lo hi sl Q I rx hs pl pu h
  refine base pins s σ H x v vl vu lo hi sl Q I rx hs pl pu ?_
  obtain ⟨F, ρ, S, d, w, rd, p⟩ := h
  cases rd with
  | @tup a us es h1 h2 h3 =>
    refine .inl ⟨a, us, rfl, SqT.le del_leH h1, fun hw => ?_, fun _ q hq => p _ _ _ (w.laid hq _) (w.newTup hq (cut_rep h2 lo hi) (Nat.le_trans (cut_length _ _ _) h3))⟩
    have e : cut es lo hi = es := by
      rw [h2.length] at hw
      unfold cut
      rw [hw.1, hw.2, List.drop_zero, Nat.sub_zero, List.take_length]
    have p' : Post (Kx.mk X.K Tt Ee xc) F H ρ Q (.ok (.tup (cut es lo hi)) S) := p
    rw [e] at p'
    exact p'.ok w (.tup h1 h2 h3)
  | @lst a us es h1 h2 h3 => exact .inr (.inl ⟨a, us, rfl, .inl (.inl (del_lst h1)), fun q hq => p _ _ _ (w.laid hq _) (w.newLst hq (cut_rep h2 lo hi) (Nat.le_trans (cut_length _ _ _) h3))⟩)
  | @scr a us es h1 h2 h3 => exact .inr (.inl ⟨a, us, rfl, SqL.le del_leH h1, fun q hq => p _ _ _ (w.laid hq _) (w.newLst hq (cut_rep h2 lo hi) (Nat.le_trans (cut_length _ _ _) h3))⟩)
  | @str z zz zo => exact .inr (.inr ⟨z, rfl, zz, Post.ok w (.str (Nat.le_trans (cutS_length _ _ _) zz) (strOk_cut zo lo hi)) p⟩)
  | _ => exact p.elim
end
end Z

/-! Z6: a tuple backwards; join; isinstance -/
namespace HT
open PySem PyProof.Rows
open PySem.SeqAt
open PySem.AutoSeq1 (wpAny_loadPart')
open PySem.MeetsSeq PySem.MeetsSeq2 PySem.MeetsSeq3
section
variable {prog : Program} {w : World} {A : Around} {E : Value → Shared → Prop} {s : Shared}
theorem sliceApplied_back {sl : Addr} {vs : Value} {n : Nat} {Q : Int × Int × Nat → Shared → Prop} (hs : s.heap.IsSliceOf sl .none .none vs) (ps : IsPart vs (some (-1)))
    (h : Q ((n : Int) - 1, -1, n) s) : wpAny (model prog w) A (Builtin.Slice.sliceApplied (.ref sl) (pure (n : Int))) Q E s := by
  obtain ⟨os, hos, hcs, hds⟩ := id hs
  unfold Builtin.Slice.sliceApplied Builtin.Slice.sliceFields
  refine wpAny_bind (wpAny_bind (wpAny_field hos hds (x := .none) rfl (wpAny_bind (wpAny_field hos hds (x := .none) rfl (wpAny_bind (wpAny_field hos hds (x := vs) rfl (wpAny_pure ?_)))))))
  refine wpAny_bind (slicePart_ ps ?_)
  show wpAny _ _ (if ((-1 : Int) == 0) = true then _ else _) _ _ s
  rw [if_neg (by decide)]
  refine wpAny_bind (slicePart_none (wpAny_bind (slicePart_none (wpAny_bind (wpAny_pure ?_)))))
  show wpAny _ _ (pure ((n : Int) - 1, (-1 : Int), Builtin.Slice.slicePlaces ((n : Int) - 1) (-1) (-1))) _ _ s
  have e : Builtin.Slice.slicePlaces ((n : Int) - 1) (-1) (-1) = n := by
    unfold Builtin.Slice.slicePlaces
    have h1 : ¬ ((-1 : Int) > 0) := by decide
    simp only [h1, if_false]
    by_cases h : (n : Int) - 1 > -1
    · simp only [h, if_true]
      have : ((n : Int) - 1 - -1 - 1) / (- -1) = (n : Int) - 1 := by
        rw [show (- -1 : Int) = 1 by decide, Int.ediv_one]
        omega
      rw [this]
      omega
    · simp only [h, if_false]
      omega
  rw [e]
  exact wpAny_pure h
theorem fm_congr {α β : Type} {f g : α → Option β} : ∀ {l : List α}, (∀ m ∈ l, f m = g m) → l.filterMap f = l.filterMap g
  | [], _ => rfl
  | a :: l, h => by
    rw [List.filterMap_cons, List.filterMap_cons, h a List.mem_cons_self, fm_congr fun m hm => h m (List.mem_cons_of_mem _ hm)]
theorem pick_back (xs : Array Value) : ((List.range xs.size).filterMap fun (m : Nat) => xs[(((xs.size : Int) - 1) + (m : Int) * (-1)).toNat]?).toArray = xs.toList.reverse.toArray := by
  have e : ∀ m ∈ List.range xs.size, (fun (m : Nat) => xs[(((xs.size : Int) - 1) + (m : Int) * (-1)).toNat]?) m = (fun k => xs[k]?) (xs.size - 1 - m) := fun m hm => by
    have := List.mem_range.mp hm
    have q : (((xs.size : Int) - 1) + (m : Int) * (-1)).toNat = xs.size - 1 - m := by omega
    show xs[(((xs.size : Int) - 1) + (m : Int) * (-1)).toNat]? = _
    rw [q]
  have e2 : (List.range xs.size).filterMap (fun (m : Nat) => xs[(((xs.size : Int) - 1) + (m : Int) * (-1)).toNat]?) = ((List.range xs.size).map fun k => xs.size - 1 - k).filterMap (fun k => xs[k]?) := by
    rw [List.filterMap_map]
    exact fm_congr e
  rw [e2, PySem.W.krv_range, List.filterMap_reverse, PySem.W.krv_all]
theorem getItem_tuple_back {t sl : Addr} {items : Array Value} {vs : Value} {Q : Value → Shared → Prop} (ht : IsTup s.heap t items) (hs : s.heap.IsSliceOf sl .none .none vs) (ps : IsPart vs (some (-1)))
    (h : Q (.ref s.heap.objs.size) { s with heap := s.heap.push { cls := .type "tuple", data := .seq items.toList.reverse.toArray } })
    (hsz : items.size ≤ sizeLine) : wpAny (model prog w) A (getItem (.ref t) (.ref sl)) Q E s := by
  have htake : sizeOk (.seq items.toList.reverse.toArray) := by
    show items.toList.reverse.toArray.size ≤ sizeLine
    rw [List.size_toArray, List.length_reverse, Array.length_toList]
    omega
  obtain ⟨os, hos, hcs, hds⟩ := id hs
  have hTs : s.TypeIs (.ref sl) "slice" := ⟨os, hos, hcs⟩
  unfold getItem
  try with_reducible refine wpAny_holding ?_
  first | refine wpAny_bind (wpAny_pure ?_) | skip
  refine wpAny_bind (wpAny_sequenceKey ht.typeIs (by decide) ?_)
  refine wpAny_bind (wpAny_callSpecial?_slot (name := Str.ofString "__getitem__") ht.typeIs PyProof.Rows.slot_tuple_getitem
    (wpAny_call_entry PyProof.Rows.slot_tuple_getitem ht.typeIs entry_tuple_getitem ?_ (args_tuple_getitem _ _)))
  show wpAny _ _ (Builtin.Tuple.tupleItemsOf (.ref t) >>= _) _ _ s
  refine wpAny_bind (tupleItemsOf_ ht ?_)
  refine wpAny_bind (wpAny_typeOf hTs ?_)
  rw [if_pos (by decide)]
  refine wpAny_bind (sliceApplied_back hs ps ?_)
  have hno : ¬ ((((items.size : Int) - 1) == 0 && (-1 : Int) == 1 && items.size == items.size) = true) := by
    intro q
    rw [Bool.and_eq_true, Bool.and_eq_true] at q
    exact absurd q.1.2 (by decide)
  show wpAny _ _ (if (((items.size : Int) - 1) == 0 && (-1 : Int) == 1 && items.size == items.size) = true then _ else _) _ _ s
  rw [if_neg hno, pick_back]
  first
    | exact wpAny_bind (m := Builtin.Tuple.tupleExact _) (wpAny_newObj_type (wpAny_pure ⟨_, rfl, wpAny_pure h⟩) htake)
    | exact wpAny_bind (m := Builtin.Tuple.tupleExact _) (wpAny_newObj_type (wpAny_bind (wpAny_pure (wpAny_pure ⟨_, rfl, wpAny_pure h⟩))) htake)
    | exact wpAny_bind (wpAny_bind (m := Builtin.Tuple.tupleExact _) (wpAny_newObj_type (wpAny_pure (wpAny_pure ⟨_, rfl, wpAny_pure h⟩)) htake))
    | exact wpAny_bind (wpAny_bind (m := Builtin.Tuple.tupleExact _) (wpAny_newObj_type (wpAny_pure ⟨_, rfl, wpAny_pure h⟩) htake))
end
end HT
namespace Z
open PySem PySem.Spec PyProof.Rows L2
section
variable {X : Cx} {Tt : List (Addr × Str)} {Ee : XK} {xc : Str → Option (Addr × Option Str)}
def tRevT (K : PySem.W.Frag) (te : TE) : TE := fun σ H Q => te σ H fun x H1 => ∃ a xs, x = .ref a ∧ SqT K H1 a xs ∧ ∀ p, H1 p = none → Q (.ref p) (upd H1 p (.tup xs.reverse))
theorem pe_revT {e : Expr} {te : TE} {k : Nat} {p1 p2 p3 pos : Pos} (he : PE X e te) : PE X (.Subscript e (.Slice none none (some (.UnaryOp .USub (.Constant (.int 1) k p1) p2)) p3) pos) (tRevT X.K te) := by
  refine ⟨fun pins s σ H Q I h => ?_⟩
  refine Subscript_ (thn (he.run pins s σ H _ I h) fun v s1 ⟨x, H1, I1, r1, q1⟩ => ?_)
  obtain ⟨a, xs, ex, hx, q⟩ := q1
  subst ex
  cases r1
  have hst : PO X (some (.UnaryOp .USub (.Constant (.int 1) k p1) p2)) (tPart (tUn (rU fun i => .int (-i)) (tC (.int 1)))) := po_some (pe_un un_neg pe_int)
  refine wpAny_Slice (thn (po_none.run pins s1 σ H1 (fun o H2 => o = none ∧ H2 = H1) I1 ⟨rfl, rfl⟩) fun vl s2 ⟨l, H2, I2, pl, el, e2⟩ => ?_)
  subst el e2
  refine thn (po_none.run pins s2 σ H2 (fun o H3 => o = none ∧ H3 = H2) I2 ⟨rfl, rfl⟩) fun vu s3 ⟨u, H3, I3, pu, eu, e3⟩ => ?_
  subst eu e3
  refine thn (hst.run pins s3 σ H3 (fun o H4 => o = some (-1) ∧ H4 = H3) I3 ⟨1, rfl, -1, rfl, rfl, rfl⟩) fun vs s4 ⟨o, H4, I4, ps, eo, e4⟩ => ?_
  subst eo e4
  cases pl
  cases pu
  have I5 : L2.Inv X pins σ H4 { s4 with heap := s4.heap.push { cls := .type "slice", data := .fields #[.none, .none, vs] } } := I4.kept (t' := s4.toks) fun b ob q => Heap.get?_push_of_some _ q
  obtain ⟨its, r, ht, hz⟩ := I5.tuple hx
  have hlen := r.length
  show wpAny (model X.prog X.w) X.A (subscriptTail e (.Slice none none (some (.UnaryOp .USub (.Constant (.int 1) k p1) p2)) p3) (.ref a) (.ref s4.heap.objs.size)) (EP X pins σ Q) X.xe { s4 with heap := s4.heap.push { cls := .type "slice", data := .fields #[.none, .none, vs] } }
  refine tail_any (ops := [.ref a, .ref s4.heap.objs.size]) ht.typeIs (PyProof.Rows.slot_tuple_getitem.lookup) ?_ (by with_unfolding_all rfl)
  refine HT.getItem_tuple_back ht (Heap.IsSliceOf.new _ .none .none vs) ps ?_ (by rw [List.size_toArray]; omega)
  refine ⟨.ref _, _, I5.laid (t' := s4.toks) (o := .tup xs.reverse) (fun b ob q => Heap.get?_push_of_some _ q) (Nat.le_refl _) ?_, rfl, q _ (I5.hok.fresh (Nat.le_refl _))⟩
  exact ⟨by rw [List.length_reverse]; exact hz, _, r.reverse, IsTup.new _ _⟩

/-! ### join -/
theorem strOk_fold {sep : Str} (hs : PyData.strOk sep = true) : ∀ (ys : List Str) (acc : Array Nat), (∀ y ∈ ys, PyData.strOk y = true) → PyData.strOk ⟨acc⟩ = true → PyData.strOk ⟨ys.foldl (fun acc p => acc ++ sep.cps ++ p.cps) acc⟩ = true
  | [], _, _, h => h
  | y :: ys, acc, hy, h => strOk_fold hs ys _ (fun z m => hy z (List.mem_cons_of_mem _ m)) (strOk_append (a := ⟨acc ++ sep.cps⟩) (strOk_append (a := ⟨acc⟩) h hs) (hy y List.mem_cons_self))
theorem strOk_join {sep : Str} {ys : List Str} (hs : PyData.strOk sep = true) (hy : ∀ y ∈ ys, PyData.strOk y = true) : PyData.strOk (PySem.Txt.join sep ys) = true := by
  show PyData.strOk ⟨(ys.drop 1).foldl (fun acc p => acc ++ sep.cps ++ p.cps) (ys.headD Str.empty).cps⟩ = true
  refine strOk_fold hs _ _ (fun y m => hy y (List.mem_of_mem_drop m)) ?_
  cases ys with
  | nil => exact (by decide +kernel : PyData.strOk Str.empty = true)
  | cons y ys => exact hy y List.mem_cons_self
theorem join_len {sep : Str} (ys : List Str) : (PySem.Txt.join sep ys).length ≤ (ys.map (·.length)).sum + ys.length * sep.length := by
  show ((ys.drop 1).foldl (fun acc p => acc ++ sep.cps ++ p.cps) (ys.headD Str.empty).cps).size ≤ _
  rw [PySem.size_gluedFold]
  cases ys with
  | nil => exact Nat.le_refl _
  | cons y ys =>
    have e1 : ((y :: ys).headD Str.empty).cps.size = y.length := rfl
    simp only [List.drop_succ_cons, List.drop_zero, List.map_cons, List.sum_cons, List.length_cons, e1]
    rw [Nat.add_mul]
    omega
/-- a receiver that holds data, and the arguments -/
def rM (K : Kx) (g : List D → M D) : V → List V → Hp → VK → Prop := fun x xs H Q => rA K g (x :: xs) H Q
theorem mt_joinZ : MtR X "str.join" (rM (Kx.mk X.K Tt Ee xc) (opSem (.meth .join))) := by
  intro pins s σ H x xs v us Q I rx rs h
  refine mt_join pins s σ H x xs v us Q I rx rs ?_
  obtain ⟨F, ρ, S, ds, w, rd, p⟩ := h
  cases rd with
  | cons r rr =>
    cases rr with
    | nil => cases r <;> exact p.elim
    | cons r2 rr =>
      cases rr with
      | cons _ _ => cases r <;> cases r2 <;> exact p.elim
      | nil =>
        cases r with
        | @str z zz zo =>
          cases r2 with
          | @lst a us es h1 h2 h3 =>
            have p' : Post (Kx.mk X.K Tt Ee xc) F H ρ Q (joinSem z es S) := p
            unfold joinSem at p'
            cases e : allS es with
            | none => rw [e] at p'; exact p'.elim
            | some ys =>
              rw [e] at p'
              obtain ⟨e1, e2⟩ := allS_rep h2 e
              by_cases hk : (ys.map (·.length)).sum + ys.length * z.length ≤ sizeLine
              · simp only [if_pos hk] at p'
                refine ⟨z, a, ys, rfl, rfl, .inl (by rw [← e1]; exact .inl (.inl (del_lst h1))), by rw [sizeLine_eq] at hk; exact hk, p'.ok w (.str (Nat.le_trans (join_len ys) hk) (strOk_join zo e2))⟩
              · simp only [if_neg hk] at p'
                exact p'.elim
          | _ => exact p.elim
        | _ => cases r2 <;> exact p.elim
/-! ### isinstance -/
def BT.ty : BT → String
  | .int => "int" | .bool => "bool" | .str => "str" | .tuple => "tuple" | .list => "list"
theorem isT_rep {K : Kx} {H : Hp} {F : Fs} {ρ : List Addr} {S : Store} {v : V} {d : D} (w : Wf K H F ρ S) (r : Rep K.K (del H F ρ) ρ v d) (hd : okT S d = true) :
    ∃ ty, TyX K.K H v (.type ty) ∧ ∀ t : BT, PySem.W.kitOne K.K (.type ty) (.type t.ty) = some (isT S t d) := by
  have seq : ∀ (ty : String) (b : BT → Bool), TyX K.K H v (.type ty) → (∀ t : BT, kitB ty t.ty = some (b t)) → (∀ t, isT S t d = b t) → ∃ ty, TyX K.K H v (.type ty) ∧ ∀ t : BT, PySem.W.kitOne K.K (.type ty) (.type t.ty) = some (isT S t d) :=
    fun ty b h1 h2 h3 => ⟨ty, h1, fun t => by rw [h3]; exact kit_ty (h2 t)⟩
  cases r with
  | non => exact seq "NoneType" (fun _ => false) (.base .non) (by intro t; cases t <;> decide +kernel) (by intro t; cases t <;> rfl)
  | bl b => exact seq "bool" (fun t => match t with | .int => true | .bool => true | _ => false) (.base (.bl b)) (by intro t; cases t <;> decide +kernel) (by intro t; cases t <;> rfl)
  | int i => exact seq "int" (fun t => match t with | .int => true | _ => false) (.base (.int i)) (by intro t; cases t <;> decide +kernel) (by intro t; cases t <;> rfl)
  | @str s z o => exact seq "str" (fun t => match t with | .str => true | _ => false) (.base (.str s)) (by intro t; cases t <;> decide +kernel) (by intro t; cases t <;> rfl)
  | @tup a vs ds h1 h2 h3 =>
    have ty : TyX K.K H (.ref a) (.type "tuple") := by
      rcases SqT.le del_leH h1 with (h | ⟨o, h⟩) | ⟨o, its, n, h, hc, _⟩
      · exact .base (.tup h)
      · exact .fTuple h
      · exact .kTuple h hc
    exact seq "tuple" (fun t => match t with | .tuple => true | _ => false) ty (by intro t; cases t <;> decide +kernel) (by intro t; cases t <;> rfl)
  | @lst a vs ds h1 h2 h3 => exact seq "list" (fun t => match t with | .list => true | _ => false) (.base (.lst (del_lst h1))) (by intro t; cases t <;> decide +kernel) (by intro t; cases t <;> rfl)
  | @scr a vs ds h1 h2 h3 =>
    have ty : TyX K.K H (.ref a) (.type "list") := by
      rcases SqL.le del_leH h1 with (h | ⟨o, h⟩) | ⟨o, its, n, h, hc, _⟩
      · exact .base (.lst h)
      · exact .base (.frz h)
      · exact .kList h hc
    exact seq "list" (fun t => match t with | .list => true | _ => false) ty (by intro t; cases t <;> decide +kernel) (by intro t; cases t <;> rfl)
  | @loc a n e =>
    obtain ⟨xs, hx⟩ : ∃ xs, S[n]? = some (.lst xs) := by
      simp only [okT] at hd
      cases q : S[n]? with
      | none => rw [q] at hd; cases hd
      | some o =>
        cases o with
        | lst xs => exact ⟨xs, rfl⟩
    obtain ⟨vs, h1, _⟩ := w.seq e hx
    refine seq "list" (fun t => match t with | .list => true | _ => false) (.base (.lst h1)) (by intro t; cases t <;> decide +kernel) fun t => ?_
    cases t <;> simp [isT, hx]
  | ins _ _ _ _ _ => cases hd
end
end Z

/-! Z7: what is walked -/
namespace Z
open PySem PySem.Spec PyProof.Rows L2
/-- a side of a zip -/
inductive Sd where
  | l (a : Addr) (xs : List V)
  | t (a : Addr) (xs : List V)
  | s (z : Str) (k : Tok)
def Sd.len : Sd → Nat
  | .l _ xs => xs.length
  | .t _ xs => xs.length
  | .s z _ => z.cps.size
def Sd.at_ : Sd → Nat → Option V
  | .l _ xs, i => xs[i]?
  | .t _ xs, i => xs[i]?
  | .s z _, i => z.cps[i]?.map fun c => V.str ⟨#[c]⟩
def Sd.rd (K : PySem.W.Frag) (H : Hp) : Sd → Prop
  | .l a xs => SqL K H a xs
  | .t a xs => SqT K H a xs
  | .s _ _ => True
def Sd.val : Sd → Value
  | .l a _ => .ref a
  | .t a _ => .ref a
  | .s z k => .str z k
def Sd.obj : Sd → Obj
  | .l a _ => { cls := .type "list_iterator", data := .fields #[.ref a, .int 0 0] }
  | .t a _ => { cls := .type "tuple_iterator", data := .fields #[.ref a, .int 0 0] }
  | .s z k => { cls := .type (strIterType z), data := .fields #[.str z k, .int 0 0] }
def Sd.st (it : Addr) (i : Nat) (h : Heap) : Sd → Prop
  | .l a _ => h.IsListIter it a i
  | .t a _ => h.IsTupleIter it a i
  | .s z k => h.IsStrIter it (strIterType z) z k i
def Sd.lo (N : Nat) : Sd → Prop
  | .l a _ => a < N
  | .t a _ => a < N
  | .s _ _ => True
section
variable {X : Cx} {Tt : List (Addr × Str)} {Ee : XK} {xc : Str → Option (Addr × Option Str)} {pins : List (Addr × Obj)} {σ : L2.St} {H : Hp} {s : Shared}
theorem Sd.begins (I : L2.Inv X pins σ H s) (d : Sd) (r : d.rd X.K H) : ∃ P : Heap → Prop, Begins d.val d.obj P ∧ P s.heap ∧ d.lo s.heap.objs.size := by
  cases d with
  | l a xs =>
    obtain ⟨its, rv, p, _⟩ := I.list (show SqL X.K H a xs from r)
    exact ⟨_, begins_list a its.toArray, p.isList, p.lt⟩
  | t a xs =>
    obtain ⟨its, rv, p, _⟩ := I.tuple (show SqT X.K H a xs from r)
    exact ⟨_, begins_tuple a its.toArray, p, p.lt⟩
  | s z k => exact ⟨_, begins_text z k, trivial, trivial⟩
theorem Sd.st0 (d : Sd) {it : Addr} {h : Heap} (e : h.get? it = some d.obj) : d.st it 0 h := by
  cases d with
  | l a xs => exact ⟨_, e, rfl, rfl⟩
  | t a xs => exact ⟨_, e, rfl, rfl⟩
  | s z k => exact ⟨_, e, rfl, rfl⟩
theorem Sd.st_at (d : Sd) {it : Addr} {i : Nat} {h h' : Heap} (st : d.st it i h) (k : ∀ o, h.get? it = some o → h'.get? it = some o) : d.st it i h' := by
  cases d with
  | l a xs => exact Heap.IsListIter.at st fun o e => k o e
  | t a xs => exact Heap.IsTupleIter.at st fun o e => k o e
  | s z k' =>
    obtain ⟨o, e, r⟩ := st
    exact ⟨o, k o e, r⟩
theorem Sd.there (d : Sd) {it : Addr} {i : Nat} {h : Heap} (st : d.st it i h) : ∃ o, h.get? it = some o ∧ ∀ v, o.data ≠ .cell v := by
  cases d with
  | l a xs =>
    obtain ⟨o, e, c, dd⟩ := st
    exact ⟨o, e, fun v z => by rw [dd] at z; cases z⟩
  | t a xs =>
    obtain ⟨o, e, c, dd⟩ := st
    exact ⟨o, e, fun v z => by rw [dd] at z; cases z⟩
  | s z k =>
    obtain ⟨o, e, c, dd⟩ := st
    exact ⟨o, e, fun v z => by rw [dd] at z; cases z⟩
/-- what a side draws, as things stand -/
theorem Sd.draws (hc : X.calm = true) (I : L2.Inv X pins σ H s) (d : Sd) (r : d.rd X.K H) (it : Addr) (hit : H it = none) {N : Nat} (hlo : d.lo N) (hN : N ≤ it) :
    ∃ (fp : List Addr) (P : Nat → Value → Prop) (St : Nat → Heap → Prop), (∀ b ∈ fp, b < N) ∧ Draws X.prog X.w X.A.in1 it (it :: fp) d.len P St ∧ (∀ i, d.st it i s.heap → St i s.heap) ∧ (∀ i h, St i h → d.st it i h) ∧ ∀ i u, P i u → ∃ x, d.at_ i = some x ∧ RelV x u := by
  cases d with
  | l a xs =>
    obtain ⟨its, rv, p, _⟩ := I.list (show SqL X.K H a xs from r)
    have hne : a ≠ it := Nat.ne_of_lt (Nat.lt_of_lt_of_le (show a < N from hlo) hN)
    have el : its.toArray.size = (Sd.l a xs).len := by
      rw [List.size_toArray]
      exact rv.length.symm
    have D : Draws X.prog X.w X.A.in1 it [it, a] (Sd.l a xs).len (fun i v => its.toArray[i]? = some v) (fun i h => h.IsListIter it a i ∧ h.IsList a its.toArray) := by
      rw [← el]
      exact Draws.list (prog := X.prog) (w := X.w) (A := X.A.in1) (I.ok.hd hc) it a hne its.toArray
    refine ⟨[a], _, _, fun b hb => ?_, D, fun i st => ⟨st, p.isList⟩, fun i h st => st.1, fun i u hu => ?_⟩
    · have e : b = a := by simpa using hb
      rw [e]; exact hlo
    · have hu' : its[i]? = some u := by simpa using hu
      cases q : xs[i]? with
      | none =>
        have := rv.none_of q
        rw [this] at hu'
        cases hu'
      | some x =>
        obtain ⟨u2, e2, r2⟩ := rv.get q
        rw [hu'] at e2
        cases e2
        exact ⟨x, q, r2⟩
  | t a xs =>
    obtain ⟨its, rv, p, _⟩ := I.tuple (show SqT X.K H a xs from r)
    have hne : a ≠ it := Nat.ne_of_lt (Nat.lt_of_lt_of_le (show a < N from hlo) hN)
    have el : its.toArray.size = (Sd.t a xs).len := by
      rw [List.size_toArray]
      exact rv.length.symm
    have D : Draws X.prog X.w X.A.in1 it [it, a] (Sd.t a xs).len (fun i v => its.toArray[i]? = some v) (fun i h => h.IsTupleIter it a i ∧ h.IsTuple a its.toArray) := by
      rw [← el]
      exact Draws.tuple (prog := X.prog) (w := X.w) (A := X.A.in1) (I.ok.hd hc) it a hne its.toArray
    refine ⟨[a], _, _, fun b hb => ?_, D, fun i st => ⟨st, p⟩, fun i h st => st.1, fun i u hu => ?_⟩
    · have e : b = a := by simpa using hb
      rw [e]; exact hlo
    · have hu' : its[i]? = some u := by simpa using hu
      cases q : xs[i]? with
      | none =>
        have := rv.none_of q
        rw [this] at hu'
        cases hu'
      | some x =>
        obtain ⟨u2, e2, r2⟩ := rv.get q
        rw [hu'] at e2
        cases e2
        exact ⟨x, q, r2⟩
  | s z k =>
    refine ⟨[], _, _, (fun b hb => nomatch hb), Draws.text (prog := X.prog) (w := X.w) (A := X.A.in1) (I.ok.hd hc) it z k, fun i st => st, fun i h st => st, fun i u hu => ?_⟩
    obtain ⟨c, u', e, rfl⟩ := hu
    exact ⟨.str ⟨#[c]⟩, by simp only [Sd.at_]; rw [e]; rfl, ⟨u', rfl⟩⟩
end
/-- zip of two sides -/
def ItZ (K : PySem.W.Frag) (d1 d2 : Sd) : It :=
  ⟨fun i H => d1.rd K H ∧ d2.rd K H ∧ i < min d1.len d2.len,
   fun i H v H' => ∃ T x y, v = .ref T ∧ H T = none ∧ H' = upd H T (.tup [x, y]) ∧ d1.at_ i = some x ∧ d2.at_ i = some y,
   fun i H => d1.rd K H ∧ d2.rd K H ∧ i = min d1.len d2.len⟩
theorem turn_Z {P : Program} {w : World} {K : PySem.W.Frag} {elts : List Expr} {kk : Nat} {tpos : Pos} {d1 d2 : Sd} {N : Nat} (l1 : d1.lo N) (l2 : d2.lo N) :
    Turn P w K (.Tuple elts kk tpos) (ItZ K d1 d2) [N + 4, N + 2, N + 3, N, N + 1] (N + 4) (fun i h => IsZip h (N + 4) (N + 2) (N + 3) .none ∧ IsTupOf2 h (N + 2) (.ref N) (.ref (N + 1)) ∧ (∃ x y, IsTupOf2 h (N + 3) x y) ∧ d1.st N i h ∧ d2.st (N + 1) i h) where
  mem := by simp
  obj := fun i h st c hc => by
    obtain ⟨hz, hTI, ⟨x, y, hTO⟩, h1, h2⟩ := st
    have e' : c = N + 4 ∨ c = N + 2 ∨ c = N + 3 ∨ c = N ∨ c = N + 1 := by simpa using hc
    rcases e' with q | q | q | q | q
    · rw [q]; exact ⟨_, hz, fun v q => nomatch q⟩
    · rw [q]; exact ⟨_, hTI, fun v q => nomatch q⟩
    · rw [q]; exact ⟨_, hTO, fun v q => nomatch q⟩
    · rw [q]; exact d1.there h1
    · rw [q]; exact d2.there h2
  keep := fun i h h' st k => by
    obtain ⟨hz, hTI, ⟨x, y, hTO⟩, h1, h2⟩ := st
    exact ⟨k (N + 4) (by simp) _ hz, k (N + 2) (by simp) _ hTI, ⟨x, y, k (N + 3) (by simp) _ hTO⟩, d1.st_at h1 fun o q => k N (by simp) o q, d2.st_at h2 fun o q => k (N + 1) (by simp) o q⟩
  item := by
    intro X hP hw hK hc i pins s σ H E I hf st hg
    subst hP hw hK
    obtain ⟨hz, hTI, hTO, h1, h2⟩ := st
    obtain ⟨r1, r2, hi⟩ := hg
    obtain ⟨fp1, P1, St1, f1, D1, a1, b1, c1⟩ := d1.draws hc I r1 N (hf N (by simp)).1 l1 (Nat.le_refl _)
    obtain ⟨fp2, P2, St2, f2, D2, a2, b2, c2⟩ := d2.draws hc I r2 (N + 1) (hf (N + 1) (by simp)).1 l2 (Nat.le_succ _)
    have G := GoesN.zip2 (elts := elts) (x1 := kk) (pos := tpos) (zip_sep2 f1 f2) D1 D2
    have hzl : N + 4 < s.heap.objs.size := Heap.lt_size hz
    refine G.goes i s _ _ hi ⟨hz, hTI, hTO, a1 i h1, a2 i h2⟩ fun v h' tk hY hS hk htk => ?_
    obtain ⟨T, u, u2, rfl, hT, p1, p2, hTT⟩ := hY
    obtain ⟨x, e1, rx⟩ := c1 i u p1
    obtain ⟨y, e2, ry⟩ := c2 i u2 p2
    have new : ObjOk X.prog X.w (upd H T (.tup [x, y])) h' T (.tup [x, y]) := ⟨by show 2 ≤ sizeLine; decide, [u, u2], .cons rx (.cons ry .nil), hTT⟩
    have I1 : L2.Inv X pins σ (upd H T (.tup [x, y])) { s with heap := h', toks := tk } :=
      I.turnedNew (t' := tk) (ch := [N + 4, N + 2, N + 3, N, N + 1]) (fun c o hb q => hk c o (fun m => hb (by simp at m ⊢; rcases m with m | m | m | m <;> simp [m])) q) hf hT new
    obtain ⟨z1, z2, z3, z4, z5⟩ := hS
    refine ⟨.ref T, _, I1, rfl, ⟨T, x, y, rfl, I.hok.fresh hT, rfl, e1, e2⟩, ⟨z1, z2, z3, b1 _ _ z4, b2 _ _ z5⟩, fun c hcm => ?_⟩
    have hlt : c < s.heap.objs.size := by
      have e' : c = N + 4 ∨ c = N + 2 ∨ c = N + 3 ∨ c = N ∨ c = N + 1 := by simpa using hcm
      rcases e' with q | q | q | q | q
      · rw [q]; exact hzl
      · rw [q]; exact Nat.lt_of_le_of_lt (Nat.add_le_add_left (by decide) _) hzl
      · rw [q]; exact Nat.lt_of_le_of_lt (Nat.add_le_add_left (by decide) _) hzl
      · rw [q]; exact Nat.lt_of_le_of_lt (Nat.le_add_right _ _) hzl
      · rw [q]; exact Nat.lt_of_le_of_lt (Nat.add_le_add_left (by decide) _) hzl
    rw [upd_ne (Nat.ne_of_lt (Nat.lt_of_lt_of_le hlt hT))]
    exact (hf c hcm).1
  done := by
    intro X hP hw hK hc i pins s σ H E I hf st hg
    subst hP hw hK
    obtain ⟨hz, hTI, hTO, h1, h2⟩ := st
    obtain ⟨r1, r2, hi⟩ := hg
    subst hi
    obtain ⟨fp1, P1, St1, f1, D1, a1, b1, c1⟩ := d1.draws hc I r1 N (hf N (by simp)).1 l1 (Nat.le_refl _)
    obtain ⟨fp2, P2, St2, f2, D2, a2, b2, c2⟩ := d2.draws hc I r2 (N + 1) (hf (N + 1) (by simp)).1 l2 (Nat.le_succ _)
    have G := GoesN.zip2 (elts := elts) (x1 := kk) (pos := tpos) (zip_sep2 f1 f2) D1 D2
    refine G.stops s _ _ ⟨hz, hTI, hTO, a1 _ h1, a2 _ h2⟩ fun h' tk hk htk => ?_
    exact I.turnedL (t' := tk) (ch := [N + 4, N + 2, N + 3, N, N + 1]) (fun c o hb q => hk c o (fun m => hb (by simp at m ⊢; rcases m with m | m | m | m <;> simp [m])) q) hf
  self := fun A i s Q E st h => wpAny_pyIter_zip st.1 h
/-- what may stand in a zip -/
def SdV (K : PySem.W.Frag) (H : Hp) (x : V) (d : Sd) : Prop := d.rd K H ∧ match d with
  | .l a _ => x = .ref a
  | .t a _ => x = .ref a
  | .s z _ => x = .str z
def iZ (K : PySem.W.Frag) (ta : TA) : TI := fun σ H R => ta σ H fun vs H1 => ∃ x y, vs = [x, y] ∧ ∀ k1 k2 : Tok, ∃ d1 d2 : Sd, SdV K H1 x d1 ∧ SdV K H1 y d2 ∧ (∀ z k, d1 = .s z k → k = k1) ∧ (∀ z k, d2 = .s z k → k = k2) ∧ R (ItZ K d1 d2) H1
theorem SdV.val {K : PySem.W.Frag} {H : Hp} {x : V} {d : Sd} {u : Value} {k1 : Tok} (h : SdV K H x d) (r : RelV x u) (hk : ∀ z k, d = .s z k → k = k1) (hu : ∀ z t, u = .str z t → t = k1) : u = d.val := by
  obtain ⟨_, h⟩ := h
  cases d with
  | l a xs =>
    cases h
    exact r
  | t a xs =>
    cases h
    exact r
  | s z k =>
    cases h
    obtain ⟨t, rfl⟩ := r
    have e1 := hk z k rfl
    have e2 := hu z t rfl
    rw [e1, e2]
    rfl
def tokOf : Value → Tok
  | .str _ t => t
  | _ => default
theorem pi_Z {X : Cx} {e e2 : Expr} {ta : TA} {p pos tpos : Pos} {elts : List Expr} {kk : Nat} (hg : Gl X "zip") (hm : X.mg "zip" = none) (ha : PA X [e, e2] ta)
    (hs : starEach [e, e2] X.env = (false, eval e X.env) :: starEach [e2] X.env) (hpl : (backTo pos (starEach [e2] X.env)).any (·.1) = false) :
    PI X (.Tuple elts kk tpos) (.Call (.Name "zip" p) [e, e2] [] pos) (iZ X.K ta) := by
  refine ⟨fun pins s σ H R I h => ?_⟩
  refine Call_ (ld_blt I hg hm PyProof.Rows.boot_zip (PyProof.Rows.callWith_type1 (thn (ha.run pos pins s σ H _ I h) fun us s1 ⟨vs, H1, I1, r1, q1⟩ => ?_) hs hpl))
  obtain ⟨x, y, ex, q1⟩ := q1
  subst ex
  obtain ⟨u, u', rfl, r, r'⟩ := vals2 r1
  · skip
    · skip
      obtain ⟨d1, d2, v1, v2, k1, k2, q⟩ := q1 (tokOf u) (tokOf u')
      have e1 : u = d1.val := v1.val r k1 fun z t e => by rw [e]; rfl
      have e2 : u' = d2.val := v2.val r' k2 fun z t e => by rw [e]; rfl
      subst e1 e2
      obtain ⟨P1, B1, p1, l1⟩ := d1.begins I1 v1.1
      obtain ⟨P2, B2, p2, l2⟩ := d2.begins I1 v2.1
      refine zip_begins2 B1 B2 p1 p2 fun h' hz hTI hTO h1 h2 hsz hk => wpAny_pyIter_zip hz ?_
      have I2 : L2.Inv X pins σ H1 { s1 with heap := h' } := I1.kept (t' := s1.toks) hk
      refine ⟨s1.heap.objs.size + 4, [s1.heap.objs.size + 4, s1.heap.objs.size + 2, s1.heap.objs.size + 3, s1.heap.objs.size, s1.heap.objs.size + 1], _, _, H1, rfl, I2, turn_Z l1 l2, ⟨hz, hTI, ⟨_, _, hTO⟩, d1.st0 h1, d2.st0 h2⟩, fun c hcm => ?_, q⟩
      have e' : c = s1.heap.objs.size + 4 ∨ c = s1.heap.objs.size + 2 ∨ c = s1.heap.objs.size + 3 ∨ c = s1.heap.objs.size ∨ c = s1.heap.objs.size + 1 := by simpa using hcm
      have hle : s1.heap.objs.size ≤ c := by
        rcases e' with z | z | z | z | z
        · rw [z]; exact Nat.le_add_right _ _
        · rw [z]; exact Nat.le_add_right _ _
        · rw [z]; exact Nat.le_add_right _ _
        · rw [z]; exact Nat.le_refl _
        · rw [z]; exact Nat.le_add_right _ _
      exact I1.fpOk hle (I1.hok.fresh hle)
/-- a value of any kind, walked -/
def iVal (K : PySem.W.Frag) (te : TE) : TI := fun σ H R => te σ H fun x H1 => (∃ a, x = .ref a ∧ (∃ xs, SqL K H1 a xs) ∧ R (Itl K a) H1) ∨ (∃ a, x = .ref a ∧ (∃ xs, SqT K H1 a xs) ∧ R (Itt K a) H1) ∨ ∃ z, x = .str z ∧ R (Its z) H1
theorem pi_val {X : Cx} {tg e : Expr} {te : TE} (he : PE X e te) : PI X tg e (iVal X.K te) := by
  refine ⟨fun pins s σ H R I h => ?_⟩
  refine thn (he.run pins s σ H _ I h) fun v s1 ⟨x, H1, I1, r1, q1⟩ => ?_
  rcases q1 with ⟨a, e, ⟨xs, hq⟩, q⟩ | ⟨a, e, ⟨xs, hq⟩, q⟩ | ⟨z, e, q⟩
  · subst e
    cases r1
    obtain ⟨its, rv, p, hz⟩ := I1.list hq
    refine wpAny_pyIter_list p.isList ?_
    exact pi_one (tk := s1.toks) I1 _ (turn_list a _) ⟨_, Heap.get?_push_size _ rfl, rfl, rfl⟩ q
  · subst e
    cases r1
    obtain ⟨its, rv, p, hz⟩ := I1.tuple hq
    refine wpAny_pyIter_tuple (show s1.heap.IsTuple a its.toArray from p) ?_
    exact pi_one (tk := s1.toks) I1 _ (turn_tuple a _) ⟨_, Heap.get?_push_size _ rfl, rfl, rfl⟩ q
  · subst e
    obtain ⟨t, rfl⟩ := r1
    cases ha : z.cps.all (· < 128)
    · exact wpAny_pyIter_wide ha (pi_one (tk := s1.toks) I1 _ (turn_str _ z t "str_iterator" (.inr rfl)) ⟨_, Heap.get?_push_size _ rfl, rfl, rfl⟩ q)
    · exact wpAny_pyIter_ascii ha (pi_one (tk := s1.toks) I1 _ (turn_str _ z t "str_ascii_iterator" (.inl rfl)) ⟨_, Heap.get?_push_size _ rfl, rfl, rfl⟩ q)
end Z

/-! Z8: what is walked holds data -/
namespace Z
open PySem PySem.Spec PyProof.Rows L2
/-- later, and what others own may be more -/
structure Nxt (K : Kx) (F0 : Fs) (H0 : Hp) (ρ0 : List Addr) (F : Fs) (H : Hp) (ρ : List Addr) (S : Store) : Prop where
  wf : Wf K H F ρ S
  le : Le (del H0 F0 ρ0) (del H F ρ)
  pre : ρ0 <+: ρ
theorem Nxt.repA {K : Kx} {F0 : Fs} {H0 : Hp} {F : Fs} {ρ0 : List Addr} {H : Hp} {ρ : List Addr} {S : Store} (a : Nxt K F0 H0 ρ0 F H ρ S) {v : List V} {d : List D} (r : RepA K.K (del H0 F0 ρ0) ρ0 v d) : RepA K.K (del H F ρ) ρ v d := RepA.le a.le a.pre _ _ r
theorem Stp.nxt {K : Kx} {F : Fs} {H : Hp} {ρ : List Addr} {H' : Hp} {ρ' : List Addr} {S' : Store} (s : Stp K F H ρ H' ρ' S') : Nxt K F H ρ F H' ρ' S' := ⟨s.wf, s.le, s.pre⟩
/-- an iterator that walks items, whatever happens besides -/
def ItsOk (K : Kx) (F : Fs) (J : It) (H1 : Hp) (ρ1 : List Addr) (items : List D) : Prop :=
  items.length ≤ sizeLine ∧ ∀ F' H ρ S, Nxt K F H1 ρ1 F' H ρ S → (∀ i, i < items.length → J.go i H) ∧ J.stop items.length H ∧
    ∀ i x H', i < items.length → J.yld i H x H' → ∃ d, items[i]? = some d ∧ Stp K F' H ρ H' ρ S ∧ Rep K.K (del H' F' ρ) ρ x d
def PostI (K : Kx) (F : Fs) (H : Hp) (ρ : List Addr) (R : It → Hp → Prop) : Res (List D) → Prop
  | .ok items S' => ∀ J H1 ρ1, Stp K F H ρ H1 ρ1 S' → ItsOk K F J H1 ρ1 items → R J H1
  | .exc x S' => PostE K F H ρ x S'
  | .stuck => False
def tI (K : Kx) (f : Env → M (List D)) : TI := fun σ H R => ∃ F ρ S env, Wf K H F ρ S ∧ EnvOk K.K (del H F ρ) ρ env σ ∧ PostI K F H ρ R (f env S)
section
variable {K : Kx} {H H' H1 H2 : Hp} {F : Fs} {ρ ρ' ρ1 ρ2 : List Addr} {S S' S1 S2 : Store}
theorem PostI.from {R : It → Hp → Prop} (s : Stp K F H ρ H1 ρ1 S1) {r : Res (List D)} (h : PostI K F H ρ R r) : PostI K F H1 ρ1 R r := by
  cases r with
  | ok d S' => exact fun J H' ρ' t q => h J H' ρ' (s.trans t) q
  | exc x S2 => exact PostE.from s h
  | stuck => exact h
theorem PostI.bindA {m : M (List D)} {g : List D → M (List D)} {R : It → Hp → Prop} (h : PostI K F H ρ R (M.bind m g S)) :
    PostA K F H ρ (fun v H1 => ∃ ρ1 S1 d, Stp K F H ρ H1 ρ1 S1 ∧ RepA K.K (del H1 F ρ1) ρ1 v d ∧ PostI K F H1 ρ1 R (g d S1)) (m S) := by
  have p := h
  unfold M.bind at p
  cases q : m S with
  | ok d S1 =>
    rw [q] at p
    exact fun v H1 ρ1 s r => ⟨ρ1, S1, d, s, r, p.from s⟩
  | exc _ _ => rw [q] at p; exact p
  | stuck => rw [q] at p; exact p
theorem PostI.bind {m : M D} {g : D → M (List D)} {R : It → Hp → Prop} (h : PostI K F H ρ R (M.bind m g S)) :
    Post K F H ρ (fun v H1 => ∃ ρ1 S1 d, Stp K F H ρ H1 ρ1 S1 ∧ Rep K.K (del H1 F ρ1) ρ1 v d ∧ PostI K F H1 ρ1 R (g d S1)) (m S) := by
  have p := h
  unfold M.bind at p
  cases q : m S with
  | ok d S1 =>
    rw [q] at p
    exact fun v H1 ρ1 s r => ⟨ρ1, S1, d, s, r, p.from s⟩
  | exc _ _ => rw [q] at p; exact p
  | stuck => rw [q] at p; exact p
theorem tI_args {f : Env → M (List D)} {g : List D → M (List D)} {σ : L2.St} {R : It → Hp → Prop} (h : tI K (fun env => M.bind (f env) g) σ H R) :
    tA K f σ H fun vs H1 => ∃ F ρ S ds, Wf K H1 F ρ S ∧ RepA K.K (del H1 F ρ) ρ vs ds ∧ PostI K F H1 ρ R (g ds S) := by
  obtain ⟨F, ρ, S, env, w, e, p⟩ := h
  refine ⟨F, ρ, S, env, w, e, (PostI.bindA p).imp ?_⟩
  rintro v H1 ⟨ρ1, S1, d, s, r, p1⟩
  exact ⟨F, ρ1, S1, d, s.wf, r, p1⟩
/-- items that stand in a list, a tuple -/
theorem its_list {a : Addr} {vs : List V} {ds : List D} (h1 : SqL K.K (del H F ρ) a vs) (h2 : RepA K.K (del H F ρ) ρ vs ds) (hz : ds.length ≤ sizeLine) : ItsOk K F (Itl K.K a) H ρ ds := by
  refine ⟨hz, ?_⟩
  intro F' H' ρ' S' s
  have q1 : SqL K.K H' a vs := SqL.le del_leH (SqL.le (Le.r s.le) h1)
  have q2 := s.repA h2
  have hl := q2.length
  refine ⟨fun i hi => ?_, ⟨vs, q1, by omega⟩, fun i x H2 hi y => ?_⟩
  · exact ⟨vs, vs[i]'(by omega), q1, by simp [show i < vs.length by omega]⟩
  · obtain ⟨rfl, y⟩ := y
    obtain ⟨d, e1, e2⟩ := q2.get' (y vs q1)
    exact ⟨d, e1, Stp.refl s.wf, e2⟩
theorem its_tup {a : Addr} {vs : List V} {ds : List D} (h1 : SqT K.K (del H F ρ) a vs) (h2 : RepA K.K (del H F ρ) ρ vs ds) (hz : ds.length ≤ sizeLine) : ItsOk K F (Itt K.K a) H ρ ds := by
  refine ⟨hz, ?_⟩
  intro F' H' ρ' S' s
  have q1 : SqT K.K H' a vs := SqT.le del_leH (SqT.le (Le.r s.le) h1)
  have q2 := s.repA h2
  have hl := q2.length
  refine ⟨fun i hi => ?_, ⟨vs, q1, by omega⟩, fun i x H2 hi y => ?_⟩
  · exact ⟨vs, vs[i]'(by omega), q1, by simp [show i < vs.length by omega]⟩
  · obtain ⟨rfl, y⟩ := y
    obtain ⟨d, e1, e2⟩ := q2.get' (y vs q1)
    exact ⟨d, e1, Stp.refl s.wf, e2⟩
theorem signs_at {z : Str} {i : Nat} {c : Nat} (h : z.cps[i]? = some c) : (signs z)[i]? = some (.str ⟨#[c]⟩) := by
  unfold signs
  rw [List.getElem?_map, Array.getElem?_toList, h]
  rfl
theorem signs_length (z : Str) : (signs z).length = z.cps.size := by
  unfold signs
  rw [List.length_map, Array.length_toList]
theorem its_str {z : Str} (o : PyData.strOk z = true) (hz : z.length ≤ sizeLine) : ItsOk K F (Its z) H ρ (signs z) := by
  refine ⟨by rw [signs_length]; exact hz, ?_⟩
  intro F' H' ρ' S' s
  refine ⟨fun i hi => by rw [signs_length] at hi; exact hi, by show z.cps.size ≤ _; rw [signs_length]; exact Nat.le_refl _, fun i x H2 hi y => ?_⟩
  obtain ⟨rfl, c, hc, rfl⟩ := y
  exact ⟨_, signs_at hc, Stp.refl s.wf, sign_rep o (List.mem_of_getElem? (by rw [Array.getElem?_toList]; exact hc))⟩
theorem its_range {lo : Int} {n : Nat} (hz : n ≤ sizeLine) : ItsOk K F (Itr lo n) H ρ ((List.range n).map fun i => D.int (lo + (i : Nat))) := by
  refine ⟨by simpa using hz, ?_⟩
  intro F' H' ρ' S' s
  refine ⟨fun i hi => (by simpa using hi : i < n), by show n ≤ _; simp, fun i x H2 hi y => ?_⟩
  obtain ⟨rfl, rfl⟩ := y
  have hi' : i < n := by simpa using hi
  exact ⟨.int (lo + i), by simp [hi'], Stp.refl s.wf, .int _⟩
theorem its_enum {a : Addr} {vs : List V} {ds : List D} (h1 : SqL K.K (del H F ρ) a vs) (h2 : RepA K.K (del H F ρ) ρ vs ds) (hz : ds.length ≤ sizeLine) : ItsOk K F (Ite K.K a) H ρ (ds.mapIdx fun i x => .tup [.int i, x]) := by
  refine ⟨by rw [List.length_mapIdx]; exact hz, ?_⟩
  intro F' H' ρ' S' s
  have q1 : SqL K.K H' a vs := SqL.le del_leH (SqL.le (Le.r s.le) h1)
  have q2 := s.repA h2
  have hl := q2.length
  have W := walk_enum (K := K.K) (a := a) (xs := vs)
  refine ⟨fun i hi => ?_, ?_, fun i x H2 hi y => ?_⟩
  · rw [List.length_mapIdx] at hi
    exact W.goes i H' (by omega) q1
  · rw [List.length_mapIdx, ← hl]
    exact W.stops H' q1
  · rw [List.length_mapIdx] at hi
    obtain ⟨T, z, z2, rfl, hT, rfl, e1, e2⟩ := W.yields i H' x H2 (by omega) q1 y
    have e1 : V.int (i : Nat) = z := Option.some.inj e1
    subst e1
    obtain ⟨d, e3, e4⟩ := q2.get' e2
    exact ⟨.tup [.int i, d], by rw [List.getElem?_mapIdx, e3]; rfl, s.wf.laid hT _, s.wf.newTup hT (.cons (.int _) (.cons e4 .nil)) (by show 2 ≤ sizeLine; decide)⟩
/-- a side of a zip that holds data -/
theorem side_of {v : V} {d : D} {xs : List D} (r : Rep K.K (del H F ρ) ρ v d) (h : sideOf d = some xs) (k : Tok) :
    xs.length ≤ sizeLine ∧ ∃ sd : Sd, SdV K.K H v sd ∧ (∀ z k', sd = .s z k' → k' = k) ∧ sd.len = xs.length ∧ ∀ F' H' ρ' S', Nxt K F H ρ F' H' ρ' S' → sd.rd K.K H' ∧ ∀ i x, sd.at_ i = some x → ∃ d, xs[i]? = some d ∧ Rep K.K (del H' F' ρ') ρ' x d := by
  cases r with
  | @tup a vs ds h1 h2 h3 =>
    have e := Option.some.inj h
    subst e
    exact ⟨h3, .t a vs, ⟨SqT.le del_leH h1, rfl⟩, (fun z k' e => nomatch e), h2.length, fun F' H' ρ' S' s => ⟨SqT.le del_leH (SqT.le (Le.r s.le) h1), fun i x e => (s.repA h2).get' e⟩⟩
  | @lst a vs ds h1 h2 h3 =>
    have e := Option.some.inj h
    subst e
    exact ⟨h3, .l a vs, ⟨.inl (.inl (del_lst h1)), rfl⟩, (fun z k' e => nomatch e), h2.length, fun F' H' ρ' S' s => ⟨.inl (.inl (del_lst (s.le _ _ h1))), fun i x e => (s.repA h2).get' e⟩⟩
  | @scr a vs ds h1 h2 h3 =>
    have e := Option.some.inj h
    subst e
    exact ⟨h3, .l a vs, ⟨SqL.le del_leH h1, rfl⟩, (fun z k' e => nomatch e), h2.length, fun F' H' ρ' S' s => ⟨SqL.le del_leH (SqL.le (Le.r s.le) h1), fun i x e => (s.repA h2).get' e⟩⟩
  | @str z zz zo =>
    have e := Option.some.inj h
    subst e
    refine ⟨by rw [signs_length]; exact zz, .s z k, ⟨trivial, rfl⟩, fun z' k' e => by cases e; rfl, (signs_length z).symm, fun F' H' ρ' S' s => ⟨trivial, fun i x e => ?_⟩⟩
    simp only [Sd.at_] at e
    obtain ⟨c, e1, e2⟩ := Option.map_eq_some_iff.mp e
    subst e2
    exact ⟨_, signs_at e1, sign_rep zo (List.mem_of_getElem? (by rw [Array.getElem?_toList]; exact e1))⟩
  | _ => cases h
theorem its_zip {d1 d2 : Sd} {xs ys : List D} (hz1 : xs.length ≤ sizeLine) (hl1 : d1.len = xs.length) (hl2 : d2.len = ys.length)
    (h1 : ∀ F' H' ρ' S', Nxt K F H ρ F' H' ρ' S' → d1.rd K.K H' ∧ ∀ i x, d1.at_ i = some x → ∃ d, xs[i]? = some d ∧ Rep K.K (del H' F' ρ') ρ' x d)
    (h2 : ∀ F' H' ρ' S', Nxt K F H ρ F' H' ρ' S' → d2.rd K.K H' ∧ ∀ i x, d2.at_ i = some x → ∃ d, ys[i]? = some d ∧ Rep K.K (del H' F' ρ') ρ' x d) :
    ItsOk K F (ItZ K.K d1 d2) H ρ ((xs.zip ys).map fun p => .tup [p.1, p.2]) := by
  refine ⟨by rw [List.length_map, List.length_zip]; omega, ?_⟩
  intro F' H' ρ' S' s
  obtain ⟨a1, a2⟩ := h1 F' H' ρ' S' s
  obtain ⟨b1, b2⟩ := h2 F' H' ρ' S' s
  have hz : ((xs.zip ys).map fun p : D × D => D.tup [p.1, p.2]).length = min d1.len d2.len := by
    rw [List.length_map, List.length_zip, hl1, hl2]
  refine ⟨fun i hi => ⟨a1, b1, by rw [hz] at hi; exact hi⟩, ⟨a1, b1, hz⟩, fun i x H2 hi y => ?_⟩
  obtain ⟨T, x1, y1, rfl, hT, rfl, e1, e2⟩ := y
  obtain ⟨d, q1, q2⟩ := a2 i x1 e1
  obtain ⟨e, q3, q4⟩ := b2 i y1 e2
  refine ⟨.tup [d, e], ?_, s.wf.laid hT _, s.wf.newTup hT (.cons q2 (.cons q4 .nil)) (by show 2 ≤ sizeLine; decide)⟩
  have e : (xs.zip ys)[i]? = some (d, e) := List.getElem?_zip_eq_some.mpr ⟨q1, q3⟩
  rw [List.getElem?_map, e]
  rfl
end
section
variable {X : Cx} {Tt : List (Addr × Str)} {Ee : XK} {xc : Str → Option (Addr × Option Str)} {tg : Expr} {pos p tpos : Pos} {elts : List Expr} {kk : Nat}
theorem PI.imp {tg iter : Expr} {wi wi' : TI} (h : PI X tg iter wi) (i : ∀ σ H R, wi' σ H R → wi σ H R) : PI X tg iter wi' := ⟨fun pins s σ H R I q => h.run pins s σ H R I (i _ _ _ q)⟩
theorem src_val {e : Expr} {f : Env → M D} (he : PE X e (tE (Kx.mk X.K Tt Ee xc) f)) : PI X tg e (tI (Kx.mk X.K Tt Ee xc) fun env => M.bind (f env) fun d => srcItems .val [d]) := by
  refine PI.imp (pi_val he) ?_
  rintro σ H R ⟨F, ρ, S, env, w, ev, q⟩
  refine ⟨F, ρ, S, env, w, ev, (PostI.bind q).imp ?_⟩
  rintro v H1 ⟨ρ1, S1, d, s, r, p1⟩
  cases r with
  | @tup a vs ds h1 h2 h3 => exact .inr (.inl ⟨a, rfl, ⟨vs, SqT.le del_leH h1⟩, p1 _ _ _ (Stp.refl s.wf) (its_tup h1 h2 h3)⟩)
  | @lst a vs ds h1 h2 h3 => exact .inl ⟨a, rfl, ⟨vs, .inl (.inl (del_lst h1))⟩, p1 _ _ _ (Stp.refl s.wf) (its_list (.inl (.inl h1)) h2 h3)⟩
  | @scr a vs ds h1 h2 h3 => exact .inl ⟨a, rfl, ⟨vs, SqL.le del_leH h1⟩, p1 _ _ _ (Stp.refl s.wf) (its_list h1 h2 h3)⟩
  | @str z zz zo => exact .inr (.inr ⟨z, rfl, p1 _ _ _ (Stp.refl s.wf) (its_str zo zz)⟩)
  | _ => exact p1.elim
theorem src_range1 {a : Expr} {f : Env → M (List D)} (hg : Gl X "range") (hm : X.mg "range" = none) (ha : PA X [a] (tA (Kx.mk X.K Tt Ee xc) f)) (hs : starEach [a] X.env = [(false, eval a X.env)]) :
    PI X tg (.Call (.Name "range" p) [a] [] pos) (tI (Kx.mk X.K Tt Ee xc) fun env => M.bind (f env) (srcItems .range1)) := by
  refine PI.imp (pi_range1 hg hm ha hs) ?_
  rintro σ H R h
  obtain ⟨F, ρ, S, env, w, ev, q⟩ := tI_args h
  refine ⟨F, ρ, S, env, w, ev, q.imp ?_⟩
  rintro vs H1 ⟨F, ρ, S, ds, w, rd, q⟩
  cases rd with
  | nil => exact q.elim
  | cons r rr =>
    cases rr with
    | cons _ _ => cases r <;> exact q.elim
    | nil =>
      cases r with
      | int n =>
        have q' : PostI (Kx.mk X.K Tt Ee xc) F H1 ρ R ((if -(2 ^ 62) ≤ n ∧ n ≤ 16777216 then M.ret ((List.range n.toNat).map fun i => D.int (i : Nat)) else M.stk) S) := q
        by_cases hn : -(2 ^ 62) ≤ n ∧ n ≤ 16777216
        · rw [if_pos hn] at q'
          refine ⟨n, rfl, hn.1, by omega, q' _ _ _ (Stp.refl w) ?_⟩
          have e := its_range (K := Kx.mk X.K Tt Ee xc) (F := F) (H := H1) (ρ := ρ) (lo := 0) (n := n.toNat) (by rw [sizeLine_eq]; omega)
          simpa using e
        · rw [if_neg hn] at q'
          exact q'.elim
      | _ => exact q.elim
theorem src_range2 {a b : Expr} {f : Env → M (List D)} (hg : Gl X "range") (hm : X.mg "range" = none) (ha : PA X [a, b] (tA (Kx.mk X.K Tt Ee xc) f)) (hs : starEach [a, b] X.env = [(false, eval a X.env), (false, eval b X.env)]) (hs2 : starEach [b] X.env = [(false, eval b X.env)]) :
    PI X tg (.Call (.Name "range" p) [a, b] [] pos) (tI (Kx.mk X.K Tt Ee xc) fun env => M.bind (f env) (srcItems .range2)) := by
  refine PI.imp (pi_range2 hg hm ha hs hs2) ?_
  rintro σ H R h
  obtain ⟨F, ρ, S, env, w, ev, q⟩ := tI_args h
  refine ⟨F, ρ, S, env, w, ev, q.imp ?_⟩
  rintro vs H1 ⟨F, ρ, S, ds, w, rd, q⟩
  cases rd with
  | nil => exact q.elim
  | cons r rr =>
    cases rr with
    | nil => cases r <;> exact q.elim
    | cons r2 rr =>
      cases rr with
      | cons _ _ => cases r <;> cases r2 <;> exact q.elim
      | nil =>
        cases r with
        | int n =>
          cases r2 with
          | int m =>
            have q' : PostI (Kx.mk X.K Tt Ee xc) F H1 ρ R ((if -(2 ^ 62) ≤ n ∧ n < 2 ^ 62 ∧ -(2 ^ 62) ≤ m ∧ m < 2 ^ 62 ∧ m - n ≤ 16777216 then M.ret ((List.range (m - n).toNat).map fun i => D.int (n + (i : Nat))) else M.stk) S) := q
            by_cases hn : -(2 ^ 62) ≤ n ∧ n < 2 ^ 62 ∧ -(2 ^ 62) ≤ m ∧ m < 2 ^ 62 ∧ m - n ≤ 16777216
            · rw [if_pos hn] at q'
              exact ⟨n, m, rfl, ⟨hn.1, hn.2.1, hn.2.2.1, hn.2.2.2.1⟩, q' _ _ _ (Stp.refl w) (its_range (by rw [sizeLine_eq]; omega))⟩
            · rw [if_neg hn] at q'
              exact q'.elim
          | _ => exact q.elim
        | _ => cases r2 <;> exact q.elim
theorem src_enum {a : Expr} {f : Env → M (List D)} (hg : Gl X "enumerate") (hm : X.mg "enumerate" = none) (ha : PA X [a] (tA (Kx.mk X.K Tt Ee xc) f)) (hs : starEach [a] X.env = [(false, eval a X.env)]) :
    PI X (.Tuple elts kk tpos) (.Call (.Name "enumerate" p) [a] [] pos) (tI (Kx.mk X.K Tt Ee xc) fun env => M.bind (f env) (srcItems .enum)) := by
  refine PI.imp (pi_enum hg hm ha hs) ?_
  rintro σ H R h
  obtain ⟨F, ρ, S, env, w, ev, q⟩ := tI_args h
  refine ⟨F, ρ, S, env, w, ev, q.imp ?_⟩
  rintro vs H1 ⟨F, ρ, S, ds, w, rd, q⟩
  cases rd with
  | nil => exact q.elim
  | cons r rr =>
    cases rr with
    | cons _ _ => cases r <;> exact q.elim
    | nil =>
      cases r with
      | @lst a vs ds h1 h2 h3 => exact ⟨a, vs, rfl, .inl (.inl (del_lst h1)), q _ _ _ (Stp.refl w) (its_enum (.inl (.inl h1)) h2 h3)⟩
      | _ => exact q.elim
theorem src_zip {a b : Expr} {f : Env → M (List D)} (hg : Gl X "zip") (hm : X.mg "zip" = none) (ha : PA X [a, b] (tA (Kx.mk X.K Tt Ee xc) f)) (hs : starEach [a, b] X.env = (false, eval a X.env) :: starEach [b] X.env) (hpl : (backTo pos (starEach [b] X.env)).any (·.1) = false) :
    PI X (.Tuple elts kk tpos) (.Call (.Name "zip" p) [a, b] [] pos) (tI (Kx.mk X.K Tt Ee xc) fun env => M.bind (f env) (srcItems .zip)) := by
  refine PI.imp (pi_Z hg hm ha hs hpl) ?_
  rintro σ H R h
  obtain ⟨F, ρ, S, env, w, ev, q⟩ := tI_args h
  refine ⟨F, ρ, S, env, w, ev, q.imp ?_⟩
  rintro vs H1 ⟨F, ρ, S, ds, w, rd, q⟩
  cases rd with
  | nil => exact q.elim
  | @cons v vs d ds r rr =>
    cases rr with
    | nil => exact q.elim
    | @cons v2 vs2 d2 ds2 r2 rr =>
      cases rr with
      | cons _ _ => exact q.elim
      | nil =>
        have q' : PostI (Kx.mk X.K Tt Ee xc) F H1 ρ R ((match sideOf d, sideOf d2 with
          | some xs, some ys => M.ret ((xs.zip ys).map fun p : D × D => D.tup [p.1, p.2])
          | _, _ => M.stk) S) := q
        cases h1 : sideOf d with
        | none => rw [h1] at q'; exact q'.elim
        | some xs =>
          cases h2 : sideOf d2 with
          | none => rw [h1, h2] at q'; exact q'.elim
          | some ys =>
            rw [h1, h2] at q'
            refine ⟨v, v2, rfl, fun k1 k2 => ?_⟩
            obtain ⟨a0, s1, a1, a2, a3, a4⟩ := side_of r h1 k1
            obtain ⟨b0, s2, b1, b2, b3, b4⟩ := side_of r2 h2 k2
            exact ⟨s1, s2, a1, b1, a2, b2, q' _ _ _ (Stp.refl w) (its_zip a0 a3 b3 a4 b4)⟩
end
end Z

/-! Z9: the text against the small language -/
namespace Z
open PySem PySem.Spec PyProof.Rows L2
def allBI : List BI := [.len, .all, .any, .sum, .sorted, .tuple, .list, .int, .abs, .min, .max, .str]
def allBT : List BT := [.int, .bool, .str, .tuple, .list]
def BI.of (x : Str) : Option BI := allBI.find? fun b => b.nm == x
def BT.of (x : Str) : Option BT := allBT.find? fun b => b.nm == x
def namesBT : List Expr → Option (List BT)
  | [] => some []
  | .Name x _ :: r => match BT.of x with
    | some b => (namesBT r).map (b :: ·)
    | none => none
  | _ :: _ => none
/-- an argument that is no star; an object that is no super() -/
def noStar : Expr → Bool
  | .Starred _ _ => false
  | _ => true
def noCall0 : Expr → Bool
  | .Call _ [] [] _ => false
  | _ => true
def viewCall (x : Str) (args : List Expr) : Option (Hd × List Expr) :=
  if x == "isinstance" then (match args with
    | [a, .Name t _] => (match BT.of t with
      | some b => some (.isi b, [a])
      | none => none)
    | [a, .Tuple ts _ _] => (match namesBT ts with
      | some bs => some (.isis bs, [a])
      | none => none)
    | _ => none)
  else match BI.of x, args with
    | some b, a :: as => some (.bi b, a :: as)
    | _, _ => none
def viewE : Expr → Option (Hd × List Expr)
  | .BinOp a op b _ => some (.bin op, [a, b])
  | .Compare a [op] [b] _ => if behindInMarks op b = false then some (.cmp op, [a, b]) else none
  | .UnaryOp .USub a _ => some (.neg, [a])
  | .Subscript a (.Slice none none (some (.UnaryOp .USub (.Constant (.int 1) _ _) _)) _) _ => some (.rev, [a])
  | .Subscript a (.Slice (some l) (some h) none _) _ => some (.slice true true, [a, l, h])
  | .Subscript a (.Slice (some l) none none _) _ => some (.slice true false, [a, l])
  | .Subscript a (.Slice none (some h) none _) _ => some (.slice false true, [a, h])
  | .Subscript a (.Slice none none none _) _ => some (.slice false false, [a])
  | .Subscript _ (.Slice _ _ _ _) _ => none
  | .Subscript a i _ => some (.ix, [a, i])
  | .Tuple es _ _ => some (.tup, es)
  | .List es _ => some (.lst, es)
  | .Call (.Name x _) args [] _ => viewCall x args
  | .Call (.Name x _) [a] [⟨some y, d, _⟩] _ => if y == "default" && x == "min" then some (.mnd false, [a, d]) else if y == "default" && x == "max" then some (.mnd true, [a, d]) else none
  | .Call (.Attribute o m ap) [a] [] p => if m == "join" && ap.endLine == p.line && noCall0 o then some (.meth .join, [o, a]) else none
  | _ => none
inductive Shape : Hd → List Expr → Expr → Prop
  | bin (op : Operator) (a b : Expr) (p : Pos) : Shape (.bin op) [a, b] (.BinOp a op b p)
  | cmp (op : CmpOp) (a b : Expr) (p : Pos) : behindInMarks op b = false → Shape (.cmp op) [a, b] (.Compare a [op] [b] p)
  | neg (a : Expr) (p : Pos) : Shape .neg [a] (.UnaryOp .USub a p)
  | rev (a : Expr) (k : Nat) (p1 p2 p3 p : Pos) : Shape .rev [a] (.Subscript a (.Slice none none (some (.UnaryOp .USub (.Constant (.int 1) k p1) p2)) p3) p)
  | sl11 (a l h : Expr) (p1 p : Pos) : Shape (.slice true true) [a, l, h] (.Subscript a (.Slice (some l) (some h) none p1) p)
  | sl10 (a l : Expr) (p1 p : Pos) : Shape (.slice true false) [a, l] (.Subscript a (.Slice (some l) none none p1) p)
  | sl01 (a h : Expr) (p1 p : Pos) : Shape (.slice false true) [a, h] (.Subscript a (.Slice none (some h) none p1) p)
  | sl00 (a : Expr) (p1 p : Pos) : Shape (.slice false false) [a] (.Subscript a (.Slice none none none p1) p)
  | ix (a i : Expr) (p : Pos) : (∀ l h s q, i ≠ .Slice l h s q) → Shape .ix [a, i] (.Subscript a i p)
  | tup (es : List Expr) (k : Nat) (p : Pos) : Shape .tup es (.Tuple es k p)
  | lst (es : List Expr) (p : Pos) : Shape .lst es (.List es p)
  | bi (b : BI) (a : Expr) (as : List Expr) (p1 p : Pos) : Shape (.bi b) (a :: as) (.Call (.Name b.nm p1) (a :: as) [] p)
  | isi (t : BT) (a : Expr) (p1 p2 p : Pos) : Shape (.isi t) [a] (.Call (.Name "isinstance" p1) [a, .Name t.nm p2] [] p)
  | isis (ts : List BT) (a : Expr) (es : List Expr) (k : Nat) (p1 p2 p : Pos) : namesBT es = some ts → Shape (.isis ts) [a] (.Call (.Name "isinstance" p1) [a, .Tuple es k p2] [] p)
  | mnd (mx : Bool) (a d : Expr) (p1 p2 p : Pos) : Shape (.mnd mx) [a, d] (.Call (.Name (if mx = true then "max" else "min") p1) [a] [⟨some "default", d, p2⟩] p)
  | join (o a : Expr) (ap p : Pos) : (ap.endLine == p.line) = true → noCall0 o = true → Shape (.meth .join) [o, a] (.Call (.Attribute o "join" ap) [a] [] p)
theorem BI.of_nm {x : Str} {b : BI} (h : BI.of x = some b) : x = b.nm := by
  have := List.find?_some h
  exact (eq_of_beq this).symm
theorem BT.of_nm {x : Str} {b : BT} (h : BT.of x = some b) : x = b.nm := by
  have := List.find?_some h
  exact (eq_of_beq this).symm
theorem view_call {x : Str} {args : List Expr} {h : Hd} {xs : List Expr} {p1 p : Pos} (e : viewCall x args = some (h, xs)) : Shape h xs (.Call (.Name x p1) args [] p) := by
  unfold viewCall at e
  by_cases hx : (x == "isinstance") = true
  · rw [if_pos hx] at e
    have hx := eq_of_beq hx
    subst hx
    split at e
    · rename_i a t q
      split at e
      · rename_i b hb
        cases e
        rw [BT.of_nm hb]
        exact .isi b _ _ _ _
      · cases e
    · rename_i a ts k q
      split at e
      · rename_i bs hb
        cases e
        exact .isis bs _ _ _ _ _ _ hb
      · cases e
    · cases e
  · rw [if_neg hx] at e
    split at e
    · rename_i b a as hb
      cases e
      rw [BI.of_nm hb]
      exact .bi b _ _ _ _
    · cases e
theorem view_shape {ex : Expr} {h : Hd} {xs : List Expr} (e : viewE ex = some (h, xs)) : Shape h xs ex := by
  unfold viewE at e
  split at e
  · cases e; exact .bin _ _ _ _
  · split at e
    · rename_i hb
      cases e; exact .cmp _ _ _ _ hb
    · cases e
  · cases e; exact .neg _ _
  · cases e; exact .rev _ _ _ _ _ _
  · cases e; exact .sl11 _ _ _ _ _
  · cases e; exact .sl10 _ _ _ _
  · cases e; exact .sl01 _ _ _ _
  · cases e; exact .sl00 _ _ _
  · cases e
  · rename_i a i p _ _ _ _ _ hn
    cases e
    exact .ix _ _ _ fun l h s q z => hn l h s q z
  · cases e; exact .tup _ _ _
  · cases e; exact .lst _ _
  · exact view_call e
  · split at e
    · rename_i hb
      cases e
      simp only [Bool.and_eq_true] at hb
      obtain rfl := eq_of_beq hb.1
      obtain rfl := eq_of_beq hb.2
      exact .mnd false _ _ _ _ _
    · split at e
      · rename_i hb
        cases e
        simp only [Bool.and_eq_true] at hb
        obtain rfl := eq_of_beq hb.1
        obtain rfl := eq_of_beq hb.2
        exact .mnd true _ _ _ _ _
      · cases e
  · split at e
    · rename_i hb
      cases e
      simp only [Bool.and_eq_true] at hb
      have hm := eq_of_beq hb.1.1
      subst hm
      exact .join _ _ _ _ hb.1.2 hb.2
    · cases e
  · cases e
/-! ### arguments -/
theorem star_one {e : Expr} {es : List Expr} {env : PySem.Env} (h : noStar e = true) : starEach (e :: es) env = (false, eval e env) :: starEach es env := by
  cases e <;> first | rfl | cases h
theorem star_any {pos : Pos} {env : PySem.Env} : ∀ {es : List Expr}, es.all noStar = true → (backTo pos (starEach es env)).any (·.1) = false
  | [], _ => rfl
  | e :: es, h => by
    simp only [List.all_cons, Bool.and_eq_true] at h
    rw [star_one h.1]
    show (false || (backTo pos (starEach es env)).any (·.1)) = false
    rw [star_any h.2]
    rfl
theorem base_one {o : Expr} {m : Str} {env : PySem.Env} (h : noCall0 o = true) : attributeBase o m env (eval o env) = eval o env := by
  unfold attributeBase
  split
  · cases h
  · rfl
theorem plain_ix {i : Expr} (h : ∀ l h s q, i ≠ .Slice l h s q) : PlainIx i := by
  intro o j
  cases i <;> first | rfl | exact absurd rfl (h _ _ _ _)
end Z

/-! Z10: the check of the text against the small language; small laws of readings -/
namespace Z
open PySem PySem.Spec PyProof.Rows L2
structure Cfg where
  fns : List (Str × Nat)
  glo : List (Str × Nat)
  kws : List (Nat × Nat × List Str × List Nat)
  /-- the law's own tries of lambdas -/
  gots : List (Str × Bool)
  /-- the classes of exceptions and their fields -/
  exs : List (Str × Option Str)
  /-- the defs that hold lambdas, and those that call them -/
  lms : List Nat
  /-- this def is one of them -/
  lm : Bool
/-- no parameters -/
def noPar : Arguments → Bool
  | ⟨[], [], none, [], [], none, []⟩ => true
  | _ => false
def constIs : D → Const → Bool
  | .non, .none => true
  | .bl a, .bool b => a == b
  | .int a, .int b => a == b
  | .str a, .str b => a == b && decide (a.length ≤ sizeLine) && PyData.strOk a
  | _, _ => false
def visOf (sc : Scope) (x : Str) : Bool := match sc.names.lookup x with
  | some .local => true
  | some .cell => true
  | some .free => true
  | _ => false
def locOf (sc : Scope) (x : Str) : Bool := match sc.names.lookup x with
  | some .local => true
  | some .cell => true
  | _ => false
def gloOf (sc : Scope) (x : Str) : Bool := decide (sc.names.lookup x = some .globalImplicit)
def okName (x : Str) : Bool := !(x == "__debug__") && !(x == "__classdict__") && !(x == "__name__")
def hdOk (sc : Scope) : Hd → Bool
  | .bi b => gloOf sc b.nm
  | .mnd mx => gloOf sc (if mx = true then "max" else "min")
  | .isi t => gloOf sc "isinstance" && gloOf sc t.nm
  | .isis ts => gloOf sc "isinstance" && decide (ts.length ≤ 15) && ts.all fun t => gloOf sc t.nm
  | _ => true
def ownN (N : List Str) (own : List Nat) : List (Str × Nat) := own.map fun i => (N.getD i Str.empty, i)
mutual
def chkT (ok : Str → Bool) (N : List Str) : Tg → Expr → Bool
  | .name i, ex => (match ex with
    | .Name x _ => decide (N[i]? = some x) && ok x
    | _ => false)
  | .tup ts, ex => (match ex with
    | .Tuple es _ _ => chkTs ok N ts es
    | _ => false)
def chkTs (ok : Str → Bool) (N : List Str) : List Tg → List Expr → Bool
  | [], es => es.isEmpty
  | t :: ts, es => (match es with
    | e :: es => noStar e && chkT ok N t e && chkTs ok N ts es
    | [] => false)
end
mutual
def tgIn (own : List Nat) : Tg → Bool
  | .name i => decide (i ∈ own)
  | .tup ts => tgsIn own ts
def tgsIn (own : List Nat) : List Tg → Bool
  | [] => true
  | t :: ts => tgIn own t && tgsIn own ts
end
/-- the expressions in what is walked -/
def srcView (sc : Scope) (tg it : Expr) : SK → Option (List Expr)
  | .val => some [it]
  | .range1 => (match it with
    | .Call (.Name x _) [a] [] _ => if x == "range" && gloOf sc x then some [a] else none
    | _ => none)
  | .range2 => (match it with
    | .Call (.Name x _) [a, b] [] _ => if x == "range" && gloOf sc x then some [a, b] else none
    | _ => none)
  | .enum => (match tg, it with
    | .Tuple _ _ _, .Call (.Name x _) [a] [] _ => if x == "enumerate" && gloOf sc x then some [a] else none
    | _, _ => none)
  | .zip => (match tg, it with
    | .Tuple _ _ _, .Call (.Name x _) [a, b] [] _ => if x == "zip" && gloOf sc x then some [a, b] else none
    | _, _ => none)
/-- no display of a set -/
def noSet : Expr → Bool
  | .Set _ _ _ => false
  | _ => true
def tst : E → Bool
  | .ife _ _ _ => false
  | _ => true
mutual
def chkE (cf : Cfg) (N : List Str) (sc : Scope) : E → Expr → Bool
  | .const d, ex => (match ex with
    | .Constant c _ _ => constIs d c
    | _ => false)
  | .var i, ex => (match ex with
    | .Name x _ => decide (N[i]? = some x) && visOf sc x && okName x
    | _ => false)
  | .glob g, ex => (match ex with
    | .Name x _ => decide (cf.glo.lookup x = some g) && gloOf sc x && okName x
    | _ => false)
  | .op h es, ex => (match viewE ex with
    | some (h', xs) => decide (h' = h) && hdOk sc h && chkEs cf N sc es xs
    | none => false)
  | .alloc es, ex => (match ex with
    | .List xs _ => chkEs cf N sc es xs
    | _ => false)
  | .call f es, ex => (match ex with
    | .Call (.Name x _) xs [] _ => decide (cf.fns.lookup x = some f) && (cf.lm || !cf.lms.contains f) && gloOf sc x && okName x && chkEs cf N sc es xs
    | _ => false)
  | .callK f n ks perm es kes, ex => (match ex with
    | .Call (.Name x _) xs kws _ => decide (cf.fns.lookup x = some f) && (cf.lm || !cf.lms.contains f) && gloOf sc x && okName x && decide (xs.length = n) && decide (kws.map (·.arg) = ks.map some) && decide ((f, n, ks, perm) ∈ cf.kws) && chkEs cf N sc es xs && chkEs cf N sc kes (kws.map (·.value))
    | _ => false)
  | .chain o1 o2 a b c, ex => (match ex with
    | .Compare a' [p1, p2] [b', c'] _ => decide (p1 = o1) && decide (p2 = o2) && !behindInMarks p2 c' && chkE cf N sc a a' && chkE cf N sc b b' && chkE cf N sc c c'
    | _ => false)
  | .not a, ex => (match ex with
    | .UnaryOp .Not a' _ => tst a && chkE cf N sc a a'
    | _ => false)
  | .bool conj es, ex => (match ex with
    | .BoolOp op xs _ => decide (op = if conj then .And else .Or) && !es.isEmpty && es.all tst && chkEs cf N sc es xs
    | _ => false)
  | .ife t a b, ex => (match ex with
    | .IfExp t' a' b' _ => tst t && chkE cf N sc t t' && chkE cf N sc a a' && chkE cf N sc b b'
    | _ => false)
  | .comp own elt tg k es ifs, ex => (match ex with
    | .ListComp elt' gs scope _ => (match gs with
      | [g] => (g.is_async == 0) && blkC N sc scope (ownN N own) && chkT (locOf scope) N tg g.target && tgIn own tg && noSet g.iter && (match srcView sc g.target g.iter k with
        | some xs => chkEs cf N sc es xs
        | none => false) && decide (ifs.length ≤ 1) && ifs.all tst && chkEs { cf with lm := false } N (relS scope sc) ifs g.ifs && chkE { cf with lm := false } N (relS scope sc) elt elt'
      | _ => false)
    | _ => false)
  | .got why e, ex => (match ex with
    | .Call (.Name x _) [.Lambda params body scope _] [] _ => cf.lm && decide (cf.gots.lookup x = some why) && gloOf sc x && okName x && noPar params && LamX.lamSB sc scope && chkE { cf with lm := false } N scope e body
    | _ => false)
def chkEs (cf : Cfg) (N : List Str) (sc : Scope) : List E → List Expr → Bool
  | [], xs => xs.isEmpty
  | e :: es, xs => (match xs with
    | x :: xs => chkE cf N sc e x && chkEs cf N sc es xs
    | [] => false)
end

/-! ### the laws of M -/
theorem M.bind_assoc {α β γ : Type} (m : M α) (f : α → M β) (g : β → M γ) : M.bind (M.bind m f) g = M.bind m fun x => M.bind (f x) g := by
  funext S
  unfold M.bind
  cases m S <;> rfl
theorem M.ret_bind {α β : Type} (a : α) (f : α → M β) : M.bind (M.ret a) f = f a := rfl
theorem M.stk_bind {α β : Type} (f : α → M β) : M.bind M.stk f = M.stk := rfl
theorem M.bind_ret {α : Type} (m : M α) : M.bind m M.ret = m := by
  funext S
  unfold M.bind
  cases m S <;> rfl
section
variable {gl : Nat → Option D} {cal : Nat → List D → M D} {env : Env} {α : Type}
theorem evalEs_nil {g : List D → M α} : M.bind (evalEs gl cal [] env) g = g [] := rfl
theorem evalEs_cons {e : E} {es : List E} {g : List D → M α} : M.bind (evalEs gl cal (e :: es) env) g = M.bind (evalE gl cal e env) fun d => M.bind (evalEs gl cal es env) fun ds => g (d :: ds) := by
  simp only [evalEs, M.bind_assoc, M.ret_bind]
end
/-! ### readings -/
theorem PE.imp {X : Cx} {e : Expr} {t t' : TE} (h : PE X e t) (i : ∀ σ H Q, t' σ H Q → t σ H Q) : PE X e t' := ⟨fun pins s σ H Q I q => h.run pins s σ H Q I (i _ _ _ q)⟩
theorem PT.imp {X : Cx} {e : Expr} {t t' : TT} (h : PT X e t) (i : ∀ σ H Q, t' σ H Q → t σ H Q) : PT X e t' := ⟨fun pins s σ H Q I q => h.run pins s σ H Q I (i _ _ _ q)⟩
theorem PW.imp {X : Cx} {e : Expr} {t t' : TT} (h : PW X e t) (i : ∀ σ H Q, t' σ H Q → t σ H Q) : PW X e t' := ⟨fun wh pins s σ H Q I q => h.run wh pins s σ H Q I (i _ _ _ q)⟩
theorem PA.imp {X : Cx} {e : List Expr} {t t' : TA} (h : PA X e t) (i : ∀ σ H Q, t' σ H Q → t σ H Q) : PA X e t' := ⟨fun pos pins s σ H Q I q => h.run pos pins s σ H Q I (i _ _ _ q)⟩
theorem PTs.imp {X : Cx} {e : List Expr} {t t' : TT} (h : PTs X e t) (i : ∀ σ H Q, t' σ H Q → t σ H Q) : PTs X e t' := ⟨fun pins s σ H Q I q => h.run pins s σ H Q I (i _ _ _ q)⟩
theorem PG.imp {X : Cx} {e : Expr} {t t' : TG} (h : PG X e t) (i : ∀ v σ H Q, t' v σ H Q → t v σ H Q) : PG X e t' := ⟨fun pins s σ H v u Q I r q => h.run pins s σ H v u Q I r (i _ _ _ _ q)⟩
/-- what a def computes, as its promise -/
def spD (K : Kx) (np : Nat) (sem : List D → M D) : Sp := fun vs H Q E => vs.length = np ∧ rA (Kx.mk K.K K.T E K.xc) sem vs H Q
/-- the names of built-ins that are used -/
def bltNames : List Str := allBI.map BI.nm ++ (allBT.map BT.nm ++ (["isinstance", "range", "enumerate", "zip"] : List Str))
/-- a law's own try of a lambda, as it stands in the module: g, its def's names, its own promise -/
structure GotM (K : PySem.W.Frag) (mg : Str → Option Value) (prog : Program) (w : World) (xc : Str → Option (Addr × Option Str)) (x : Str) (why : Bool) : Prop where
  ok : ∀ (X : Cx) (Tt : List (Addr × Str)) (Ee : XK) (rm : Nat), X.prog = prog → X.w = w → X.K = K → X.mg = mg → X.calm = true → Room (rm + 8) X.A → Gl X x →
    ∀ {c P : Addr} {params : Arguments} {body : Expr} {scope : Scope} {f : Env → M D} {p lpos pos : Pos}, LamX.TabB X.base X.mg c P → X.env.code = .ref c → (P, X.env.qual ++ "<lambda>") ∈ Tt → (∀ p ∈ Tt, p.1 = P → p.2 = X.env.qual ++ "<lambda>") → noPar params = true → LamX.LamS X.env.scope scope →
    (∀ (A : Around) (outer : List PySem.Env) (s : Shared) (H : Hp) (E : XK) (fa c' : Addr), Room rm (LamX.lamCx X A outer s H E scope fa c').A → PE (LamX.lamCx X A outer s H E scope fa c') body (tE (Kx.mk K Tt E xc) f)) →
    PE X (.Call (.Name x p) [.Lambda params body scope lpos] [] pos) (tE (Kx.mk K Tt Ee xc) fun env S => gotSem why (f env S))
/-- a context that fits -/
structure XOk (cf : Cfg) (gl : Nat → Option D) (cal : Nat → List D → M D) (N : List Str) (Tt : List (Addr × Str)) (Ee : XK) (xc : Str → Option (Addr × Option Str)) (X : Cx) : Prop where
  nm : X.N = N
  nd : N.Nodup
  calm : X.calm = true
  hu : X.A.units + many + 100 < cLine
  blt : ∀ x : Str, x ∈ bltNames → X.mg x = none
  glo : ∀ x g, cf.glo.lookup x = some g → ∃ u v d, X.mg x = some u ∧ RelV v u ∧ gl g = some d ∧ ∀ G ρ, Rep X.K G ρ v d
  fns : ∀ x f, cf.fns.lookup x = some f → (cf.lm || !cf.lms.contains f) = true → ∃ fa fd ps kk np, X.mg x = some (.ref fa) ∧ PySem.W.keepIn X.K (.ref fa) = true ∧ Binds X.K fd ps [] ∧ Room kk X.A ∧ FnOk X.prog X.w X.K X.mg X.base (L2.CX X.prog X.w) kk fa fd ps (spD (Kx.mk X.K Tt Ee xc) np (cal f)) ∧ (∀ ds S, ds.length ≠ np → cal f ds S = .stuck) ∧ ∀ n ks perm, (f, n, ks, perm) ∈ cf.kws → KBinds X.K fd ps ks (plc n ks.length perm) (plc n ks.length perm)
  tk : Takes X (fun cls d _ H => Ee cls d H)
  lam : cf.lm = true → ∃ c P rm, LamX.TabB X.base X.mg c P ∧ X.env.code = .ref c ∧ (P, X.env.qual ++ "<lambda>") ∈ Tt ∧ (∀ p ∈ Tt, p.1 = P → p.2 = X.env.qual ++ "<lambda>") ∧ Room (rm + 8) X.A ∧ 10 ≤ rm ∧ (∀ x why, cf.gots.lookup x = some why → GotM X.K X.mg X.prog X.w xc x why) ∧
    ∀ x f, cf.fns.lookup x = some f → cf.lms.contains f = false → ∃ fa fd ps np, X.mg x = some (.ref fa) ∧ PySem.W.keepIn X.K (.ref fa) = true ∧ Binds X.K fd ps [] ∧ FnOk X.prog X.w X.K X.mg X.base (L2.CX X.prog X.w) rm fa fd ps (spD (Kx.mk X.K Tt Ee xc) np (cal f)) ∧ (∀ ds S, ds.length ≠ np → cal f ds S = .stuck) ∧ ∀ n ks perm, (f, n, ks, perm) ∈ cf.kws → KBinds X.K fd ps ks (plc n ks.length perm) (plc n ks.length perm)
theorem takes_none {X : Cx} : Takes X (fun _ _ _ _ => False) := LamX.takes0
theorem XOk.blk {cf : Cfg} {gl : Nat → Option D} {cal : Nat → List D → M D} {N : List Str} {X : Cx} {Tt : List (Addr × Str)} {Ee : XK} {xc : Str → Option (Addr × Option Str)} (o : XOk cf gl cal N Tt Ee xc X) (s : Shared) (H : Hp) (scope : Scope) (cenv : PySem.Env) (fp : List Addr) : XOk { cf with lm := false } gl cal N Tt (fun _ _ _ => False) xc (X.blk s H scope cenv fp) :=
  ⟨o.nm, o.nd, o.calm, o.hu, o.blt, o.glo, fun x f h1 h2 => o.fns x f h1 (by rw [show (!cf.lms.contains f) = true from by simpa using h2]; exact Bool.or_true _), takes_none, fun h => by cases h⟩
/-! ### targets -/
/-- what a target stores: the values that hold what is assigned -/
def gT (K : Kx) (t : Tg) : TG := fun v σ H Q => ∃ F ρ S d as, Wf K H F ρ S ∧ Rep K.K (del H F ρ) ρ v d ∧ assigns t d = some as ∧ ∀ vs, RepA K.K (del H F ρ) ρ vs (as.map (·.2)) → Q (setAll σ ((as.map (·.1)).zip (vs.map some))) H
def gTs (K : Kx) (ts : List Tg) : TGs := fun xs σ H Q => ∃ F ρ S ds as, Wf K H F ρ S ∧ RepA K.K (del H F ρ) ρ xs ds ∧ ts.length = ds.length ∧ assignsAll ts ds = some as ∧ ∀ vs, RepA K.K (del H F ρ) ρ vs (as.map (·.2)) → Q (setAll σ ((as.map (·.1)).zip (vs.map some))) H
theorem PGs.imp {X : Cx} {e : List Expr} {t t' : TGs} (h : PGs X e t) (i : ∀ v σ H Q, t' v σ H Q → t v σ H Q) : PGs X e t' := ⟨fun pins s σ H v u Q I r q => h.run pins s σ H v u Q I r (i _ _ _ _ q)⟩
theorem setAll_append {α : Type} (l : List α) (a b : List (Nat × α)) : setAll l (a ++ b) = setAll (setAll l a) b := by
  unfold setAll
  rw [List.foldl_append]
theorem assign_star {e : Expr} {es : List Expr} {env : PySem.Env} (h : noStar e = true) : assignEach (e :: es) env = (false, assign e env) :: assignEach es env := by
  cases e <;> first | rfl | cases h
theorem assign_len {env : PySem.Env} : ∀ {es : List Expr}, es.all noStar = true → (assignEach es env).length = es.length ∧ (assignEach es env).findIdx? (·.1) = none
  | [], _ => ⟨rfl, rfl⟩
  | e :: es, h => by
    simp only [List.all_cons, Bool.and_eq_true] at h
    obtain ⟨h1, h2⟩ := assign_len (env := env) h.2
    rw [assign_star h.1]
    refine ⟨by rw [List.length_cons, List.length_cons, h1], ?_⟩
    rw [List.findIdx?_cons]
    simp [h2]
mutual
theorem sndT {X : Cx} {Tt : List (Addr × Str)} {Ee : XK} {xc : Str → Option (Addr × Option Str)} {N : List Str} {ok : Str → Bool} (hN : X.N = N) (nd : N.Nodup) (hc : X.calm = true) (hok : ∀ x, ok x = true → Loc X.env.scope x ∧ (X.fn x = true ∨ X.env.scope.names.lookup x = some .local)) :
    ∀ (t : Tg) (ex : Expr), chkT ok N t ex = true → PG X ex (gT (Kx.mk X.K Tt Ee xc) t)
  | .name i, ex, h => by
    simp only [chkT] at h
    split at h
    · rename_i x p
      simp only [Bool.and_eq_true, decide_eq_true_eq] at h
      obtain ⟨h1, h2⟩ := hok x h.2
      refine PG.imp (pg_name (by rw [hN]; exact nd) (by rw [hN]; exact h.1) h1 h2) ?_
      rintro v σ H Q ⟨F, ρ, S, d, as, w, r, e, q⟩
      simp only [assigns] at e
      cases e
      exact q [v] (.cons r .nil)
    · cases h
  | .tup ts, ex, h => by
    simp only [chkT] at h
    split at h
    · rename_i es k p
      have hl := chkTs_len ts es h
      obtain ⟨q1, q2⟩ := assign_len (env := X.env) hl.2
      refine PG.imp (pg_tup hc (sndTs (Tt := Tt) (Ee := Ee) (xc := xc) hN nd hc hok ts es h) (n := es.length) q1 q2) ?_
      rintro v σ H Q ⟨F, ρ, S, d, as, w, r, e, q⟩
      cases r with
      | @tup a vs ds h1 h2 h3 =>
        simp only [assigns] at e
        by_cases hd : ts.length = ds.length
        · rw [if_pos hd] at e
          exact ⟨a, vs, rfl, SqT.le del_leH h1, by rw [h2.length, ← hd, hl.1], F, ρ, S, ds, as, w, h2, hd, e, q⟩
        · rw [if_neg hd] at e
          cases e
      | _ => simp only [assigns] at e; cases e
    · cases h
theorem sndTs {X : Cx} {Tt : List (Addr × Str)} {Ee : XK} {xc : Str → Option (Addr × Option Str)} {N : List Str} {ok : Str → Bool} (hN : X.N = N) (nd : N.Nodup) (hc : X.calm = true) (hok : ∀ x, ok x = true → Loc X.env.scope x ∧ (X.fn x = true ∨ X.env.scope.names.lookup x = some .local)) :
    ∀ (ts : List Tg) (es : List Expr), chkTs ok N ts es = true → PGs X es (gTs (Kx.mk X.K Tt Ee xc) ts)
  | [], es, h => by
    simp only [chkTs] at h
    cases es with
    | cons _ _ => cases h
    | nil =>
      refine PGs.imp pgs_nil ?_
      rintro v σ H Q ⟨F, ρ, S, ds, as, w, r, hl, e, q⟩
      cases ds with
      | cons _ _ => cases hl
      | nil =>
        cases r
        simp only [assignsAll] at e
        cases e
        exact ⟨rfl, q [] .nil⟩
  | t :: ts, es, h => by
    simp only [chkTs] at h
    cases es with
    | nil => cases h
    | cons e es =>
      simp only [Bool.and_eq_true] at h
      refine PGs.imp (pgs_cons (sndT (Tt := Tt) (Ee := Ee) (xc := xc) hN nd hc hok t e h.1.2) (sndTs (Tt := Tt) (Ee := Ee) (xc := xc) hN nd hc hok ts es h.2) (by rw [assign_star h.1.1]; rfl)) ?_
      rintro v σ H Q ⟨F, ρ, S, ds, as, w, r, hl, ea, q⟩
      cases ds with
      | nil => cases hl
      | cons d ds =>
        cases r with
        | @cons v vs _ _ r1 r2 =>
          simp only [assignsAll] at ea
          obtain ⟨a1, e1, e2⟩ := Option.bind_eq_some_iff.mp ea
          obtain ⟨a2, e3, e4⟩ := Option.map_eq_some_iff.mp e2
          subst e4
          refine ⟨v, vs, rfl, F, ρ, S, d, a1, w, r1, e1, fun us1 ru1 => ⟨F, ρ, S, ds, a2, w, r2, by simpa using hl, e3, fun us2 ru2 => ?_⟩⟩
          have l1 := ru1.length
          have qq := q (us1 ++ us2) (by rw [List.map_append]; exact ru1.append ru2)
          rw [List.map_append, List.map_append, List.zip_append (by rw [List.length_map, List.length_map]; rw [List.length_map] at l1; exact l1.symm), setAll_append] at qq
          exact qq
theorem chkTs_len {ok : Str → Bool} {N : List Str} : ∀ (ts : List Tg) (es : List Expr), chkTs ok N ts es = true → ts.length = es.length ∧ es.all noStar = true
  | [], es, h => by
    simp only [chkTs] at h
    cases es with
    | cons _ _ => cases h
    | nil => exact ⟨rfl, rfl⟩
  | t :: ts, es, h => by
    simp only [chkTs] at h
    cases es with
    | nil => cases h
    | cons e es =>
      simp only [Bool.and_eq_true] at h
      obtain ⟨h1, h2⟩ := chkTs_len ts es h.2
      exact ⟨by rw [List.length_cons, List.length_cons, h1], by simp only [List.all_cons, Bool.and_eq_true]; exact ⟨h.1.1, h2⟩⟩
end
end Z

/-! Z11: an expression of the text computes what the small language says -/
namespace Z
open PySem PySem.Spec PyProof.Rows L2
section
variable {cf : Cfg} {gl : Nat → Option D} {cal : Nat → List D → M D} {N : List Str}
/-- an expression that computes -/
structure SndOk (gl : Nat → Option D) (cal : Nat → List D → M D) (Tt : List (Addr × Str)) (Ee : XK) (xc : Str → Option (Addr × Option Str)) (X : Cx) (e : E) (ex : Expr) : Prop where
  pe : PE X ex (tE (Kx.mk X.K Tt Ee xc) (evalE gl cal e))
  star : noStar ex = true
  pt : tst e = true → PT X ex (tB (Kx.mk X.K Tt Ee xc) fun env => M.bind (evalE gl cal e env) truth)
inductive SndAll (gl : Nat → Option D) (cal : Nat → List D → M D) (Tt : List (Addr × Str)) (Ee : XK) (xc : Str → Option (Addr × Option Str)) (X : Cx) : List E → List Expr → Prop
  | nil : SndAll gl cal Tt Ee xc X [] []
  | cons {e : E} {es : List E} {x : Expr} {xs : List Expr} : SndOk gl cal Tt Ee xc X e x → SndAll gl cal Tt Ee xc X es xs → SndAll gl cal Tt Ee xc X (e :: es) (x :: xs)
variable {X : Cx} {Tt : List (Addr × Str)} {Ee : XK} {xc : Str → Option (Addr × Option Str)}
theorem SndAll.star : ∀ {es : List E} {xs : List Expr}, SndAll gl cal Tt Ee xc X es xs → xs.all noStar = true
  | [], [], _ => rfl
  | [], _ :: _, h => nomatch h
  | _ :: _, [], h => nomatch h
  | _ :: _, _ :: _, h => by
    cases h with
    | cons a b => simp only [List.all_cons, Bool.and_eq_true]; exact ⟨a.star, b.star⟩
theorem SndAll.len : ∀ {es : List E} {xs : List Expr}, SndAll gl cal Tt Ee xc X es xs → es.length = xs.length
  | [], [], _ => rfl
  | [], _ :: _, h => nomatch h
  | _ :: _, [], h => nomatch h
  | _ :: _, _ :: _, h => by
    cases h with
    | cons a b => rw [List.length_cons, List.length_cons, b.len]
theorem SndAll.pa : ∀ {es : List E} {xs : List Expr}, SndAll gl cal Tt Ee xc X es xs → PA X xs (tA (Kx.mk X.K Tt Ee xc) (evalEs gl cal es))
  | [], [], _ => by
    refine PA.imp pa_nil ?_
    rintro σ H Q ⟨F, ρ, S, env, w, ev, q⟩
    exact q [] H ρ (Stp.refl w) .nil
  | [], _ :: _, h => nomatch h
  | _ :: _, [], h => nomatch h
  | e :: es, x :: xs, h => by
    cases h with
    | cons a b =>
      refine PA.imp (pa_cons a.pe b.pa (star_one a.star)) ?_
      rintro σ H Q ⟨F, ρ, S, env, w, ev, q⟩
      simp only [evalEs] at q
      refine ⟨F, ρ, S, env, w, ev, (PostA.bind q).imp ?_⟩
      rintro v H1 ⟨ρ1, S1, d, s, r, p1⟩
      refine ⟨F, ρ1, S1, env, s.wf, ev.le s.le s.pre, (PostA.bindA p1).imp ?_⟩
      rintro vs H2 ⟨ρ2, S2, ds, s2, r2, p2⟩
      exact p2 _ _ _ (Stp.refl s2.wf) (.cons (s2.rep r) r2)
/-- a test by its value -/
theorem pt_plain {ex : Expr} {f : Env → M D} (h : PE X ex (tE (Kx.mk X.K Tt Ee xc) f)) (he : ∀ whole, isTrue ex X.env whole = (do let v ← whole; standAt ex.pos; holding [v] (truthy v))) : PT X ex (tB (Kx.mk X.K Tt Ee xc) fun env => M.bind (f env) truth) := by
  refine PT.imp (pt_val h he) ?_
  rintro σ H Q ⟨F, ρ, S, env, w, ev, q⟩
  refine ⟨F, ρ, S, env, w, ev, (PostB.bind q).imp ?_⟩
  rintro v H1 ⟨ρ1, S1, d, s, r, p1⟩
  cases r with
  | bl b => exact ⟨b, rfl, p1 _ _ (Stp.refl s.wf)⟩
  | _ => exact p1.elim
theorem pt_test {ex : Expr} {f : Env → M D} {t : TE} (h : PT X ex (tTest t)) (i : ∀ σ H Q, tE (Kx.mk X.K Tt Ee xc) f σ H Q → t σ H Q) : PT X ex (tB (Kx.mk X.K Tt Ee xc) fun env => M.bind (f env) truth) := by
  refine PT.imp h ?_
  rintro σ H Q ⟨F, ρ, S, env, w, ev, q⟩
  refine i _ _ _ ⟨F, ρ, S, env, w, ev, (PostB.bind q).imp ?_⟩
  rintro v H1 ⟨ρ1, S1, d, s, r, p1⟩
  cases r with
  | bl b => exact ⟨b, rfl, p1 _ _ (Stp.refl s.wf)⟩
  | _ => exact p1.elim
theorem const_ok {d : D} {c : Const} {j : Nat} {p : Pos} (h : constIs d c = true) : PE X (.Constant c j p) (tE (Kx.mk X.K Tt Ee xc) (evalE gl cal (.const d))) := by
  have fin : ∀ v, (∀ G ρ, Rep X.K G ρ v d) → ∀ σ H Q, tE (Kx.mk X.K Tt Ee xc) (evalE gl cal (.const d)) σ H Q → tC v σ H Q := fun v r σ H Q ⟨F, ρ, S, env, w, ev, q⟩ => q v H ρ (Stp.refl w) (r _ _)
  cases d with
  | non => cases c <;> first | exact PE.imp pe_non (fin _ fun _ _ => .non) | cases h
  | bl b =>
    cases c with
    | bool b' =>
      have e := eq_of_beq (show (b == b') = true from h)
      subst e
      exact PE.imp pe_bl (fin _ fun _ _ => .bl b)
    | _ => cases h
  | int i =>
    cases c with
    | int i' =>
      have e := eq_of_beq (show (i == i') = true from h)
      subst e
      exact PE.imp pe_int (fin _ fun _ _ => .int i)
    | _ => cases h
  | str s =>
    cases c with
    | str s' =>
      simp only [constIs, Bool.and_eq_true, decide_eq_true_eq] at h
      have e := eq_of_beq h.1.1
      subst e
      exact PE.imp pe_str (fin _ fun _ _ => .str h.1.2 h.2)
    | _ => cases h
  | _ => cases c <;> cases h
theorem vis_of {sc : Scope} {x : Str} (h : visOf sc x = true) : Vis sc x := by
  unfold visOf at h
  unfold Vis
  cases q : sc.names.lookup x with
  | none => rw [q] at h; cases h
  | some k =>
    rw [q] at h
    cases k with
    | «local» => exact .inl rfl
    | cell => exact .inr (.inl rfl)
    | free => exact .inr (.inr rfl)
    | _ => cases h
theorem okName_of {x : Str} (h : okName x = true) : (x == ("__debug__" : Str)) = false ∧ (x == ("__classdict__" : Str)) = false ∧ x ≠ "__name__" := by
  unfold okName at h
  simp only [Bool.and_eq_true, Bool.not_eq_true'] at h
  exact ⟨h.1.1, h.1.2, fun e => by rw [e] at h; simp at h⟩
theorem var_ok {i : Nat} {x : Str} {p : Pos} (hN : X.N = N) (h : (decide (N[i]? = some x) && visOf X.env.scope x && okName x) = true) : PE X (.Name x p) (tE (Kx.mk X.K Tt Ee xc) (evalE gl cal (.var i))) := by
  simp only [Bool.and_eq_true, decide_eq_true_eq] at h
  obtain ⟨h1, h2, _⟩ := okName_of h.2
  refine PE.imp (pe_var (i := i) (by rw [hN]; exact h.1.1) (vis_of h.1.2) h1 h2) ?_
  rintro σ H Q ⟨F, ρ, S, env, w, ev, q⟩
  simp only [evalE] at q
  cases e : env[i]? with
  | none => rw [e] at q; exact q.elim
  | some o =>
    cases o with
    | none => rw [e] at q; exact q.elim
    | some d =>
      rw [e] at q
      obtain ⟨v, h3, h4⟩ := ev.2 i d e
      exact ⟨v, h3, q v H ρ (Stp.refl w) h4⟩
theorem glo_of {sc : Scope} {x : Str} (hs : X.env.scope = sc) (h : gloOf sc x = true) : Gl X x := by
  subst hs
  exact (of_decide_eq_true h : X.env.scope.names.lookup x = some .globalImplicit)
theorem glob_ok (o : XOk cf gl cal N Tt Ee xc X) {g : Nat} {x : Str} {p : Pos} (h : (decide (cf.glo.lookup x = some g) && gloOf X.env.scope x && okName x) = true) : PE X (.Name x p) (tE (Kx.mk X.K Tt Ee xc) (evalE gl cal (.glob g))) := by
  simp only [Bool.and_eq_true, decide_eq_true_eq] at h
  obtain ⟨h1, h2, _⟩ := okName_of h.2
  obtain ⟨u, v, d, m1, m2, m3, m4⟩ := o.glo x g h.1.1
  refine PE.imp (pe_glob (glo_of rfl h.1.2) m1 m2 h1) ?_
  rintro σ H Q ⟨F, ρ, S, env, w, ev, q⟩
  simp only [evalE, m3] at q
  exact q v H ρ (Stp.refl w) (m4 _ _)
theorem post_argX {K : Kx} {F : Fs} {H : Hp} {ρ : List Addr} {Q : VK} {h : Hd} {m : M (List D)} {g : List D → M D} {S : Store} (p : Post K F H ρ Q (M.bind (argX h m) g S)) : Post K F H ρ Q (M.bind m g S) := by
  unfold argX at p
  split at p
  all_goals first
    | exact p
    | (unfold M.bind M.noX at p
       unfold M.bind
       cases q : m S with
       | ok a S1 => rw [q] at p; exact p
       | exc _ _ => rw [q] at p; exact p.elim
       | stuck => rw [q] at p; exact p)
theorem noX_bind {K : Kx} {F : Fs} {H : Hp} {ρ : List Addr} {Q : VK} {m : M (List D)} {g : List D → M D} {S : Store} (p : Post K F H ρ Q (M.bind (M.noX m) g S)) : ∃ ds S1, m S = .ok ds S1 ∧ Post K F H ρ Q (g ds S1) := by
  unfold M.bind M.noX at p
  cases q : m S with
  | ok a S1 => rw [q] at p; exact ⟨a, S1, rfl, p⟩
  | exc _ _ => rw [q] at p; exact p.elim
  | stuck => rw [q] at p; exact p.elim
theorem bin_gen {a b : E} {h : Hd} {σ : L2.St} {H : Hp} {Q : VK} {g : D → D → M D} (hg : ∀ x y, opSem h [x, y] = g x y) (q : tE (Kx.mk X.K Tt Ee xc) (evalE gl cal (.op h [a, b])) σ H Q) :
    tE (Kx.mk X.K Tt Ee xc) (evalE gl cal a) σ H fun v H1 => tE (Kx.mk X.K Tt Ee xc) (evalE gl cal b) σ H1 fun u H2 => r2 (Kx.mk X.K Tt Ee xc) g v u H2 Q := by
  refine tE_two ?_
  obtain ⟨F, ρ, S, env, w, ev, p⟩ := q
  refine ⟨F, ρ, S, env, w, ev, ?_⟩
  simp only [evalE] at p
  have p := post_argX p
  simp only [evalEs_cons, evalEs_nil, hg] at p
  exact p
theorem un_gen {a : E} {h : Hd} {σ : L2.St} {H : Hp} {Q : VK} (q : tE (Kx.mk X.K Tt Ee xc) (evalE gl cal (.op h [a])) σ H Q) :
    tE (Kx.mk X.K Tt Ee xc) (evalE gl cal a) σ H fun v H1 => r1 (Kx.mk X.K Tt Ee xc) (fun d => opSem h [d]) v H1 Q := by
  refine tE_one ?_
  obtain ⟨F, ρ, S, env, w, ev, p⟩ := q
  refine ⟨F, ρ, S, env, w, ev, ?_⟩
  simp only [evalE] at p
  have p := post_argX p
  simp only [evalEs_cons, evalEs_nil] at p
  exact p
theorem args_gen {es : List E} {h : Hd} {σ : L2.St} {H : Hp} {Q : VK} (q : tE (Kx.mk X.K Tt Ee xc) (evalE gl cal (.op h es)) σ H Q) :
    tA (Kx.mk X.K Tt Ee xc) (evalEs gl cal es) σ H fun vs H1 => rA (Kx.mk X.K Tt Ee xc) (opSem h) vs H1 Q := tE_args (by
  obtain ⟨F, ρ, S, env, w, ev, p⟩ := q
  refine ⟨F, ρ, S, env, w, ev, ?_⟩
  simp only [evalE] at p
  exact post_argX p)
theorem blt_in (o : XOk cf gl cal N Tt Ee xc X) {x : Str} (h : x ∈ bltNames) : X.mg x = none := o.blt x h
theorem BI.mem (b : BI) : b.nm ∈ bltNames := by cases b <;> decide +kernel
theorem BT.mem (b : BT) : b.nm ∈ bltNames := by cases b <;> decide +kernel
theorem BT.boot (b : BT) : bootBuiltins b.nm = some (.type b.ty) := by cases b <;> decide +kernel
theorem BT.okn (b : BT) : okName b.nm = true := by cases b <;> decide +kernel
theorem BI.okn (b : BI) : okName b.nm = true := by cases b <;> decide +kernel
theorem pe_ty (o : XOk cf gl cal N Tt Ee xc X) (t : BT) {p : Pos} (hg : gloOf X.env.scope t.nm = true) : PE X (.Name t.nm p) (tC (.ty t.ty)) := by
  obtain ⟨h1, _, h3⟩ := okName_of t.okn
  exact pe_bltn (glo_of rfl hg) (o.blt _ t.mem) t.boot rfl h3 h1
/-- the built-in functions -/
theorem bi_ok (o : XOk cf gl cal N Tt Ee xc X) (b : BI) {a : E} {as : List E} {x : Expr} {xs : List Expr} {p1 p : Pos} (hg : gloOf X.env.scope b.nm = true) (h : SndAll gl cal Tt Ee xc X (a :: as) (x :: xs)) :
    PE X (.Call (.Name b.nm p1) (x :: xs) [] p) (tE (Kx.mk X.K Tt Ee xc) (evalE gl cal (.op (.bi b) (a :: as)))) := by
  obtain ⟨h1, _, h3⟩ := okName_of b.okn
  have hm := o.blt _ b.mem
  have hst := h.star
  simp only [List.all_cons, Bool.and_eq_true] at hst
  have hu : X.A.units + many + 5 < cLine := by have := o.hu; omega
  have fin : ∀ {f : List V → Hp → VK → Prop}, (∀ xs H Q, rA (Kx.mk X.K Tt Ee xc) (biSem b) xs H Q → f xs H Q) → ∀ σ H Q, tE (Kx.mk X.K Tt Ee xc) (evalE gl cal (.op (.bi b) (a :: as))) σ H Q → tCB f (tA (Kx.mk X.K Tt Ee xc) (evalEs gl cal (a :: as))) σ H Q := by
    intro f hf σ H Q q
    obtain ⟨F, ρ, S, env, w, ev, p⟩ := args_gen q
    exact ⟨F, ρ, S, env, w, ev, p.imp fun vs H1 z => hf _ _ _ z⟩
  have B : ∀ {id : String}, bootBuiltins b.nm = some (.builtin id) → CallR X (.builtin id) (rA (Kx.mk X.K Tt Ee xc) (biSem b)) → PE X (.Call (.Name b.nm p1) (x :: xs) [] p) (tE (Kx.mk X.K Tt Ee xc) (evalE gl cal (.op (.bi b) (a :: as)))) := fun hb hc =>
    PE.imp (pe_callB hc (glo_of rfl hg) hm hb h.pa h3 h1 (star_one hst.1) (star_any hst.2)) (fin fun _ _ _ z => z)
  have T : ∀ {id : String}, bootBuiltins b.nm = some (.type id) → CallR X (.type id) (rA (Kx.mk X.K Tt Ee xc) (biSem b)) → PE X (.Call (.Name b.nm p1) (x :: xs) [] p) (tE (Kx.mk X.K Tt Ee xc) (evalE gl cal (.op (.bi b) (a :: as)))) := fun hb hc =>
    PE.imp (pe_callTy hc (glo_of rfl hg) hm hb h.pa h3 h1 (star_one hst.1) (star_any hst.2)) (fin fun _ _ _ z => z)
  have no : (∀ ds, biSem b ds = M.stk) → ∀ {f : Value}, CallR X f (rA (Kx.mk X.K Tt Ee xc) (biSem b)) := fun hz f => callNone fun xs H Q ⟨F, ρ, S, ds, w, r, p⟩ => by rw [hz] at p; exact p
  cases b with
  | len => exact B (by decide +kernel) bi_len
  | all => exact B (by decide +kernel) (bi_all o.calm)
  | any => exact B (by decide +kernel) (bi_any o.calm)
  | sum => exact B (by decide +kernel) (bi_sum o.calm)
  | sorted => exact B (by decide +kernel) (bi_sorted hu o.calm)
  | tuple => exact T (by decide +kernel) bi_tuple
  | list => exact T (by decide +kernel) bi_list
  | int => exact T (by decide +kernel) bi_int
  | abs => exact B (by decide +kernel) bi_abs
  | min => exact B (by decide +kernel) (bi_min o.calm hu)
  | max => exact B (by decide +kernel) (bi_max o.calm hu)
  | str => exact T (by decide +kernel) bi_str
theorem isi_in : ("isinstance" : Str) ∈ bltNames := by decide +kernel
theorem isi_ok (o : XOk cf gl cal N Tt Ee xc X) (t : BT) {a : E} {x : Expr} {p1 p2 p : Pos} (hg : hdOk X.env.scope (.isi t) = true) (h : SndOk gl cal Tt Ee xc X a x) :
    PE X (.Call (.Name "isinstance" p1) [x, .Name t.nm p2] [] p) (tE (Kx.mk X.K Tt Ee xc) (evalE gl cal (.op (.isi t) [a]))) := by
  simp only [hdOk, Bool.and_eq_true] at hg
  refine PE.imp (pe_callB call_isi (glo_of rfl hg.1) (o.blt _ isi_in) PyProof.Rows.boot_isinstance (pa_cons h.pe (pa_cons (pe_ty o t hg.2) pa_nil) (star_one h.star)) (by decide +kernel) (by decide +kernel) (star_one h.star)) ?_
  intro σ H Q q
  obtain ⟨F, ρ, S, env, w, ev, p⟩ := un_gen q
  refine ⟨F, ρ, S, env, w, ev, p.imp ?_⟩
  rintro v H1 ⟨F, ρ, S, d, w, r, q⟩
  have q' : Post (Kx.mk X.K Tt Ee xc) F H1 ρ Q (if okT S d = true then .ok (.bl (isT S t d)) S else .stuck) := q
  by_cases hk : okT S d = true
  · rw [if_pos hk] at q'
    obtain ⟨ty, t1, t2⟩ := isT_rep w r hk
    exact ⟨v, .ty t.ty, _, _, _, rfl, .ty _, t1, t2 t, q'.ok w (.bl _)⟩
  · rw [if_neg hk] at q'
    exact q'.elim
theorem names_pa (o : XOk cf gl cal N Tt Ee xc X) : ∀ {ts : List BT} {es : List Expr}, namesBT es = some ts → (ts.all fun t => gloOf X.env.scope t.nm) = true →
    ∃ t : TA, PA X es t ∧ es.all noStar = true ∧ ∀ σ H Q, Q (ts.map fun t => V.ty t.ty) H → t σ H Q
  | ts, [], h, _ => by
    simp only [namesBT] at h
    cases h
    exact ⟨_, pa_nil, rfl, fun σ H Q q => q⟩
  | ts, e :: es, h, hg => by
    cases e with
    | Name x p =>
      simp only [namesBT] at h
      cases hb : BT.of x with
      | none => rw [hb] at h; cases h
      | some b =>
        rw [hb] at h
        obtain ⟨bs, h1, h2⟩ := Option.map_eq_some_iff.mp h
        subst h2
        simp only [List.all_cons, Bool.and_eq_true] at hg
        obtain ⟨t, q1, q2, q3⟩ := names_pa o h1 hg.2
        have e := BT.of_nm hb
        subst e
        exact ⟨_, pa_cons (pe_ty o b hg.1) q1, by simp only [List.all_cons, q2]; rfl, fun σ H Q q => q3 _ _ _ q⟩
    | _ => cases h
theorem kitAny_of {K : PySem.W.Frag} {ty : String} {S : Store} {d : D} (h : ∀ t : BT, PySem.W.kitOne K (.type ty) (.type t.ty) = some (isT S t d)) : ∀ ts : List BT, PySem.W.kitAny K (.type ty) (ts.map fun t => Value.type t.ty) = some (ts.any fun t => isT S t d)
  | [] => rfl
  | t :: ts => by
    rw [List.map_cons, List.any_cons]
    refine kitAny_cons (h t) (fun e => ?_) fun e => ?_
    · rw [e, Bool.false_or]
      exact kitAny_of h ts
    · rw [e, Bool.true_or]
theorem cls_pair : ∀ ts : List BT, Paired ClsV (ts.map fun t => V.ty t.ty) (ts.map fun t => Value.type t.ty)
  | [] => .nil
  | t :: ts => .cons (.ty _) (cls_pair ts)
theorem isis_ok (o : XOk cf gl cal N Tt Ee xc X) {ts : List BT} {a : E} {x : Expr} {es : List Expr} {k : Nat} {p1 p2 p : Pos} (hn : namesBT es = some ts) (hg : hdOk X.env.scope (.isis ts) = true) (h : SndOk gl cal Tt Ee xc X a x) :
    PE X (.Call (.Name "isinstance" p1) [x, .Tuple es k p2] [] p) (tE (Kx.mk X.K Tt Ee xc) (evalE gl cal (.op (.isis ts) [a]))) := by
  simp only [hdOk, Bool.and_eq_true, decide_eq_true_eq] at hg
  obtain ⟨t, q1, q2, q3⟩ := names_pa o hn hg.2
  refine PE.imp (pe_callB call_isiT (glo_of rfl hg.1.1) (o.blt _ isi_in) PyProof.Rows.boot_isinstance (pa_cons h.pe (pa_cons (pe_tup q1) pa_nil) (star_one h.star)) (by decide +kernel) (by decide +kernel) (star_one h.star)) ?_
  intro σ H Q q
  obtain ⟨F, ρ, S, env, w, ev, p⟩ := un_gen q
  refine ⟨F, ρ, S, env, w, ev, p.imp ?_⟩
  rintro v H1 ⟨F, ρ, S, d, w, r, q⟩
  refine q3 _ _ _ ⟨?_, fun tp ht => ?_⟩
  · rw [List.length_map, sizeLine_eq]
    have := hg.1.2
    omega
  · have q' : Post (Kx.mk X.K Tt Ee xc) F H1 ρ Q (if okT S d = true then .ok (.bl (ts.any fun t => isT S t d)) S else .stuck) := q
    by_cases hk : okT S d = true
    · rw [if_pos hk] at q'
      have s1 := w.laid ht (.tup (ts.map fun t => V.ty t.ty))
      obtain ⟨ty, t1, t2⟩ := isT_rep s1.wf (s1.rep r) hk
      exact ⟨v, tp, _, _, _, _, rfl, upd_same, cls_pair ts, t1, kitAny_of t2 ts, q' _ _ _ s1 (.bl _)⟩
    · rw [if_neg hk] at q'
      exact q'.elim
end
end Z

/-! Z12: operations of the text; comprehensions -/
namespace Z
open PySem PySem.Spec PyProof.Rows L2
section
variable {cf : Cfg} {gl : Nat → Option D} {cal : Nat → List D → M D} {N : List Str} {X : Cx} {Tt : List (Addr × Str)} {Ee : XK} {xc : Str → Option (Addr × Option Str)}
theorem part_int {f : Env → M D} {σ : L2.St} {H : Hp} {Q : Option Int → Hp → Prop} (h : tE (Kx.mk X.K Tt Ee xc) f σ H fun x H1 => ∃ i, x = .int i ∧ Q (some i) H1) : tPart (tE (Kx.mk X.K Tt Ee xc) f) σ H Q := h
theorem ints_rep {K : PySem.W.Frag} {G : Hp} {ρ : List Addr} {v : V} {d : D} (r : Rep K G ρ v d) (h : ∃ i, d = .int i) : ∃ i, v = .int i ∧ d = .int i := by
  obtain ⟨i, rfl⟩ := h
  cases r
  exact ⟨i, rfl, rfl⟩
theorem res_bindE {α β : Type} {m : M α} {f : α → M β} {S S' : Store} {b : β} (h : M.bind m f S = .ok b S') : ∃ a S1, m S = .ok a S1 ∧ f a S1 = .ok b S' := by
  unfold M.bind at h
  cases q : m S with
  | ok a S1 => rw [q] at h; exact ⟨a, S1, rfl, h⟩
  | exc _ _ => rw [q] at h; cases h
  | stuck => rw [q] at h; cases h
theorem es_cons {gl : Nat → Option D} {cal : Nat → List D → M D} {e : E} {es : List E} {env : Z.Env} {S S' : Store} {ds : List D} (h : evalEs gl cal (e :: es) env S = .ok ds S') : ∃ d S1 r, evalE gl cal e env S = .ok d S1 ∧ evalEs gl cal es env S1 = .ok r S' ∧ ds = d :: r := by
  simp only [evalEs] at h
  obtain ⟨d, S1, h1, h⟩ := res_bindE h
  obtain ⟨r, S2, h2, h⟩ := res_bindE h
  cases h
  exact ⟨d, S1, r, h1, h2, rfl⟩
theorem es_nil {gl : Nat → Option D} {cal : Nat → List D → M D} {env : Z.Env} {S S' : Store} {ds : List D} (h : evalEs gl cal [] env S = .ok ds S') : ds = [] ∧ S' = S := by
  simp only [evalEs] at h
  cases h
  exact ⟨rfl, rfl⟩
theorem mnd_ok (o : XOk cf gl cal N Tt Ee xc X) {mx : Bool} {e1 e2 : E} {a d : Expr} {p1 p2 p : Pos} (hg : gloOf X.env.scope (if mx = true then "max" else "min") = true) (h1 : SndOk gl cal Tt Ee xc X e1 a) (h2 : SndOk gl cal Tt Ee xc X e2 d) :
    PE X (.Call (.Name (if mx = true then "max" else "min") p1) [a] [⟨some "default", d, p2⟩] p) (tE (Kx.mk X.K Tt Ee xc) (evalE gl cal (.op (.mnd mx) [e1, e2]))) := by
  have hu : X.A.units + many + 5 < cLine := by have := o.hu; omega
  have st : starEach [a] X.env = (false, eval a X.env) :: starEach [] X.env := star_one h1.star
  have key : ∀ σ H Q, tE (Kx.mk X.K Tt Ee xc) (evalE gl cal (.op (.mnd mx) [e1, e2])) σ H Q → tCKw (fun xs zs H Q => ∃ (a : Addr) (ns : List Int) (d : V), xs = [.ref a] ∧ zs = [d] ∧ SqL X.K H a (ns.map V.int) ∧ (match ns with
      | [] => Q d H
      | n :: ns => Q (.int (pickI mx n ns)) H)) (tCons (tE (Kx.mk X.K Tt Ee xc) (evalE gl cal e1)) tNil) (tCons (tE (Kx.mk X.K Tt Ee xc) (evalE gl cal e2)) tNil) σ H Q := by
    intro σ H Q q
    obtain ⟨F, ρ, S, env, w, ev, p⟩ := q
    simp only [evalE] at p
    have p := post_argX p
    simp only [evalEs_cons, evalEs_nil] at p
    refine ⟨F, ρ, S, env, w, ev, (Post.bind p).imp ?_⟩
    rintro v H1 ⟨ρ1, S1, d1, s1, r1, p1⟩
    refine ⟨F, ρ1, S1, env, s1.wf, ev.le s1.le s1.pre, (Post.bind p1).imp ?_⟩
    rintro v2 H2 ⟨ρ2, S2, d2, s2, r2, p2⟩
    have r1 := s2.rep r1
    cases d1 with
    | lst xs =>
      cases r1 with
      | @lst aa vs ds k1 k2 k3 =>
        have p2 : Post (Kx.mk X.K Tt Ee xc) F H2 ρ2 Q ((match allI xs with
          | some (n :: ns) => M.ret (D.int (pickI mx n ns))
          | some [] => M.ret d2
          | none => M.stk) S2) := p2
        cases e : allI xs with
        | none => rw [e] at p2; exact p2.elim
        | some ms =>
          rw [e] at p2
          have sq : SqL X.K H2 aa (ms.map V.int) := allI_rep k2 e ▸ SqL.le del_leH (.inl (.inl k1))
          refine ⟨aa, ms, v2, rfl, rfl, sq, ?_⟩
          cases ms with
          | nil => exact Post.ok s2.wf r2 p2
          | cons n ns => exact Post.ok s2.wf (.int _) p2
    | _ => exact p2.elim
  cases mx with
  | true => exact PE.imp (pe_callBK (call_pickD o.calm hu true) (glo_of rfl hg) (o.blt _ (by decide +kernel)) (by decide +kernel) (pa_cons h1.pe pa_nil st) (pk_cons h2.pe pk_nil) (by decide +kernel) (by decide +kernel) (by rw [st]; rfl) (by rw [st]; rfl) (by rfl) (by rfl) (by rfl)) key
  | false => exact PE.imp (pe_callBK (call_pickD o.calm hu false) (glo_of rfl hg) (o.blt _ (by decide +kernel)) (by decide +kernel) (pa_cons h1.pe pa_nil st) (pk_cons h2.pe pk_nil) (by decide +kernel) (by decide +kernel) (by rw [st]; rfl) (by rw [st]; rfl) (by rfl) (by rfl) (by rfl)) key
theorem op_ok (o : XOk cf gl cal N Tt Ee xc X) {h : Hd} {es : List E} {xs : List Expr} {ex : Expr} (sh : Shape h xs ex) (hg : hdOk X.env.scope h = true) (hs : SndAll gl cal Tt Ee xc X es xs) : PE X ex (tE (Kx.mk X.K Tt Ee xc) (evalE gl cal (.op h es))) := by
  have hu : X.A.units + many + 5 < cLine := by have := o.hu; omega
  cases sh with
  | bin op a b p =>
    cases hs with
    | cons h1 hs =>
      cases hs with
      | cons h2 hs =>
        cases hs
        exact PE.imp (pe_op (bin_all (Tt := Tt) (Ee := Ee) (xc := xc) op) h1.pe h2.pe) fun σ H Q q => bin_gen (fun _ _ => rfl) q
  | cmp op a b p hb =>
    cases hs with
    | cons h1 hs =>
      cases hs with
      | cons h2 hs =>
        cases hs
        exact PE.imp (pe_cmpR (cmp_all (Tt := Tt) (Ee := Ee) (xc := xc) hu op) h1.pe h2.pe hb) fun σ H Q q => bin_gen (fun _ _ => rfl) q
  | neg a p =>
    cases hs with
    | cons h1 hs =>
      cases hs
      refine PE.imp (pe_un un_neg h1.pe) fun σ H Q q => ?_
      obtain ⟨F, ρ, S, env, w, ev, p⟩ := un_gen q
      refine ⟨F, ρ, S, env, w, ev, p.imp ?_⟩
      rintro v H1 ⟨F, ρ, S, d, w, r, q⟩
      cases r with
      | int i => exact ⟨i, rfl, Post.ok w (.int _) q⟩
      | _ => exact q.elim
  | rev a k p1 p2 p3 p =>
    cases hs with
    | cons h1 hs =>
      cases hs
      refine PE.imp (pe_revT h1.pe) fun σ H Q q => ?_
      obtain ⟨F, ρ, S, env, w, ev, p⟩ := un_gen q
      refine ⟨F, ρ, S, env, w, ev, p.imp ?_⟩
      rintro v H1 ⟨F, ρ, S, d, w, r, q⟩
      cases r with
      | @tup a vs ds h1 h2 h3 => exact ⟨a, vs, rfl, SqT.le del_leH h1, fun p hp => q _ _ _ (w.laid hp _) (w.newTup hp h2.reverse (by rw [List.length_reverse]; exact h3))⟩
      | _ => exact q.elim
  | sl11 a l hh p1 p =>
    cases hs with
    | cons h1 hs =>
      cases hs with
      | cons h2 hs =>
        cases hs with
        | cons h3 hs =>
          cases hs
          refine PE.imp (pe_slice (sl_all (Tt := Tt) (Ee := Ee) (xc := xc)) h1.pe (po_some h2.pe) (po_some h3.pe)) fun σ H Q q => ?_
          obtain ⟨F, ρ, S, env, w, ev, p⟩ := q
          simp only [evalE] at p
          obtain ⟨ds, S4, hds, p⟩ := noX_bind p
          obtain ⟨d1, S1, u1, e1, hds, g1⟩ := es_cons hds
          obtain ⟨d2, S2, u2, e2, hds, g2⟩ := es_cons hds
          obtain ⟨d3, S3, u3, e3, hds, g3⟩ := es_cons hds
          obtain ⟨g4, rfl⟩ := es_nil hds
          subst g4 g3 g2 g1
          refine ⟨F, ρ, S, env, w, ev, ?_⟩
          rw [e1]
          intro v1 H1 ρ1 s1 r1
          have key : ∃ i j, d2 = .int i ∧ d3 = .int j := by
            cases d2 <;> first | exact p.elim | skip
            cases d3 <;> first | exact p.elim | exact ⟨_, _, rfl, rfl⟩
          obtain ⟨i, j, rfl, rfl⟩ := key
          refine ⟨F, ρ1, S1, env, s1.wf, ev.le s1.le s1.pre, ?_⟩
          rw [e2]
          intro v2 H2 ρ2 s2 r2
          cases r2
          refine ⟨i, rfl, F, ρ2, S2, env, s2.wf, ev.le (fun a o e => s2.le a o (s1.le a o e)) (s1.pre.trans s2.pre), ?_⟩
          rw [e3]
          intro v3 H3 ρ3 s3 r3
          cases r3
          exact ⟨j, rfl, F, ρ3, S4, d1, s3.wf, s3.rep (s2.rep r1), p.from ((s1.trans s2).trans s3)⟩
  | mnd mx a d p1 p2 p =>
    cases hs with
    | cons h1 hs =>
      cases hs with
      | cons h2 hs =>
        cases hs
        exact mnd_ok o hg h1 h2
  | sl10 a l p1 p =>
    cases hs with
    | cons h1 hs =>
      cases hs with
      | cons h2 hs =>
        cases hs
        refine PE.imp (pe_slice (sl_all (Tt := Tt) (Ee := Ee) (xc := xc)) h1.pe (po_some h2.pe) po_none) fun σ H Q q => ?_
        obtain ⟨F, ρ, S, env, w, ev, p⟩ := q
        simp only [evalE] at p
        have p := post_argX p
        simp only [evalEs_cons, evalEs_nil] at p
        refine ⟨F, ρ, S, env, w, ev, (Post.bind p).imp ?_⟩
        rintro v H1 ⟨ρ1, S1, d, s1, r1, p1⟩
        refine ⟨F, ρ1, S1, env, s1.wf, ev.le s1.le s1.pre, (Post.bind p1).imp ?_⟩
        rintro v2 H2 ⟨ρ2, S2, d2, s2, r2, p2⟩
        cases r2 with
        | int i => exact ⟨i, rfl, F, ρ2, S2, d, s2.wf, s2.rep r1, p2⟩
        | _ => exact p2.elim
  | sl01 a l p1 p =>
    cases hs with
    | cons h1 hs =>
      cases hs with
      | cons h2 hs =>
        cases hs
        refine PE.imp (pe_slice (sl_all (Tt := Tt) (Ee := Ee) (xc := xc)) h1.pe po_none (po_some h2.pe)) fun σ H Q q => ?_
        obtain ⟨F, ρ, S, env, w, ev, p⟩ := q
        simp only [evalE] at p
        have p := post_argX p
        simp only [evalEs_cons, evalEs_nil] at p
        refine ⟨F, ρ, S, env, w, ev, (Post.bind p).imp ?_⟩
        rintro v H1 ⟨ρ1, S1, d, s1, r1, p1⟩
        refine ⟨F, ρ1, S1, env, s1.wf, ev.le s1.le s1.pre, (Post.bind p1).imp ?_⟩
        rintro v2 H2 ⟨ρ2, S2, d2, s2, r2, p2⟩
        cases r2 with
        | int i => exact ⟨i, rfl, F, ρ2, S2, d, s2.wf, s2.rep r1, p2⟩
        | _ => exact p2.elim
  | sl00 a p1 p =>
    cases hs with
    | cons h1 hs =>
      cases hs
      refine PE.imp (pe_slice (sl_all (Tt := Tt) (Ee := Ee) (xc := xc)) h1.pe po_none po_none) fun σ H Q q => ?_
      obtain ⟨F, ρ, S, env, w, ev, p⟩ := un_gen q
      refine ⟨F, ρ, S, env, w, ev, p.imp ?_⟩
      rintro v H1 ⟨F, ρ, S, d, w, r, q⟩
      exact ⟨F, ρ, S, d, w, r, q⟩
  | ix a i p hi =>
    cases hs with
    | cons h1 hs =>
      cases hs with
      | cons h2 hs =>
        cases hs
        exact PE.imp (pe_ix (ix_all (Tt := Tt) (Ee := Ee) (xc := xc)) h1.pe h2.pe (plain_ix hi)) fun σ H Q q => bin_gen (fun _ _ => rfl) q
  | tup _ k p =>
    refine PE.imp (pe_tup hs.pa) fun σ H Q q => ?_
    obtain ⟨F, ρ, S, env, w, ev, p⟩ := args_gen q
    refine ⟨F, ρ, S, env, w, ev, p.imp ?_⟩
    rintro vs H1 ⟨F, ρ, S, ds, w, r, q⟩
    have q' : Post (Kx.mk X.K Tt Ee xc) F H1 ρ Q ((if ds.length ≤ sizeLine then M.ret (.tup ds) else M.stk) S) := q
    by_cases hz : ds.length ≤ sizeLine
    · rw [if_pos hz] at q'
      exact ⟨by rw [r.length]; exact hz, fun p hp => q' _ _ _ (w.laid hp _) (w.newTup hp r hz)⟩
    · rw [if_neg hz] at q'
      exact q'.elim
  | lst _ p =>
    refine PE.imp (pe_lst hs.pa) fun σ H Q q => ?_
    obtain ⟨F, ρ, S, env, w, ev, p⟩ := args_gen q
    refine ⟨F, ρ, S, env, w, ev, p.imp ?_⟩
    rintro vs H1 ⟨F, ρ, S, ds, w, r, q⟩
    have q' : Post (Kx.mk X.K Tt Ee xc) F H1 ρ Q ((if ds.length ≤ sizeLine then M.ret (.lst ds) else M.stk) S) := q
    by_cases hz : ds.length ≤ sizeLine
    · rw [if_pos hz] at q'
      exact ⟨by rw [r.length]; exact hz, fun p hp => q' _ _ _ (w.laid hp _) (w.newLst hp r hz)⟩
    · rw [if_neg hz] at q'
      exact q'.elim
  | bi b a as p1 p =>
    cases hs with
    | cons h1 hs => exact bi_ok o b hg (.cons h1 hs)
  | isi t a p1 p2 p =>
    cases hs with
    | cons h1 hs =>
      cases hs
      exact isi_ok o t hg h1
  | isis ts a es2 k p1 p2 p hn =>
    cases hs with
    | cons h1 hs =>
      cases hs
      exact isis_ok o hn hg h1
  | join ob a ap p hl hb =>
    cases hs with
    | cons h1 hs =>
      cases hs with
      | cons h2 hs =>
        cases hs
        refine PE.imp (pe_m1 F.slot_str_join F.type_str_join (mt_joinZ (Tt := Tt) (Ee := Ee) (xc := xc)) h1.pe h2.pe (star_one h2.star) (base_one hb) hl) fun σ H Q q => ?_
        obtain ⟨F, ρ, S, env, w, ev, p⟩ := q
        simp only [evalE] at p
        obtain ⟨ds, S4, hds, p⟩ := noX_bind p
        obtain ⟨d1, S1, u1, e1, hds, g1⟩ := es_cons hds
        obtain ⟨d2, S2, u2, e2, hds, g2⟩ := es_cons hds
        obtain ⟨g4, rfl⟩ := es_nil hds
        subst g4 g2 g1
        refine ⟨F, ρ, S, env, w, ev, ?_⟩
        rw [e1]
        intro v1 H1 ρ1 s1 r1
        have key : ∃ z, d1 = .str z := by
          cases d1 <;> first | exact p.elim | exact ⟨_, rfl⟩
        obtain ⟨z, rfl⟩ := key
        cases r1 with
        | str zz zo =>
          refine ⟨⟨z, rfl⟩, F, ρ1, S1, env, s1.wf, ev.le s1.le s1.pre, ?_⟩
          rw [e2]
          intro v2 H2 ρ2 s2 r2
          exact ⟨F, ρ2, S4, [.str z, d2], s2.wf, .cons (.str zz zo) (.cons r2 .nil), p.from (s1.trans s2)⟩
end
end Z

/-! Z13: list comprehensions -/
namespace Z
open PySem PySem.Spec PyProof.Rows L2
section
variable {K : Kx} {H H' H1 H2 : Hp} {F : Fs} {ρ ρ' ρ1 ρ2 : List Addr} {S S' S1 S2 : Store} {p : Addr}
theorem lookup_ne {b : Bool} {c : Addr} (h : c ≠ p) : List.lookup c ((p, b) :: F) = F.lookup c := by
  rw [List.lookup_cons]
  have e : (c == p) = false := by simpa using h
  rw [e]
theorem lookup_self {b : Bool} : List.lookup p ((p, b) :: F) = some b := by
  rw [List.lookup_cons]
  simp
/-- others own less -/
theorem del_weak : Le (del H ((p, false) :: F) ρ) (del H F ρ) := fun c o e => by
  refine del_same e fun n _ => ⟨n, ?_, rfl⟩
  have nc : c ≠ p := fun z => by
    subst z
    obtain ⟨_, q | ⟨q, _⟩, _⟩ := del_cases e
    · rw [lookup_self] at q; cases q.1
    · rw [lookup_self] at q; cases q
  rw [lookup_ne nc]
theorem Wf.weak (w : Wf K H ((p, false) :: F) ρ S) : Wf K H F ρ S :=
  ⟨w.len, w.nd, fun n a o e1 e2 => OB.le del_weak List.prefix_rfl rfl (w.at_ n a o e1 e2), fun a m => w.fd a (List.mem_cons_of_mem _ m), w.tabs⟩
theorem Stp.weak (s : Stp K ((p, false) :: F) H ρ H' ρ' S') : Stp K F H ρ H' ρ' S' := ⟨s.same, s.tbl, s.pre, s.fresh, s.wf.weak⟩
theorem le_poke (m : F.lookup p = some false) (o : HO) : Le (del H F ρ) (del (upd H p o) F ρ) := fun c u e => by
  refine del_same e fun n _ => ⟨n, rfl, upd_ne fun z => ?_⟩
  subst z
  obtain ⟨_, q | ⟨q, _⟩, _⟩ := del_cases e
  · rw [m] at q; cases q.1
  · rw [m] at q; cases q
/-- what is one's own is written -/
theorem Wf.poke (w : Wf K H F ρ S) (m : F.lookup p = some false) (hp : ∃ vs, H p = some (.lst vs)) (o : HO) : Wf K (upd H p o) F ρ S := by
  obtain ⟨us, hp⟩ := hp
  have n : p ∉ ρ := (w.fd _ (lookup_mem m)).2
  refine ⟨w.len, w.nd, fun k a u e1 e2 => ?_, fun a m' => ⟨?_, (w.fd a m').2⟩, tabs_put w.tabs hp rfl⟩
  · have na : a ≠ p := fun z => n (z ▸ List.mem_of_getElem? e1)
    exact OB.le (le_poke m o) List.prefix_rfl (by rw [upd_ne na]) (w.at_ k a u e1 e2)
  · by_cases h : a.1 = p
    · rw [h, upd_same]; intro z; cases z
    · rw [upd_ne h]; exact (w.fd a m').1
theorem le_own (h : H p = none) (o : HO) (b : Bool) : Le (del H F ρ) (del (upd H p o) ((p, b) :: F) ρ) := fun c u e => del_same e fun n z => by
  have nc : c ≠ p := fun q => ex_ne z (q ▸ h)
  exact ⟨n, lookup_ne nc, upd_ne nc⟩
/-- a new thing of one's own -/
theorem Wf.laidOwn (w : Wf K H F ρ S) (h : H p = none) (o : HO) : Wf K (upd H p o) ((p, false) :: F) ρ S := by
  refine ⟨w.len, w.nd, fun k a u e1 e2 => ?_, fun a m => ?_, tabs_new w.tabs h⟩
  · have na : a ≠ p := fun z => w.nR h (z ▸ List.mem_of_getElem? e1)
    exact OB.le (le_own h o false) List.prefix_rfl (by rw [upd_ne na]) (w.at_ k a u e1 e2)
  · rcases List.mem_cons.mp m with z | m
    · subst z
      exact ⟨by rw [upd_same]; exact (fun z => by cases z), w.nR h⟩
    · have na : a.1 ≠ p := fun z => (w.fd a m).1 (z ▸ h)
      rw [upd_ne na]
      exact w.fd a m
theorem Stp.poke (s : Stp K F H ρ H' ρ' S') (h : H p = none) {o : HO} (w : Wf K (upd H' p o) F ρ' S') : Stp K F H ρ (upd H' p o) ρ' S' :=
  ⟨fun a u e n t => by rw [upd_ne (ne_of_none e h)]; exact s.same a u e n t, fun a ps e => by rw [upd_ne (ne_of_none e h)]; exact s.tbl a ps e, s.pre, s.fresh, w⟩
theorem EnvOk.setAll {G : Hp} {env : Env} {σ : L2.St} (e : EnvOk K.K G ρ env σ) : ∀ {as : List (Nat × D)} {vs : List V}, RepA K.K G ρ vs (as.map (·.2)) → EnvOk K.K G ρ (setAll env (as.map fun p => (p.1, some p.2))) (setAll σ ((as.map (·.1)).zip (vs.map some)))
  | [], _, r => by cases r; exact e
  | (i, d) :: as, _, r => by
    cases r with
    | @cons v vs _ _ r1 r2 =>
      have e1 : EnvOk K.K G ρ (env.set i (some d)) (σ.set i (some v)) := by
        refine ⟨by rw [List.length_set, List.length_set]; exact e.1, fun j d' h => ?_⟩
        by_cases hj : j = i
        · subst hj
          by_cases hl : j < env.length
          · rw [List.getElem?_set_self hl] at h
            cases h
            exact ⟨v, List.getElem?_set_self (Nat.lt_of_lt_of_le hl e.1), r1⟩
          · rw [List.getElem?_eq_none (by rw [List.length_set]; omega)] at h
            cases h
        · rw [List.getElem?_set_ne (fun z => hj z.symm)] at h
          obtain ⟨w, h1, h2⟩ := e.2 j d' h
          exact ⟨w, by rw [List.getElem?_set_ne (fun z => hj z.symm)]; exact h1, h2⟩
      exact EnvOk.setAll e1 r2
theorem wipe_get {env : Env} : ∀ {own : List Nat} {i : Nat} {d : D}, (Z.wipe env own)[i]? = some (some d) → env[i]? = some (some d) ∧ i ∉ own
  | [], i, d, h => ⟨h, by simp⟩
  | v :: vs, i, d, h => by
    unfold Z.wipe at h
    by_cases hi : v = i
    · subst hi
      by_cases hl : v < (Z.wipe env vs).length
      · rw [List.getElem?_set_self hl] at h; cases h
      · rw [List.getElem?_eq_none (by rw [List.length_set]; omega)] at h; cases h
    · rw [List.getElem?_set_ne hi] at h
      obtain ⟨h1, h2⟩ := wipe_get h
      exact ⟨h1, by simp only [List.mem_cons, not_or]; exact ⟨fun e => hi e.symm, h2⟩⟩
theorem wipe_keep {σ : L2.St} : ∀ {own : List Nat} {i : Nat} {v : V}, i ∉ own → σ[i]? = some (some v) → (L2.wipe σ own)[i]? = some (some v)
  | [], i, v, _, h => h
  | u :: us, i, v, n, h => by
    simp only [List.mem_cons, not_or] at n
    unfold L2.wipe
    rw [List.getElem?_set_ne (fun z => n.1 z.symm)]
    exact wipe_keep n.2 h
theorem wipe_len {env : Env} : ∀ own : List Nat, (Z.wipe env own).length = env.length
  | [] => rfl
  | v :: vs => by unfold Z.wipe; rw [List.length_set, wipe_len vs]
theorem EnvOk.wipe {G : Hp} {env : Env} {σ : L2.St} (e : EnvOk K.K G ρ env σ) (own : List Nat) : EnvOk K.K G ρ (Z.wipe env own) (L2.wipe σ own) := by
  refine ⟨by rw [wipe_len, L2.wipe_length]; exact e.1, fun i d h => ?_⟩
  obtain ⟨h1, h2⟩ := wipe_get h
  obtain ⟨v, h3, h4⟩ := e.2 i d h1
  exact ⟨v, wipe_keep h2 h3, h4⟩
/-- wiped: what stands at other places alone -/
theorem wipe_at (σ : L2.St) : ∀ (own : List Nat) (i : Nat), (L2.wipe σ own)[i]? = if i ∈ own ∧ i < σ.length then some none else σ[i]?
  | [], i => by simp [L2.wipe]
  | v :: vs, i => by
    unfold L2.wipe
    by_cases hv : v = i
    · subst hv
      by_cases hl : v < σ.length
      · rw [List.getElem?_set_self (by rw [L2.wipe_length]; exact hl), if_pos ⟨List.mem_cons_self, hl⟩]
      · rw [List.getElem?_eq_none (by rw [List.length_set, L2.wipe_length]; omega), if_neg (fun z => hl z.2), List.getElem?_eq_none (by omega)]
    · rw [List.getElem?_set_ne hv, wipe_at σ vs i]
      by_cases hm : i ∈ vs
      · simp [hm]
      · have : i ∉ v :: vs := by simp only [List.mem_cons, not_or]; exact ⟨fun e => hv e.symm, hm⟩
        simp [hm, this]
theorem setAll_len {α : Type} : ∀ (as : List (Nat × α)) (l : List α), (Z.setAll l as).length = l.length
  | [], _ => rfl
  | a :: as, l => by
    show (Z.setAll (l.set a.1 a.2) as).length = l.length
    rw [setAll_len as, List.length_set]
theorem setAll_ne {α : Type} : ∀ (as : List (Nat × α)) (l : List α) (i : Nat), (∀ p ∈ as, p.1 ≠ i) → (Z.setAll l as)[i]? = l[i]?
  | [], _, _, _ => rfl
  | a :: as, l, i, h => by
    show (Z.setAll (l.set a.1 a.2) as)[i]? = l[i]?
    rw [setAll_ne as _ i fun p m => h p (List.mem_cons_of_mem _ m), List.getElem?_set_ne (h a List.mem_cons_self)]
theorem wipe_setAll (σ : L2.St) (own : List Nat) (as : List (Nat × Option V)) (h : ∀ p ∈ as, p.1 ∈ own) : L2.wipe (Z.setAll (L2.wipe σ own) as) own = L2.wipe σ own := by
  apply List.ext_getElem?
  intro i
  rw [wipe_at, wipe_at]
  by_cases hm : i ∈ own
  · by_cases hl : i < σ.length
    · rw [if_pos ⟨hm, by rw [setAll_len, L2.wipe_length]; exact hl⟩, if_pos ⟨hm, hl⟩]
    · rw [if_neg (fun z => hl (by have := z.2; rw [setAll_len, L2.wipe_length] at this; exact this)), if_neg (fun z => hl z.2), List.getElem?_eq_none (by rw [setAll_len, L2.wipe_length]; omega), List.getElem?_eq_none (by omega)]
  · rw [if_neg (fun z => hm z.1), if_neg (fun z => hm z.1), setAll_ne _ _ _ (fun p mp e => hm (by rw [← e]; exact h p mp)), wipe_at, if_neg (fun z => hm z.1)]
mutual
theorem assigns_in (own : List Nat) : ∀ (t : Tg) (d : D) (as : List (Nat × D)), tgIn own t = true → assigns t d = some as → ∀ p ∈ as, p.1 ∈ own
  | .name i, d, as, h, e, p, m => by
    simp only [assigns] at e
    cases e
    have : p = (i, d) := by simpa using m
    subst this
    simpa [tgIn] using h
  | .tup ts, d, as, h, e, p, m => by
    cases d with
    | tup ds =>
      simp only [assigns] at e
      by_cases hl : ts.length = ds.length
      · rw [if_pos hl] at e
        exact assignsAll_in own ts ds as (by simpa [tgIn] using h) e p m
      · rw [if_neg hl] at e; cases e
    | _ => simp only [assigns] at e; cases e
theorem assignsAll_in (own : List Nat) : ∀ (ts : List Tg) (ds : List D) (as : List (Nat × D)), tgsIn own ts = true → assignsAll ts ds = some as → ∀ p ∈ as, p.1 ∈ own
  | [], ds, as, h, e, p, m => by
    simp only [assignsAll] at e
    cases e
    cases m
  | t :: ts, [], as, h, e, p, m => by simp only [assignsAll] at e; cases e
  | t :: ts, d :: ds, as, h, e, p, m => by
    simp only [tgsIn, Bool.and_eq_true] at h
    simp only [assignsAll] at e
    obtain ⟨a1, e1, e2⟩ := Option.bind_eq_some_iff.mp e
    obtain ⟨a2, e3, e4⟩ := Option.map_eq_some_iff.mp e2
    subst e4
    rcases List.mem_append.mp m with m | m
    · exact assigns_in own t d a1 h.1 e1 p m
    · exact assignsAll_in own ts ds a2 h.2 e3 p m
end
end
theorem res_bind {α β : Type} {m : M α} {f : α → M β} {S S' : Store} {b : β} (h : M.bind m f S = .ok b S') : ∃ a S1, m S = .ok a S1 ∧ f a S1 = .ok b S' := by
  unfold M.bind at h
  cases q : m S with
  | ok a S1 => rw [q] at h; exact ⟨a, S1, rfl, h⟩
  | exc _ _ => rw [q] at h; cases h
  | stuck => rw [q] at h; cases h
theorem Wf.e {k : PySem.W.Frag} {T : List (Addr × Str)} {E1 E2 : XK} {xc : Str → Option (Addr × Option Str)} {H : Hp} {F : Fs} {ρ : List Addr} {S : Store} (w : Wf (Kx.mk k T E1 xc) H F ρ S) : Wf (Kx.mk k T E2 xc) H F ρ S := ⟨w.len, w.nd, w.at_, w.fd, w.tabs⟩
theorem Stp.e {k : PySem.W.Frag} {T : List (Addr × Str)} {E1 E2 : XK} {xc : Str → Option (Addr × Option Str)} {H H' : Hp} {F : Fs} {ρ ρ' : List Addr} {S' : Store} (s : Stp (Kx.mk k T E1 xc) F H ρ H' ρ' S') : Stp (Kx.mk k T E2 xc) F H ρ H' ρ' S' := ⟨s.same, s.tbl, s.pre, s.fresh, s.wf.e⟩
theorem noX_ok {α : Type} {m : M α} {S S' : Store} {a : α} (h : M.noX m S = .ok a S') : m S = .ok a S' := by
  unfold M.noX at h
  cases q : m S with
  | ok a S1 => rw [q] at h; exact h
  | exc _ _ => rw [q] at h; cases h
  | stuck => rw [q] at h; cases h
theorem compLoop_nx (f : D → M (Option D)) : ∀ (xs : List D) (S S' : Store) (x : Ex), compLoop f xs S ≠ .exc x S'
  | [], S, S', x, h => by cases h
  | y :: ys, S, S', x, h => by
    unfold compLoop M.bind at h
    cases q : M.noX (f y) S with
    | ok o S1 =>
      rw [q] at h
      simp only at h
      cases q2 : compLoop f ys S1 with
      | ok zs S2 => rw [q2] at h; cases h
      | exc x' S2 => exact compLoop_nx f ys S1 S2 x' q2
      | stuck => rw [q2] at h; cases h
    | exc x' S1 =>
      unfold M.noX at q
      cases q3 : f y S with
      | ok _ _ => rw [q3] at q; cases q
      | exc _ _ => rw [q3] at q; cases q
      | stuck => rw [q3] at q; cases q
    | stuck => rw [q] at h; cases h
/-- nothing is raised -/
def nx : XK := fun _ _ _ => False
section
variable {cf : Cfg} {gl : Nat → Option D} {cal : Nat → List D → M D} {N : List Str} {X : Cx} {Tt : List (Addr × Str)} {Ee : XK} {xc : Str → Option (Addr × Option Str)}
def compTurn (gl : Nat → Option D) (cal : Nat → List D → M D) (own : List Nat) (elt : E) (tg : Tg) (ifs : List E) (env : Env) : D → M (Option D) := fun x => match bindT tg x (Z.wipe env own) with
  | some env' => M.bind (evalIfs gl cal ifs env') fun c => if c = true then M.bind (evalE gl cal elt env') fun y => M.ret (some y) else M.ret none
  | none => M.stk
theorem comp_eq (own : List Nat) (elt : E) (tg : Tg) (k : SK) (es ifs : List E) (env : Env) :
    evalE gl cal (.comp own elt tg k es ifs) env = M.bind (M.bind (evalEs gl cal es env) (srcItems k)) fun items => M.bind (compLoop (compTurn gl cal own elt tg ifs env) items) fun ys => M.ret (.lst ys) := by
  rw [M.bind_assoc]
  simp only [evalE]
  rfl
theorem comp_t {own : List Nat} {elt : E} {tg : Tg} {k : SK} {es ifs : List E} (hin : tgIn own tg = true) : ∀ σ H Q, tE (Kx.mk X.K Tt Ee xc) (evalE gl cal (.comp own elt tg k es ifs)) σ H Q →
    tLc (tI (Kx.mk X.K Tt Ee xc) fun env => M.bind (evalEs gl cal es env) (srcItems k)) (gT (Kx.mk X.K Tt Z.nx xc) tg) (tB (Kx.mk X.K Tt Z.nx xc) (evalIfs gl cal ifs)) (tE (Kx.mk X.K Tt Z.nx xc) (evalE gl cal elt)) own σ H Q := by
  rintro σ H Q ⟨F, ρ, S, env, w, ev, p⟩
  rw [comp_eq] at p
  unfold M.bind at p
  cases hq : (M.bind (evalEs gl cal es env) (srcItems k)) S with
  | exc x2 S2 =>
    have hq0 := hq
    unfold M.bind at hq
    rw [hq] at p
    refine ⟨F, ρ, S, env, w, ev, ?_⟩
    show PostI (Kx.mk X.K Tt Ee xc) F H ρ _ (M.bind (evalEs gl cal es env) (srcItems k) S)
    rw [hq0]
    exact p
  | stuck => unfold M.bind at hq; rw [hq] at p; exact p.elim
  | ok items S1 =>
    have hq0 := hq
    unfold M.bind at hq
    rw [hq] at p
    refine ⟨F, ρ, S, env, w, ev, ?_⟩
    show PostI (Kx.mk X.K Tt Ee xc) F H ρ _ (M.bind (evalEs gl cal es env) (srcItems k) S)
    rw [hq0]
    intro J H1 ρ1 s its Dd hD
    obtain ⟨hz, its⟩ := its
    cases hl : compLoop (compTurn gl cal own elt tg ifs env) items S1 with
    | exc _ _ => exact absurd hl (compLoop_nx _ _ _ _ _)
    | stuck => simp only [hl] at p; exact p.elim
    | ok ys S2 =>
      simp only [hl] at p
      have p : Post (Kx.mk X.K Tt Ee xc) F H ρ Q (.ok (.lst ys) S2) := p
      have e1 : EnvOk X.K (del H1 F ρ1) ρ1 env σ := ev.le s.le s.pre
      let Iv : Nat → Hp → Prop := fun i H' => ∃ ρ' S' done acc, i ≤ items.length ∧ Stp (Kx.mk X.K Tt Ee xc) F H1 ρ1 H' ρ' S' ∧ Wf (Kx.mk X.K Tt Ee xc) H' ((Dd, false) :: F) ρ' S' ∧ H' Dd = some (.lst acc) ∧ Dd ∉ ρ' ∧ RepA X.K (del H' ((Dd, false) :: F) ρ') ρ' acc done ∧ done.length ≤ i ∧
        ∃ rest, compLoop (compTurn gl cal own elt tg ifs env) (items.drop i) S' = .ok rest S2 ∧ ys = done ++ rest
      have leD : ∀ {H' ρ' S'}, Stp (Kx.mk X.K Tt Ee xc) F H1 ρ1 H' ρ' S' → Le (del H1 F ρ1) (del H' ((Dd, false) :: F) ρ') := fun {H' ρ' S'} st c o e => del_same e fun n h => by
        have hc : c ≠ Dd := fun z => ex_ne h (z ▸ hD)
        exact ⟨(st.keep n h).1, lookup_ne hc, (st.keep n h).2⟩
      refine ⟨fun i m H' => m = items.length - i ∧ Iv i H', ⟨items.length, by simp, ρ1, S1, [], [], Nat.zero_le _, s.wf.laid hD _, s.wf.laidOwn hD _, upd_same, fun m => s.wf.tr _ m hD, .nil, Nat.le_refl _, ys, by simpa using hl, by simp⟩, ?_⟩
      rintro i m H' ⟨rfl, ρ', S', done, acc, hi', st, w', hDl, nD, ra, hdl, rest, hr, rfl⟩
      have nx : Nxt (Kx.mk X.K Tt Ee xc) F H1 ρ1 ((Dd, false) :: F) H' ρ' S' := ⟨w', leD st, st.pre⟩
      obtain ⟨g1, g2, g3⟩ := its _ _ _ _ nx
      by_cases hlt : i < items.length
      · refine .inr ⟨g1 i hlt, Iv (i + 1), fun H'' iv => ⟨items.length - (i + 1), by omega, rfl, iv⟩, fun x H2 y => ?_⟩
        obtain ⟨d, hd, st2, rx⟩ := g3 i x H2 hlt y
        have hdrop : items.drop i = d :: items.drop (i + 1) := by
          obtain ⟨h1, h2⟩ := List.getElem?_eq_some_iff.mp hd
          rw [← h2]
          exact List.drop_eq_getElem_cons h1
        rw [hdrop] at hr
        obtain ⟨od, S3, f1, f2⟩ := res_bind hr
        have f1 := noX_ok f1
        obtain ⟨ys', S4, f3, f4⟩ := res_bind f2
        have f4 : Res.ok (match (generalizing := false) od with
          | some y => y :: ys'
          | none => ys') S4 = Res.ok rest S2 := f4
        injection f4 with g4 f5
        subst f5
        unfold compTurn at f1
        cases hbd : bindT tg d (Z.wipe env own) with
        | none => rw [hbd] at f1; cases f1
        | some env' =>
          rw [hbd] at f1
          unfold bindT at hbd
          obtain ⟨as, ha, hae⟩ := Option.map_eq_some_iff.mp hbd
          subst hae
          obtain ⟨c, S5, f6, f7⟩ := res_bind f1
          have e2 : EnvOk X.K (del H2 ((Dd, false) :: F) ρ') ρ' env σ := (e1.le (leD st) st.pre).le st2.le List.prefix_rfl
          refine ⟨(Dd, false) :: F, ρ', S', d, as, st2.wf.e, rx, ha, fun vs rvs => ⟨wipe_setAll σ own _ (fun p mp => ?_), ?_⟩⟩
          · have := (List.of_mem_zip mp).1
            obtain ⟨q, mq, eq⟩ := List.mem_map.mp this
            rw [← eq]
            exact assigns_in own tg d as hin ha q mq
          · have e3 := (e2.wipe own).setAll rvs
            refine ⟨(Dd, false) :: F, ρ', S', _, st2.wf.e, e3, ?_⟩
            rw [f6]
            intro H3 ρ3 s3'
            have s3 : Stp (Kx.mk X.K Tt Ee xc) ((Dd, false) :: F) H2 ρ' H3 ρ3 S5 := s3'.e
            have nD3 : Dd ∉ ρ3 := fun mm => (s3.fresh Dd mm).elim nD fun z => by
              rw [st2.same Dd _ hDl nD rfl] at z; cases z
            have hD3 : H3 Dd = some (.lst acc) := s3.same Dd _ (st2.same Dd _ hDl nD rfl) nD rfl
            have st3 : Stp (Kx.mk X.K Tt Ee xc) F H1 ρ1 H3 ρ3 S5 := (st.trans st2.weak).trans s3.weak
            cases c with
            | false =>
              simp only [Bool.false_eq_true, if_false] at f7 ⊢
              cases f7
              exact ⟨ρ3, _, done, acc, hlt, st3, s3.wf, hD3, nD3, s3.repA (st2.repA ra), Nat.le_succ_of_le hdl, ys', f3, by rw [← g4]⟩
            | true =>
              simp only [if_true] at f7 ⊢
              obtain ⟨y1, S6, f8, f9⟩ := res_bind f7
              have f9 : Res.ok (some y1) S6 = Res.ok od S3 := f9
              injection f9 with f9 f10
              subst f9 f10
              refine ⟨(Dd, false) :: F, ρ3, S5, _, s3.wf.e, e3.le s3.le s3.pre, ?_⟩
              rw [f8]
              intro vy H4 ρ4 s4' ry
              have s4 : Stp (Kx.mk X.K Tt Ee xc) ((Dd, false) :: F) H3 ρ3 H4 ρ4 S6 := s4'.e
              have nD4 : Dd ∉ ρ4 := fun mm => (s4.fresh Dd mm).elim nD3 fun z => by rw [hD3] at z; cases z
              have hD4 : H4 Dd = some (.lst acc) := s4.same Dd _ hD3 nD3 rfl
              have hal : acc.length = done.length := ra.length
              have st4 : Stp (Kx.mk X.K Tt Ee xc) F H1 ρ1 H4 ρ4 S6 := st3.trans s4.weak
              have w5 : Wf (Kx.mk X.K Tt Ee xc) (upd H4 Dd (.lst (acc ++ [vy]))) ((Dd, false) :: F) ρ4 S6 := s4.wf.poke lookup_self ⟨_, hD4⟩ _
              have le5 : Le (del H4 ((Dd, false) :: F) ρ4) (del (upd H4 Dd (.lst (acc ++ [vy]))) ((Dd, false) :: F) ρ4) := le_poke lookup_self _
              refine ⟨acc, hD4, by omega, ρ4, S6, done ++ [y1], acc ++ [vy], hlt, st4.poke hD w5.weak, w5, upd_same, nD4, ?_, by rw [List.length_append]; simp; omega, ys', f3, by rw [← g4]; simp⟩
              exact RepA.append (RepA.le le5 List.prefix_rfl _ _ (s4.repA (s3.repA (st2.repA ra)))) (.cons (Rep.le le5 List.prefix_rfl _ _ ry) .nil)
      · have ei : i = items.length := by omega
        subst ei
        rw [List.drop_length] at hr
        have hr : Res.ok ([] : List D) S' = Res.ok rest S2 := hr
        injection hr with h1 h2
        subst h1 h2
        refine .inl ⟨g2, ?_⟩
        rw [List.append_nil] at p
        exact p (.ref Dd) H' ρ' (s.trans st) (.lst (del_at nD (s.wf.nF hD) hDl) (RepA.le del_weak List.prefix_rfl _ _ ra) (by omega))
theorem comp_ok {own : List Nat} {elt : E} {tg : Tg} {k : SK} {es ifs : List E} {scope : Scope} {ownL : List (Str × Nat)} {tgx it elt' : Expr} {ifs' : List Expr} {pos : Pos} (hc : X.calm = true) (hN : X.N.Nodup) (hb : BlkOk X.N X.env.scope scope ownL) (ho : ownL.map (·.2) = own)
    (hi : PI X tgx it (tI (Kx.mk X.K Tt Ee xc) fun env => M.bind (evalEs gl cal es env) (srcItems k)))
    (hg : ∀ (s : Shared) (H : Hp) (C : Addr) (cl : List (Str × Addr)) (fp : List Addr), PG (X.blk s H scope (compEnvC scope cl C X.env) fp) tgx (gT (Kx.mk X.K Tt Z.nx xc) tg))
    (ht : ∀ (s : Shared) (H : Hp) (C : Addr) (cl : List (Str × Addr)) (fp : List Addr), PTs (X.blk s H scope (compEnvC scope cl C X.env) fp) ifs' (tB (Kx.mk X.K Tt Z.nx xc) (evalIfs gl cal ifs)))
    (he : ∀ (s : Shared) (H : Hp) (C : Addr) (cl : List (Str × Addr)) (fp : List Addr), PE (X.blk s H scope (compEnvC scope cl C X.env) fp) elt' (tE (Kx.mk X.K Tt Z.nx xc) (evalE gl cal elt)))
    (hin : tgIn own tg = true) (hs : ∀ x, foldedSetIterable it X.env x = pure x) : PE X (.ListComp elt' [⟨tgx, it, ifs', 0⟩] scope pos) (tE (Kx.mk X.K Tt Ee xc) (evalE gl cal (.comp own elt tg k es ifs))) := by
  refine PE.imp (pe_lc hc hN hi hb hg ht he hs) ?_
  rw [ho]
  exact comp_t hin
end
end Z

/-! Z14: every expression that passes the check computes what the small language says -/
namespace Z
open PySem PySem.Spec PyProof.Rows L2
section
variable {cf : Cfg} {gl : Nat → Option D} {cal : Nat → List D → M D} {N : List Str} {X : Cx} {Tt : List (Addr × Str)} {Ee : XK} {xc : Str → Option (Addr × Option Str)}
theorem shape_star {h : Hd} {xs : List Expr} {ex : Expr} (sh : Shape h xs ex) : noStar ex = true := by cases sh <;> rfl
theorem pair_of {es : List E} {a b : Expr} (hs : SndAll gl cal Tt Ee xc X es [a, b]) : ∃ e1 e2, es = [e1, e2] ∧ SndOk gl cal Tt Ee xc X e1 a ∧ SndOk gl cal Tt Ee xc X e2 b := by
  cases hs with
  | cons h1 hs =>
    cases hs with
    | cons h2 hs =>
      cases hs
      exact ⟨_, _, rfl, h1, h2⟩
theorem single_of {es : List E} {a : Expr} (hs : SndAll gl cal Tt Ee xc X es [a]) : ∃ e1, es = [e1] ∧ SndOk gl cal Tt Ee xc X e1 a := by
  cases hs with
  | cons h1 hs =>
    cases hs
    exact ⟨_, rfl, h1⟩
theorem op_snd (o : XOk cf gl cal N Tt Ee xc X) {h : Hd} {es : List E} {xs : List Expr} {ex : Expr} (sh : Shape h xs ex) (hg : hdOk X.env.scope h = true) (hs : SndAll gl cal Tt Ee xc X es xs) : SndOk gl cal Tt Ee xc X (.op h es) ex := by
  have hu : X.A.units + many + 5 < cLine := by have := o.hu; omega
  refine ⟨op_ok o sh hg hs, shape_star sh, fun _ => ?_⟩
  by_cases hc : ∃ op a b p, ex = .Compare a [op] [b] p
  · cases sh with
    | cmp op a b p hb =>
      obtain ⟨e1, e2, rfl, h1, h2⟩ := pair_of hs
      exact pt_test (pt_cmpR (cmp_all (Tt := Tt) (Ee := Ee) (xc := xc) hu op) h1.pe h2.pe hb) fun σ H Q q => bin_gen (fun _ _ => rfl) q
    | _ => obtain ⟨_, _, _, _, hc⟩ := hc; cases hc
  · refine pt_plain (op_ok o sh hg hs) ?_
    cases sh with
    | cmp op a b p hb => exact absurd ⟨_, _, _, _, rfl⟩ hc
    | _ => intro _; rfl
theorem call_snd (o : XOk cf gl cal N Tt Ee xc X) {f : Nat} {es : List E} {xs : List Expr} {x : Str} {p pos : Pos} (hl : cf.fns.lookup x = some f) (hlm : (cf.lm || !cf.lms.contains f) = true) (hg : gloOf X.env.scope x = true) (hn : okName x = true) (hs : SndAll gl cal Tt Ee xc X es xs) :
    SndOk gl cal Tt Ee xc X (.call f es) (.Call (.Name x p) xs [] pos) := by
  obtain ⟨h1, _, h3⟩ := okName_of hn
  obtain ⟨fa, fd, ps, kk, np, hm, hk, hb, hr, F, hbad, _⟩ := o.fns x f hl hlm
  have fin : ∀ σ H Q, tE (Kx.mk X.K Tt Ee xc) (evalE gl cal (.call f es)) σ H Q → tCall (spD (Kx.mk X.K Tt Ee xc) np (cal f)) [] Ee (tA (Kx.mk X.K Tt Ee xc) (evalEs gl cal es)) σ H Q := by
    intro σ H Q q
    obtain ⟨F, ρ, S, env, w, ev, p⟩ := tE_args q
    refine ⟨F, ρ, S, env, w, ev, p.imp ?_⟩
    rintro vs H1 ⟨F, ρ, S, ds, w, r, q⟩
    rw [List.append_nil]
    refine ⟨?_, F, ρ, S, ds, w, r, q⟩
    by_cases hd : ds.length = np
    · rw [r.length]; exact hd
    · rw [hbad ds S hd] at q; exact q.elim
  have hpe : PE X (.Call (.Name x p) xs [] pos) (tE (Kx.mk X.K Tt Ee xc) (evalE gl cal (.call f es))) := by
    cases xs with
    | nil =>
      refine PE.imp (pe_call0 F hr (glo_of rfl hg) hm hk hb .nil (passes_call o.tk fun _ _ _ _ h => h) h1) fun σ H Q q => ?_
      obtain ⟨F, ρ, S, env, w, ev, p⟩ := fin σ H Q q
      cases hs
      have p : PostA (Kx.mk X.K Tt Ee xc) F H ρ _ (.ok [] S) := p
      exact p [] H ρ (Stp.refl w) .nil
    | cons y ys =>
      have hst := hs.star
      simp only [List.all_cons, Bool.and_eq_true] at hst
      exact PE.imp (pe_call F hr (glo_of rfl hg) hm hk hb .nil (passes_call o.tk fun _ _ _ _ h => h) hs.pa h1 (star_one hst.1) (star_any hst.2)) fin
  exact ⟨hpe, rfl, fun _ => pt_plain hpe fun _ => rfl⟩
theorem repA_pick {K : Kx} {G : Hp} {ρ : List Addr} {zs : List V} {es : List D} (r : RepA K.K G ρ zs es) : ∀ perm : List Nat, RepA K.K G ρ (perm.filterMap fun i => zs[i]?) (perm.filterMap fun i => es[i]?)
  | [] => .nil
  | i :: perm => by
    have ih := repA_pick r perm
    rw [List.filterMap_cons, List.filterMap_cons]
    cases hz : zs[i]? with
    | none =>
      have : es[i]? = none := by
        rw [List.getElem?_eq_none_iff] at hz ⊢
        rw [← r.length]
        exact hz
      rw [this]
      exact ih
    | some v =>
      obtain ⟨d, h1, h2⟩ := r.get' hz
      rw [h1]
      exact .cons h2 ih
theorem repA_plc {K : Kx} {G : Hp} {ρ : List Addr} {vs zs : List V} {ds es : List D} (r1 : RepA K.K G ρ vs ds) (r2 : RepA K.K G ρ zs es) (n k : Nat) (perm : List Nat) : RepA K.K G ρ (plc n k perm vs zs) (plc n k perm ds es) := by
  unfold plc
  rw [r1.length, r2.length]
  split
  · exact r1.append (repA_pick r2 perm)
  · exact .nil
theorem kw_facts {kws : List Keyword} {ks : List Str} (h : kws.map (·.arg) = ks.map some) (env : PySem.Env) (pos : Pos) : (backToKw pos (keywordEach kws env)).all (·.1.isSome) = true ∧ (backToKw pos (keywordEach kws env)).filterMap (·.1) = ks ∧ (backToKw pos (keywordEach kws env)).any (·.1.isNone) = false := by
  induction kws generalizing ks with
  | nil =>
    cases ks with
    | nil => exact ⟨rfl, rfl, rfl⟩
    | cons _ _ => cases h
  | cons kw kws ih =>
    cases ks with
    | nil => cases h
    | cons k ks =>
      obtain ⟨a, v, p⟩ := kw
      rw [List.map_cons, List.map_cons, List.cons.injEq] at h
      obtain ⟨h1, h2⟩ := h
      have h1 : a = some k := h1
      subst h1
      obtain ⟨i1, i2, i3⟩ := ih h2
      refine ⟨?_, ?_, ?_⟩
      · show (true && (backToKw pos (keywordEach kws env)).all (·.1.isSome)) = true
        rw [i1]
        rfl
      · show k :: (backToKw pos (keywordEach kws env)).filterMap (·.1) = k :: ks
        rw [i2]
      · show (false || (backToKw pos (keywordEach kws env)).any (·.1.isNone)) = false
        rw [i3]
        rfl
theorem SndAll.pk : ∀ {es : List E} {kws : List Keyword}, SndAll gl cal Tt Ee xc X es (kws.map (·.value)) → PK X kws (tA (Kx.mk X.K Tt Ee xc) (evalEs gl cal es))
  | es, [], h => by
    cases h
    refine ⟨fun pos pins s σ H Q I q => pk_nil.run pos pins s σ H Q I ?_⟩
    obtain ⟨F, ρ, S, env, w, ev, q⟩ := q
    exact q [] H ρ (Stp.refl w) .nil
  | es, ⟨nm, x, kp⟩ :: kws, h => by
    cases h with
    | @cons e es _ _ a b =>
      refine ⟨fun pos pins s σ H Q I q => (pk_cons a.pe (SndAll.pk b)).run pos pins s σ H Q I ?_⟩
      obtain ⟨F, ρ, S, env, w, ev, q⟩ := q
      simp only [evalEs] at q
      refine ⟨F, ρ, S, env, w, ev, (PostA.bind q).imp ?_⟩
      rintro v H1 ⟨ρ1, S1, d, s, r, p1⟩
      refine ⟨F, ρ1, S1, env, s.wf, ev.le s.le s.pre, (PostA.bindA p1).imp ?_⟩
      rintro vs H2 ⟨ρ2, S2, ds, s2, r2, p2⟩
      exact p2 _ _ _ (Stp.refl s2.wf) (.cons (s2.rep r) r2)
/-- f(k = v, ..), nothing by position -/
theorem pe_callK0 {CX : CXT} {k : Nat} {f : Addr} {fd : FuncData} {ps ks : List Str} {sp : Sp} {E : XK} {x : Str} {p pos : Pos} {kws : List Keyword} {tk : TA} {g : List Value → List Value → List Value} {gV : List V → List V → List V}
    (F : FnOk X.prog X.w X.K X.mg X.base CX k f fd ps sp) (hr : Room k X.A) (hg : Gl X x) (hm : X.mg x = some (.ref f)) (hk : PySem.W.keepIn X.K (.ref f) = true) (hb : KBinds X.K fd ps ks g gV) (hx : Passes CX X E)
    (hkw : PK X kws tk) (hall : (backToKw pos (keywordEach kws X.env)).all (·.1.isSome) = true) (hks : (backToKw pos (keywordEach kws X.env)).filterMap (·.1) = ks)
    (hdb : (x == ("__debug__" : Str)) = false) (hpl : ((backTo pos (starEach [] X.env)).any (·.1) || (backToKw pos (keywordEach kws X.env)).any (·.1.isNone)) = false) :
    PE X (.Call (.Name x p) [] kws pos) (fun σ H Q => tk σ H fun zs H1 => sp (gV [] zs) H1 Q E) := by
  refine ⟨fun pins s σ H Q I h => ?_⟩
  refine wpAny_Call_Name_kw (ld_glob I hg hm ?_ hdb)
  refine PySem.W.callWith_KW0 (h₀ := X.base) (first := []) I.ok.mod.kin hk hall (thn (hkw.run pos pins s σ H _ I h) fun ws s2 ⟨zs, H2, I2, rz, q2⟩ => ⟨I2.kIn, ?_⟩) hpl
  rw [hks]
  exact run_fnk (us := []) (vs := []) F hr hb hx I2 .nil rz q2
theorem callK_snd (o : XOk cf gl cal N Tt Ee xc X) {f n : Nat} {ks : List Str} {perm : List Nat} {es kes : List E} {xs : List Expr} {kws : List Keyword} {x : Str} {p pos : Pos} (hl : cf.fns.lookup x = some f) (hlm : (cf.lm || !cf.lms.contains f) = true) (hg : gloOf X.env.scope x = true) (hn : okName x = true) (hkk : kws.map (·.arg) = ks.map some) (hin : (f, n, ks, perm) ∈ cf.kws)
    (hs : SndAll gl cal Tt Ee xc X es xs) (hks : SndAll gl cal Tt Ee xc X kes (kws.map (·.value))) : SndOk gl cal Tt Ee xc X (.callK f n ks perm es kes) (.Call (.Name x p) xs kws pos) := by
  obtain ⟨h1, _, h3⟩ := okName_of hn
  obtain ⟨fa, fd, ps, kk, np, hm, hk, hb, hr, F, hbad, hkb⟩ := o.fns x f hl hlm
  have KB := hkb n ks perm hin
  obtain ⟨k1, k2, k3⟩ := kw_facts hkk X.env pos
  have fin : ∀ σ H Q, tE (Kx.mk X.K Tt Ee xc) (evalE gl cal (.callK f n ks perm es kes)) σ H Q → tCallK (spD (Kx.mk X.K Tt Ee xc) np (cal f)) (plc n ks.length perm) Ee (tA (Kx.mk X.K Tt Ee xc) (evalEs gl cal es)) (tA (Kx.mk X.K Tt Ee xc) (evalEs gl cal kes)) σ H Q := by
    rintro σ H Q ⟨F, ρ, S, env, w, ev, q⟩
    simp only [evalE] at q
    refine ⟨F, ρ, S, env, w, ev, (Post.bindA q).imp ?_⟩
    rintro vs H1 ⟨ρ1, S1, ds, s1, r1, q1⟩
    refine ⟨F, ρ1, S1, env, s1.wf, ev.le s1.le s1.pre, (Post.bindA q1).imp ?_⟩
    rintro zs H2 ⟨ρ2, S2, ws, s2, r2, q2⟩
    have r := repA_plc (s2.repA r1) r2 n ks.length perm
    refine ⟨?_, F, ρ2, S2, _, s2.wf, r, q2⟩
    by_cases hd : (plc n ks.length perm ds ws).length = np
    · rw [r.length]; exact hd
    · rw [hbad _ S2 hd] at q2; exact q2.elim
  have hpe : PE X (.Call (.Name x p) xs kws pos) (tE (Kx.mk X.K Tt Ee xc) (evalE gl cal (.callK f n ks perm es kes))) := by
    cases xs with
    | nil =>
      refine PE.imp (pe_callK0 F hr (glo_of rfl hg) hm hk KB (passes_call o.tk fun _ _ _ _ h => h) hks.pk k1 k2 h1 (by show (false || _) = false; rw [k3]; rfl)) fun σ H Q q => ?_
      obtain ⟨F, ρ, S, env, w, ev, q⟩ := fin σ H Q q
      cases hs
      have q : PostA (Kx.mk X.K Tt Ee xc) F H ρ _ (.ok [] S) := q
      exact q [] H ρ (Stp.refl w) .nil
    | cons y ys =>
      have hst := hs.star
      exact PE.imp (pe_callK F hr (glo_of rfl hg) hm hk KB (passes_call o.tk fun _ _ _ _ h => h) hs.pa hks.pk k1 k2 h1 (by simp only [List.all_cons, Bool.and_eq_true] at hst; exact star_one hst.1) (by rw [star_any hst, k3]; rfl)) fin
  exact ⟨hpe, rfl, fun _ => pt_plain hpe fun _ => rfl⟩
theorem alloc_snd {es : List E} {xs : List Expr} {pos : Pos} (hs : SndAll gl cal Tt Ee xc X es xs) : SndOk gl cal Tt Ee xc X (.alloc es) (.List xs pos) := by
  have hpe : PE X (.List xs pos) (tE (Kx.mk X.K Tt Ee xc) (evalE gl cal (.alloc es))) := by
    refine PE.imp (pe_lst hs.pa) fun σ H Q q => ?_
    obtain ⟨F, ρ, S, env, w, ev, p⟩ := tE_args q
    refine ⟨F, ρ, S, env, w, ev, p.imp ?_⟩
    rintro vs H1 ⟨F, ρ, S, ds, w, r, q⟩
    have q : Post (Kx.mk X.K Tt Ee xc) F H1 ρ Q (if ds.length ≤ sizeLine ∧ D.clns ds = true then Res.ok (D.loc (List.length S)) (S ++ [SO.lst ds]) else Res.stuck) := q
    by_cases hz : ds.length ≤ sizeLine ∧ D.clns ds = true
    · rw [if_pos hz] at q
      refine ⟨by rw [r.length]; exact hz.1, fun p hp => q _ _ _ (w.alloc hp r hz.1 hz.2) (.loc ?_)⟩
      rw [← w.len, List.getElem?_append_right (Nat.le_refl _)]
      simp
    · rw [if_neg hz] at q
      exact q.elim
  exact ⟨hpe, rfl, fun _ => pt_plain hpe fun _ => rfl⟩
theorem rep_bl {K : Kx} {G : Hp} {ρ : List Addr} {v : V} {b : Bool} (r : Rep K.K G ρ v (.bl b)) : v = .bl b := by cases r; rfl
theorem truth_bl {F : Fs} {ρ : List Addr} {H : Hp} {Q : VK} {K : Kx} {d : D} {S : Store} {g : Bool → M D} (p : Post K F H ρ Q (M.bind (truth d) g S)) : ∃ b, d = .bl b ∧ Post K F H ρ Q (g b S) := by
  cases d <;> first | exact ⟨_, rfl, p⟩ | exact p.elim
theorem truth_blB {F : Fs} {ρ : List Addr} {H : Hp} {Q : Bool → Hp → Prop} {K : Kx} {d : D} {S : Store} {g : Bool → M Bool} (p : PostB K F H ρ Q (M.bind (truth d) g S)) : ∃ b, d = .bl b ∧ PostB K F H ρ Q (g b S) := by
  cases d <;> first | exact ⟨_, rfl, p⟩ | exact p.elim
theorem PostB.bindB {K : Kx} {F : Fs} {ρ : List Addr} {H : Hp} {Q : Bool → Hp → Prop} {m : M Bool} {g : Bool → M Bool} {S : Store} (h : PostB K F H ρ Q (M.bind m g S)) :
    PostB K F H ρ (fun d H1 => ∃ ρ1 S1, Stp K F H ρ H1 ρ1 S1 ∧ PostB K F H1 ρ1 Q (g d S1)) (m S) := by
  have p := h
  unfold M.bind at p
  cases q : m S with
  | ok d S1 =>
    rw [q] at p
    exact fun H1 ρ1 s => ⟨ρ1, S1, s, p.from s⟩
  | exc _ _ => rw [q] at p; exact p
  | stuck => rw [q] at p; exact p
/-- a test, then what hangs on it -/
theorem tB_then {f : Env → M Bool} {g : Bool → Env → M D} {σ : L2.St} {H : Hp} {Q : VK} {K : Kx} (h : tE K (fun env => M.bind (f env) fun b => g b env) σ H Q) : Z.tB K f σ H fun b H1 => tE K (g b) σ H1 Q := by
  obtain ⟨F, ρ, S, env, w, e, p⟩ := h
  refine ⟨F, ρ, S, env, w, e, (Post.bindB p).imp ?_⟩
  rintro v H1 ⟨ρ1, S1, s, p1⟩
  exact ⟨F, ρ1, S1, env, s.wf, e.le s.le s.pre, p1⟩
theorem tB_thenB {f : Env → M Bool} {g : Bool → Env → M Bool} {σ : L2.St} {H : Hp} {Q : Bool → Hp → Prop} {K : Kx} (h : Z.tB K (fun env => M.bind (f env) fun b => g b env) σ H Q) : Z.tB K f σ H fun b H1 => Z.tB K (g b) σ H1 Q := by
  obtain ⟨F, ρ, S, env, w, e, p⟩ := h
  refine ⟨F, ρ, S, env, w, e, (PostB.bindB p).imp ?_⟩
  rintro v H1 ⟨ρ1, S1, s, p1⟩
  exact ⟨F, ρ1, S1, env, s.wf, e.le s.le s.pre, p1⟩
theorem tE_bool {f : Env → M D} {g : Bool → Env → M D} {σ : L2.St} {H : Hp} {Q : VK} {K : Kx} (h : tE K (fun env => M.bind (f env) fun d => M.bind (truth d) fun b => g b env) σ H Q) : tE K f σ H fun v H1 => ∃ b, v = .bl b ∧ tE K (g b) σ H1 Q := by
  obtain ⟨F, ρ, S, env, w, e, p⟩ := h
  refine ⟨F, ρ, S, env, w, e, (Post.bind p).imp ?_⟩
  rintro v H1 ⟨ρ1, S1, d, s, r, p1⟩
  obtain ⟨b, rfl, p2⟩ := truth_bl p1
  exact ⟨b, rep_bl r, F, ρ1, S1, env, s.wf, e.le s.le s.pre, p2⟩
theorem tE_end {g : Env → M D} {σ : L2.St} {H : Hp} {Q : VK} {K : Kx} {b : Bool} (hg : ∀ env, g env = okB b) (h : tE K g σ H Q) : Q (.bl b) H := by
  obtain ⟨F, ρ, S, env, w, e, p⟩ := h
  rw [hg] at p
  exact p _ _ _ (Stp.refl w) (.bl b)
theorem tB_end {g : Env → M Bool} {σ : L2.St} {H : Hp} {Q : Bool → Hp → Prop} {K : Kx} {b : Bool} (hg : ∀ env, g env = M.ret b) (h : Z.tB K g σ H Q) : Q b H := by
  obtain ⟨F, ρ, S, env, w, e, p⟩ := h
  rw [hg] at p
  exact p _ _ (Stp.refl w)
theorem truth_okB (b : Bool) : M.bind (okB b) truth = M.ret b := rfl
theorem tB_eq {f g : Env → M Bool} {K : Kx} (h : ∀ env, f env = g env) : Z.tB K f = Z.tB K g := by rw [funext h]
theorem not_snd {a : E} {x : Expr} {p : Pos} (ht : tst a = true) (h : SndOk gl cal Tt Ee xc X a x) : SndOk gl cal Tt Ee xc X (.not a) (.UnaryOp .Not x p) := by
  refine ⟨?_, rfl, fun _ => ?_⟩
  · refine PE.imp (pe_not h.pe) fun σ H Q q => ?_
    obtain ⟨F, ρ, S, env, w, ev, p⟩ := tE_bool (f := evalE gl cal a) (g := fun b _ => okB (!b)) q
    refine ⟨F, ρ, S, env, w, ev, p.imp ?_⟩
    rintro v H1 ⟨b, rfl, q1⟩
    exact ⟨b, rfl, tE_end (fun _ => rfl) q1⟩
  · refine PT.imp (pt_not (h.pt ht)) fun σ H Q q => ?_
    have q : Z.tB (Kx.mk X.K Tt Ee xc) (fun env => M.bind (M.bind (evalE gl cal a env) truth) fun b => M.ret (!b)) σ H Q := by
      rw [tB_eq (g := fun env => M.bind (evalE gl cal (.not a) env) truth)]
      · exact q
      · intro env
        simp only [evalE, M.bind_assoc, truth_okB]
    obtain ⟨F, ρ, S, env, w, ev, p⟩ := tB_thenB (f := fun env => M.bind (evalE gl cal a env) truth) (g := fun b _ => M.ret (!b)) q
    refine ⟨F, ρ, S, env, w, ev, p.imp ?_⟩
    intro b H1 q1
    exact tB_end (fun _ => rfl) q1
theorem bool_pe {conj : Bool} {op : BoolOp} (ho : op = if conj = true then .And else .Or) {p : Pos} : ∀ {es : List E} {xs : List Expr}, es ≠ [] → SndAll gl cal Tt Ee xc X es xs → PE X (.BoolOp op xs p) (tE (Kx.mk X.K Tt Ee xc) (evalBool gl cal conj es))
  | [], _, hn, _ => absurd rfl hn
  | [e], xs, _, hs => by
    cases hs with
    | cons h1 hs =>
      cases hs
      refine PE.imp (pe_one h1.pe) fun σ H Q q => ?_
      obtain ⟨F, ρ, S, env, w, ev, p⟩ := tE_bool (f := evalE gl cal e) (g := fun b _ => okB b) q
      refine ⟨F, ρ, S, env, w, ev, p.imp ?_⟩
      rintro v H1 ⟨b, rfl, q1⟩
      exact tE_end (fun _ => rfl) q1
  | e :: e2 :: es, xs, _, hs => by
    cases hs with
    | cons h1 hs =>
      have ih := bool_pe ho (p := p) (List.cons_ne_nil e2 es) hs
      cases hs with
      | cons h2 hs =>
        cases conj with
        | true =>
          subst ho
          refine PE.imp (pe_and h1.pe ih) fun σ H Q q => ?_
          obtain ⟨F, ρ, S, env, w, ev, p⟩ := tE_bool (f := evalE gl cal e) (g := fun b env => if b = true then evalBool gl cal true (e2 :: es) env else okB b) q
          refine ⟨F, ρ, S, env, w, ev, p.imp ?_⟩
          rintro v H1 ⟨b, rfl, q1⟩
          refine ⟨b, rfl, ?_⟩
          cases b with
          | true => exact q1
          | false => exact tE_end (fun _ => rfl) q1
        | false =>
          subst ho
          refine PE.imp (pe_or h1.pe ih) fun σ H Q q => ?_
          obtain ⟨F, ρ, S, env, w, ev, p⟩ := tE_bool (f := evalE gl cal e) (g := fun b env => if b = false then evalBool gl cal false (e2 :: es) env else okB b) q
          refine ⟨F, ρ, S, env, w, ev, p.imp ?_⟩
          rintro v H1 ⟨b, rfl, q1⟩
          refine ⟨b, rfl, ?_⟩
          cases b with
          | true => exact tE_end (fun _ => rfl) q1
          | false => exact q1
theorem bool_pw {conj : Bool} {op : BoolOp} (ho : op = if conj = true then .And else .Or) {p : Pos} : ∀ {es : List E} {xs : List Expr}, es ≠ [] → (es.all tst) = true → SndAll gl cal Tt Ee xc X es xs → PW X (.BoolOp op xs p) (Z.tB (Kx.mk X.K Tt Ee xc) fun env => M.bind (evalBool gl cal conj es env) truth)
  | [], _, hn, _, _ => absurd rfl hn
  | [e], xs, _, ht, hs => by
    simp only [List.all_cons, Bool.and_eq_true] at ht
    cases hs with
    | cons h1 hs =>
      cases hs
      have fin : ∀ σ H Q, Z.tB (Kx.mk X.K Tt Ee xc) (fun env => M.bind (evalBool gl cal conj [e] env) truth) σ H Q → Z.tB (Kx.mk X.K Tt Ee xc) (fun env => M.bind (evalE gl cal e env) truth) σ H Q := by
        intro σ H Q q
        rw [tB_eq (g := fun env => M.bind (evalBool gl cal conj [e] env) truth)]
        · exact q
        · intro env
          simp only [evalBool, M.bind_assoc, truth_okB, M.bind_ret]
      cases conj with
      | true => subst ho; exact PW.imp (pw_and1 (h1.pt ht.1)) fin
      | false => subst ho; exact PW.imp (pw_or1 (h1.pt ht.1)) fin
  | e :: e2 :: es, xs, _, ht, hs => by
    simp only [List.all_cons, Bool.and_eq_true] at ht
    cases hs with
    | cons h1 hs =>
      have ih := bool_pw ho (p := p) (List.cons_ne_nil e2 es) (by simp only [List.all_cons, Bool.and_eq_true]; exact ht.2) hs
      have fin : ∀ σ H Q, Z.tB (Kx.mk X.K Tt Ee xc) (fun env => M.bind (evalBool gl cal conj (e :: e2 :: es) env) truth) σ H Q → Z.tB (Kx.mk X.K Tt Ee xc) (fun env => M.bind (M.bind (evalE gl cal e env) truth) fun b => if b = conj then M.bind (evalBool gl cal conj (e2 :: es) env) truth else M.ret b) σ H Q := by
        intro σ H Q q
        rw [tB_eq (g := fun env => M.bind (evalBool gl cal conj (e :: e2 :: es) env) truth)]
        · exact q
        · intro env
          simp only [evalBool, M.bind_assoc]
          congr 1
          funext d
          congr 1
          funext b
          by_cases hb : b = conj
          · rw [if_pos hb, if_pos hb]
          · rw [if_neg hb, if_neg hb, truth_okB]
      cases hs with
      | cons h2 hs =>
        cases conj with
        | true =>
          subst ho
          refine PW.imp (pw_and (h1.pt ht.1) ih) fun σ H Q q => ?_
          obtain ⟨F, ρ, S, env, w, ev, p⟩ := tB_thenB (f := fun env => M.bind (evalE gl cal e env) truth) (g := fun b env => if b = true then M.bind (evalBool gl cal true (e2 :: es) env) truth else M.ret b) (fin σ H Q q)
          refine ⟨F, ρ, S, env, w, ev, p.imp ?_⟩
          intro b H1 q1
          cases b with
          | true => exact q1
          | false => exact tB_end (fun _ => rfl) q1
        | false =>
          subst ho
          refine PW.imp (pw_or (h1.pt ht.1) ih) fun σ H Q q => ?_
          obtain ⟨F, ρ, S, env, w, ev, p⟩ := tB_thenB (f := fun env => M.bind (evalE gl cal e env) truth) (g := fun b env => if b = false then M.bind (evalBool gl cal false (e2 :: es) env) truth else M.ret b) (fin σ H Q q)
          refine ⟨F, ρ, S, env, w, ev, p.imp ?_⟩
          intro b H1 q1
          cases b with
          | true => exact tB_end (fun _ => rfl) q1
          | false => exact q1
theorem bool_snd {conj : Bool} {op : BoolOp} (ho : op = if conj = true then .And else .Or) {p : Pos} {es : List E} {xs : List Expr} (hn : es ≠ []) (ht : (es.all tst) = true) (hs : SndAll gl cal Tt Ee xc X es xs) : SndOk gl cal Tt Ee xc X (.bool conj es) (.BoolOp op xs p) :=
  ⟨PE.imp (bool_pe ho hn hs) fun σ H Q q => by simpa only [evalE] using q, rfl, fun _ => (PW.imp (bool_pw ho hn ht hs) fun σ H Q q => by simpa only [evalE] using q).pt⟩
theorem ife_snd {t a b : E} {t' a' b' : Expr} {p : Pos} (ht : tst t = true) (h1 : SndOk gl cal Tt Ee xc X t t') (h2 : SndOk gl cal Tt Ee xc X a a') (h3 : SndOk gl cal Tt Ee xc X b b') : SndOk gl cal Tt Ee xc X (.ife t a b) (.IfExp t' a' b' p) := by
  refine ⟨?_, rfl, fun z => by cases z⟩
  refine PE.imp (pe_ifExp (h1.pt ht) h2.pe h3.pe) fun σ H Q q => ?_
  have q : tE (Kx.mk X.K Tt Ee xc) (fun env => M.bind (M.bind (evalE gl cal t env) truth) fun c => if c = true then evalE gl cal a env else evalE gl cal b env) σ H Q := by
    simp only [evalE] at q
    simp only [M.bind_assoc]
    exact q
  obtain ⟨F, ρ, S, env, w, ev, p⟩ := tB_then (f := fun env => M.bind (evalE gl cal t env) truth) (g := fun c env => if c = true then evalE gl cal a env else evalE gl cal b env) q
  refine ⟨F, ρ, S, env, w, ev, p.imp ?_⟩
  intro c H1 q1
  cases c with
  | true => exact q1
  | false => exact q1
theorem chain_snd (o : XOk cf gl cal N Tt Ee xc X) {o1 o2 : CmpOp} {a b c : E} {a' b' c' : Expr} {p : Pos} (hm : behindInMarks o2 c' = false) (h1 : SndOk gl cal Tt Ee xc X a a') (h2 : SndOk gl cal Tt Ee xc X b b') (h3 : SndOk gl cal Tt Ee xc X c c') :
    SndOk gl cal Tt Ee xc X (.chain o1 o2 a b c) (.Compare a' [o1, o2] [b', c'] p) := by
  have hu : X.A.units + many + 5 < cLine := by have := o.hu; omega
  have fin : ∀ σ H Q, tE (Kx.mk X.K Tt Ee xc) (evalE gl cal (.chain o1 o2 a b c)) σ H Q → tChain (r2 (Kx.mk X.K Tt Ee xc) (cmpSem o1)) (r2 (Kx.mk X.K Tt Ee xc) (cmpSem o2)) (tE (Kx.mk X.K Tt Ee xc) (evalE gl cal a)) (tE (Kx.mk X.K Tt Ee xc) (evalE gl cal b)) (tE (Kx.mk X.K Tt Ee xc) (evalE gl cal c)) σ H Q := by
    rintro σ H Q ⟨F, ρ, S, env, w, ev, q⟩
    simp only [evalE] at q
    refine ⟨F, ρ, S, env, w, ev, (Post.bind q).imp ?_⟩
    rintro v1 H1 ⟨ρ1, S1, d1, s1, r1, q1⟩
    refine ⟨F, ρ1, S1, env, s1.wf, ev.le s1.le s1.pre, (Post.bind q1).imp ?_⟩
    rintro v2 H2 ⟨ρ2, S2, d2, s2, r2, q2⟩
    refine ⟨F, ρ2, S2, d1, d2, s2.wf, s2.rep r1, r2, (Post.bind q2).imp ?_⟩
    rintro v3 H3 ⟨ρ3, S3, d3, s3, r3, q3⟩
    obtain ⟨k, rfl, q4⟩ := truth_bl q3
    refine ⟨k, rep_bl r3, ?_⟩
    cases k with
    | false => exact q4 _ _ _ (Stp.refl s3.wf) (.bl false)
    | true =>
      refine ⟨F, ρ3, S3, env, s3.wf, ev.le (fun a o e => s3.le a o (s2.le a o (s1.le a o e))) ((s1.pre.trans s2.pre).trans s3.pre), (Post.bind q4).imp ?_⟩
      rintro v4 H4 ⟨ρ4, S4, d4, s4, r4, q5⟩
      exact ⟨F, ρ4, S4, d2, d4, s4.wf, s4.rep (s3.rep r2), r4, q5⟩
  exact ⟨PE.imp (pe_chain (cmp_all hu o1) (cmp_all hu o2) h1.pe h2.pe h3.pe hm) fin, rfl, fun _ => pt_test (pt_chain (cmp_all hu o1) (cmp_all hu o2) h1.pe h2.pe h3.pe hm) fin⟩
theorem bind_truth_ifs {gl : Nat → Option D} {cal : Nat → List D → M D} {e : E} {env : Env} : evalIfs gl cal [e] env = M.bind (evalE gl cal e env) truth := by
  simp only [evalIfs]
  congr 1
  funext d
  rw [← M.bind_ret (truth d)]
  rw [M.bind_assoc]
  congr 1
  funext b
  cases b <;> rfl
theorem pts_snd {es : List E} {xs : List Expr} (hl : es.length ≤ 1) (ht : (es.all tst) = true) (hs : SndAll gl cal Tt Ee xc X es xs) : PTs X xs (Z.tB (Kx.mk X.K Tt Ee xc) (evalIfs gl cal es)) := by
  cases hs with
  | nil =>
    refine PTs.imp pts_nil fun σ H Q q => ?_
    exact tB_end (fun _ => by simp only [evalIfs]) q
  | @cons e es x xs h1 hs =>
    cases hs with
    | cons _ _ => simp at hl
    | nil =>
      simp only [List.all_cons, Bool.and_eq_true] at ht
      refine PTs.imp (pts_one (h1.pt ht.1)) fun σ H Q q => ?_
      rw [tB_eq (g := evalIfs gl cal [e])]
      · exact q
      · intro env; exact bind_truth_ifs.symm
theorem src_snd (o : XOk cf gl cal N Tt Ee xc X) {k : SK} {tg it : Expr} {xs : List Expr} {es : List E} (hv : srcView X.env.scope tg it k = some xs) (hs : SndAll gl cal Tt Ee xc X es xs) : PI X tg it (tI (Kx.mk X.K Tt Ee xc) fun env => M.bind (evalEs gl cal es env) (srcItems k)) := by
  cases k with
  | val =>
    cases hv
    obtain ⟨e, rfl, h1⟩ := single_of hs
    refine PI.imp (src_val h1.pe) fun σ H R q => ?_
    have e1 : (fun env => M.bind (evalEs gl cal [e] env) (srcItems .val)) = fun env => M.bind (evalE gl cal e env) fun d => srcItems .val [d] := by
      funext env
      simp only [evalEs_cons, evalEs_nil]
    rw [e1] at q
    exact q
  | range1 =>
    simp only [srcView] at hv
    split at hv
    · split at hv
      · rename_i hx
        cases hv
        simp only [Bool.and_eq_true] at hx
        obtain ⟨hx, hg⟩ := hx
        have hx := eq_of_beq hx
        subst hx
        have hst := hs.star
        simp only [List.all_cons, Bool.and_eq_true] at hst
        exact src_range1 (glo_of rfl hg) (o.blt _ (by decide +kernel)) hs.pa (by rw [star_one hst.1]; rfl)
      · cases hv
    · cases hv
  | range2 =>
    simp only [srcView] at hv
    split at hv
    · split at hv
      · rename_i hx
        cases hv
        simp only [Bool.and_eq_true] at hx
        obtain ⟨hx, hg⟩ := hx
        have hx := eq_of_beq hx
        subst hx
        have hst := hs.star
        simp only [List.all_cons, Bool.and_eq_true] at hst
        exact src_range2 (glo_of rfl hg) (o.blt _ (by decide +kernel)) hs.pa (by rw [star_one hst.1, star_one hst.2.1]; rfl) (by rw [star_one hst.2.1]; rfl)
      · cases hv
    · cases hv
  | enum =>
    simp only [srcView] at hv
    split at hv
    · split at hv
      · rename_i hx
        cases hv
        simp only [Bool.and_eq_true] at hx
        obtain ⟨hx, hg⟩ := hx
        have hx := eq_of_beq hx
        subst hx
        have hst := hs.star
        simp only [List.all_cons, Bool.and_eq_true] at hst
        exact src_enum (glo_of rfl hg) (o.blt _ (by decide +kernel)) hs.pa (by rw [star_one hst.1]; rfl)
      · cases hv
    · cases hv
  | zip =>
    simp only [srcView] at hv
    split at hv
    · split at hv
      · rename_i hx
        cases hv
        simp only [Bool.and_eq_true] at hx
        obtain ⟨hx, hg⟩ := hx
        have hx := eq_of_beq hx
        subst hx
        have hst := hs.star
        simp only [List.all_cons, Bool.and_eq_true] at hst
        exact src_zip (glo_of rfl hg) (o.blt _ (by decide +kernel)) hs.pa (star_one hst.1) (star_any (by simp only [List.all_cons, Bool.and_eq_true]; exact hst.2))
      · cases hv
    · cases hv
theorem noSet_ok {e : Expr} {env : PySem.Env} {x : Value} (h : noSet e = true) : foldedSetIterable e env x = pure x := by
  cases e <;> first | rfl | cases h
theorem locOf_blk {scope sc : Scope} {x : Str} (h : locOf scope x = true) : Loc (relS scope sc) x ∧ ((scope.names.lookup x == some .cell) = true ∨ (relS scope sc).names.lookup x = some .local) := by
  unfold locOf at h
  cases q : scope.names.lookup x with
  | none => rw [q] at h; cases h
  | some k =>
    rw [q] at h
    cases k with
    | «local» =>
      have e := lookup_relS_keep (sc := sc) (k := .local) (by decide) q
      exact ⟨.inl e, .inr e⟩
    | cell =>
      have e := lookup_relS_keep (sc := sc) (k := .cell) (by decide) q
      exact ⟨.inr e, .inl (by simp)⟩
    | _ => cases h
mutual
theorem sndE : ∀ (e : E) (cf : Cfg) (Ee : XK) (X : Cx) (ex : Expr), XOk cf gl cal N Tt Ee xc X → chkE cf N X.env.scope e ex = true → SndOk gl cal Tt Ee xc X e ex
  | .const d, cf, Ee, X, ex, o, h => by
    simp only [chkE] at h
    split at h
    · exact ⟨const_ok h, rfl, fun _ => pt_plain (const_ok h) fun _ => rfl⟩
    · cases h
  | .var i, cf, Ee, X, ex, o, h => by
    simp only [chkE] at h
    split at h
    · exact ⟨var_ok o.nm h, rfl, fun _ => pt_plain (var_ok o.nm h) fun _ => rfl⟩
    · cases h
  | .glob g, cf, Ee, X, ex, o, h => by
    simp only [chkE] at h
    split at h
    · exact ⟨glob_ok o h, rfl, fun _ => pt_plain (glob_ok o h) fun _ => rfl⟩
    · cases h
  | .op hd es, cf, Ee, X, ex, o, h => by
    simp only [chkE] at h
    split at h
    · rename_i h' xs hv
      simp only [Bool.and_eq_true, decide_eq_true_eq] at h
      obtain ⟨⟨h1, h2⟩, h3⟩ := h
      subst h1
      exact op_snd o (view_shape hv) h2 (sndEs es cf Ee X xs o h3)
    · cases h
  | .alloc es, cf, Ee, X, ex, o, h => by
    simp only [chkE] at h
    split at h
    · exact alloc_snd (sndEs es cf Ee X _ o h)
    · cases h
  | .call f es, cf, Ee, X, ex, o, h => by
    simp only [chkE] at h
    split at h
    · simp only [Bool.and_eq_true, decide_eq_true_eq] at h
      exact call_snd o h.1.1.1.1 h.1.1.1.2 h.1.1.2 h.1.2 (sndEs es cf Ee X _ o h.2)
    · cases h
  | .callK f n ks perm es kes, cf, Ee, X, ex, o, h => by
    simp only [chkE] at h
    split at h
    · simp only [Bool.and_eq_true, decide_eq_true_eq] at h
      obtain ⟨⟨⟨⟨⟨⟨⟨⟨h1, h0⟩, h2⟩, h3⟩, h4⟩, h5⟩, h6⟩, h7⟩, h8⟩ := h
      exact callK_snd o h1 h0 h2 h3 h5 h6 (sndEs es cf Ee X _ o h7) (sndEs kes cf Ee X _ o h8)
    · cases h
  | .chain o1 o2 a b c, cf, Ee, X, ex, o, h => by
    simp only [chkE] at h
    split at h
    · simp only [Bool.and_eq_true, decide_eq_true_eq, Bool.not_eq_true'] at h
      obtain ⟨⟨⟨⟨⟨h1, h2⟩, h3⟩, h4⟩, h5⟩, h6⟩ := h
      subst h1 h2
      exact chain_snd o h3 (sndE a cf Ee X _ o h4) (sndE b cf Ee X _ o h5) (sndE c cf Ee X _ o h6)
    · cases h
  | .not a, cf, Ee, X, ex, o, h => by
    simp only [chkE] at h
    split at h
    · simp only [Bool.and_eq_true] at h
      exact not_snd h.1 (sndE a cf Ee X _ o h.2)
    · cases h
  | .bool conj es, cf, Ee, X, ex, o, h => by
    simp only [chkE] at h
    split at h
    · simp only [Bool.and_eq_true, decide_eq_true_eq, Bool.not_eq_true'] at h
      obtain ⟨⟨⟨h1, h2⟩, h3⟩, h4⟩ := h
      exact bool_snd h1 (fun z => by rw [z] at h2; cases h2) h3 (sndEs es cf Ee X _ o h4)
    · cases h
  | .ife t a b, cf, Ee, X, ex, o, h => by
    simp only [chkE] at h
    split at h
    · simp only [Bool.and_eq_true] at h
      exact ife_snd h.1.1.1 (sndE t cf Ee X _ o h.1.1.2) (sndE a cf Ee X _ o h.1.2) (sndE b cf Ee X _ o h.2)
    · cases h
  | .comp own elt tg k es ifs, cf, Ee, X, ex, o, h => by
    simp only [chkE] at h
    split at h
    · split at h
      · rename_i elt' scope pos _ g
        simp only [Bool.and_eq_true, decide_eq_true_eq] at h
        obtain ⟨⟨⟨⟨⟨⟨⟨⟨⟨ha, hb⟩, ht⟩, hi⟩, hn⟩, hv⟩, hl⟩, hts⟩, hif⟩, he⟩ := h
        split at hv
        · rename_i xs hsv
          obtain ⟨tgx, it, ifs', as⟩ := g
          have ha : as = 0 := eq_of_beq ha
          subst ha
          have hpe : PE X (.ListComp elt' [⟨tgx, it, ifs', 0⟩] scope pos) (tE (Kx.mk X.K Tt Ee xc) (evalE gl cal (.comp own elt tg k es ifs))) := by
            have hN : X.N = N := o.nm
            refine comp_ok o.calm (by rw [hN]; exact o.nd) (by rw [hN]; exact blkOk_by hb) (by unfold ownN; rw [List.map_map]; exact List.map_id' own) (src_snd o hsv (sndEs es cf Ee X xs o hv)) (fun s H C cl fp => ?_) (fun s H C cl fp => ?_) (fun s H C cl fp => ?_) hi fun x => noSet_ok hn
            · exact sndT (X := X.blk s H scope (compEnvC scope cl C X.env) fp) (N := N) (ok := locOf scope) hN o.nd o.calm (fun x hx => locOf_blk hx) tg tgx ht
            · exact pts_snd hl hts (sndEs ifs { cf with lm := false } Z.nx (X.blk s H scope (compEnvC scope cl C X.env) fp) ifs' (o.blk _ _ _ _ _) hif)
            · exact (sndE elt { cf with lm := false } Z.nx (X.blk s H scope (compEnvC scope cl C X.env) fp) elt' (o.blk _ _ _ _ _) he).pe
          exact ⟨hpe, rfl, fun _ => pt_plain hpe fun _ => rfl⟩
        · cases hv
      · cases h
    · cases h
  | .got why e, cf, Ee, X, ex, o, h => by
    simp only [chkE] at h
    split at h
    · rename_i x p params body scope lpos pos
      simp only [Bool.and_eq_true, decide_eq_true_eq] at h
      obtain ⟨⟨⟨⟨⟨⟨h1, h2⟩, h3⟩, h4⟩, h5⟩, h6⟩, h7⟩ := h
      obtain ⟨c, P, rm, l1, l2, l3, l4, l5, l6, l7, l8⟩ := o.lam h1
      have hpe : PE X (.Call (.Name x p) [.Lambda params body scope lpos] [] pos) (tE (Kx.mk X.K Tt Ee xc) (evalE gl cal (.got why e))) := by
        have hg := (l7 x why h2).ok X Tt Ee rm rfl rfl rfl rfl o.calm l5 (glo_of rfl h3) (f := evalE gl cal e) (body := body) (p := p) (lpos := lpos) (pos := pos) l1 l2 l3 l4 h5 (LamX.lamS_by h6) fun A outer s H E fa c' hr => ?_
        · refine PE.imp hg fun σ H Q q => ?_
          obtain ⟨F, ρ, S, env, w, ev, p⟩ := q
          refine ⟨F, ρ, S, env, w, ev, ?_⟩
          simp only [evalE] at p
          exact p
        · refine (sndE e { cf with lm := false } E (LamX.lamCx X A outer s H E scope fa c') body ⟨o.nm, o.nd, rfl, ?_, o.blt, o.glo, fun x f g1 g2 => ?_, takes_of rfl rfl rfl rfl, fun z => by cases z⟩ h7).pe
          · have := hr.un
            unfold many
            show (LamX.lamCx X A outer s H E scope fa c').A.units + 200 + 100 < cLine
            omega
          · obtain ⟨fa2, fd, ps, np, k1, k2, k3, k4, k5, k6⟩ := l8 x f g1 (by simpa using g2)
            exact ⟨fa2, fd, ps, rm, np, k1, k2, k3, hr, k4, k5, k6⟩
      exact ⟨hpe, rfl, fun _ => pt_plain hpe fun _ => rfl⟩
    · cases h
theorem sndEs : ∀ (es : List E) (cf : Cfg) (Ee : XK) (X : Cx) (xs : List Expr), XOk cf gl cal N Tt Ee xc X → chkEs cf N X.env.scope es xs = true → SndAll gl cal Tt Ee xc X es xs
  | [], cf, Ee, X, xs, o, h => by
    simp only [chkEs] at h
    cases xs with
    | nil => exact .nil
    | cons _ _ => cases h
  | e :: es, cf, Ee, X, xs, o, h => by
    simp only [chkEs] at h
    cases xs with
    | nil => cases h
    | cons x xs =>
      simp only [Bool.and_eq_true] at h
      exact .cons (sndE e cf Ee X x o h.1) (sndEs es cf Ee X xs o h.2)
end
end
end Z

/-! Z15: frames -/
namespace Z
open PySem PySem.Spec PyProof.Rows L2
/-- a frame's own lists ahead of what others own -/
def ow (O : List Addr) (b : Bool) (F : Fs) : Fs := O.map (fun a => (a, b)) ++ F
theorem ow_cons (p : Addr) (O : List Addr) (b : Bool) (F : Fs) : ow (p :: O) b F = (p, b) :: ow O b F := rfl
theorem ow_in {b : Bool} {F : Fs} {a : Addr} : ∀ {O : List Addr}, a ∈ O → (ow O b F).lookup a = some b
  | p :: O, h => by
    rw [ow_cons]
    by_cases e : a = p
    · subst e; exact lookup_self
    · rw [lookup_ne e]
      exact ow_in ((List.mem_cons.mp h).resolve_left e)
theorem ow_out {b : Bool} {F : Fs} {a : Addr} : ∀ {O : List Addr}, a ∉ O → (ow O b F).lookup a = F.lookup a
  | [], _ => rfl
  | p :: O, h => by
    rw [ow_cons, lookup_ne (fun e => h (by rw [e]; exact List.mem_cons_self))]
    exact ow_out fun m => h (List.mem_cons_of_mem _ m)
theorem ow_mem {b : Bool} {F : Fs} {O : List Addr} {q : Addr × Bool} : q ∈ ow O b F ↔ (q.1 ∈ O ∧ q.2 = b) ∨ q ∈ F := by
  unfold ow
  rw [List.mem_append, List.mem_map]
  constructor
  · rintro (⟨a, h, rfl⟩ | h)
    · exact .inl ⟨h, rfl⟩
    · exact .inr h
  · rintro (⟨h, e⟩ | h)
    · exact .inl ⟨q.1, h, by rw [← e]⟩
    · exact .inr h
section
variable {K : Kx} {H H' H1 H2 : Hp} {F : Fs} {ρ ρ' ρ1 ρ2 : List Addr} {S S' S1 S2 : Store} {O : List Addr}
theorem Wf.weakO : ∀ {O : List Addr}, Wf K H (ow O false F) ρ S → Wf K H F ρ S
  | [], w => w
  | p :: O, w => by
    rw [ow_cons] at w
    exact Wf.weakO w.weak
theorem le_weakO : ∀ {O : List Addr}, Le (del H (ow O false F) ρ) (del H F ρ)
  | [] => fun _ _ e => e
  | p :: O => fun c o e => by
    rw [ow_cons] at e
    exact le_weakO c o (del_weak c o e)
theorem Stp.weakO (s : Stp K (ow O false F) H ρ H' ρ' S') : Stp K F H ρ H' ρ' S' := ⟨s.same, s.tbl, s.pre, s.fresh, s.wf.weakO⟩
/-- read and not read -/
theorem le_flag : Le (del H (ow O false F) ρ) (del H (ow O true F) ρ) := fun c o e => by
  refine del_same e fun n _ => ⟨n, ?_, rfl⟩
  by_cases hc : c ∈ O
  · obtain ⟨_, q | ⟨q, _⟩, _⟩ := del_cases e
    · rw [ow_in hc] at q; cases q.1
    · rw [ow_in hc] at q; cases q
  · rw [ow_out hc, ow_out hc]
theorem Wf.flag (w : Wf K H (ow O false F) ρ S) : Wf K H (ow O true F) ρ S :=
  ⟨w.len, w.nd, fun n a o e1 e2 => OB.le le_flag List.prefix_rfl rfl (w.at_ n a o e1 e2), fun q m => by
    rcases ow_mem.mp m with ⟨m, _⟩ | m
    · exact w.fd (q.1, false) (ow_mem.mpr (.inl ⟨m, rfl⟩))
    · exact w.fd q (ow_mem.mpr (.inr m)), w.tabs⟩
theorem unf_lst (hO : ∀ a ∈ O, ∃ vs, H a = some (.lst vs)) : (∀ a vs, del H (ow O true F) ρ a = some (.lst vs) → del H (ow O false F) ρ a = some (.lst vs)) ∧ (∀ a C dx fs, del H (ow O true F) ρ a = some (.ins C dx fs) → del H (ow O false F) ρ a = some (.ins C dx fs)) ∧ ∀ a vs, SqT K.K (del H (ow O true F) ρ) a vs → SqT K.K (del H (ow O false F) ρ) a vs := by
  have key : ∀ a o, (∀ u, o = wrp u → ∀ vs, u ≠ .lst vs) → (∀ vs, o = .lst vs → (ow O true F).lookup a ≠ some true) → del H (ow O true F) ρ a = some o → a ∉ O → del H (ow O false F) ρ a = some o := fun a o _ _ e n => by
    refine del_same e fun n' _ => ⟨n', ?_, rfl⟩
    rw [ow_out n, ow_out n]
  refine ⟨fun a vs e => ?_, fun a C dx fs e => ?_, fun a vs r => ?_⟩
  · have n : a ∉ O := fun m => by
      obtain ⟨_, q | ⟨_, u, _, q⟩, _⟩ := del_cases e
      · rw [ow_in m] at q; cases q.1
      · cases q
    refine del_same e fun n' _ => ⟨n', ?_, rfl⟩
    rw [ow_out n, ow_out n]
  · have n : a ∉ O := fun m => by
      obtain ⟨_, q | ⟨_, u, _, q⟩, _⟩ := del_cases e
      · rw [ow_in m] at q; cases q.1
      · cases q
    refine del_same e fun n' _ => ⟨n', ?_, rfl⟩
    rw [ow_out n, ow_out n]
  · rcases r with r | r
    · refine .inl ?_
      have n : a ∉ O := fun m => by
        obtain ⟨us, hu⟩ := hO a m
        rcases r with r | ⟨o, r⟩
        · obtain ⟨_, q | ⟨_, u, _, q⟩, _⟩ := del_cases r
          · rw [ow_in m] at q; cases q.1
          · cases q
        · obtain ⟨_, q | ⟨_, u, q1, q⟩, _⟩ := del_cases r
          · rw [ow_in m] at q; cases q.1
          · rw [hu] at q1
            cases q1
            cases q
      rcases r with r | ⟨o, r⟩
      · exact .inl (del_same r fun n' _ => ⟨n', by rw [ow_out n, ow_out n], rfl⟩)
      · exact .inr ⟨o, del_same r fun n' _ => ⟨n', by rw [ow_out n, ow_out n], rfl⟩⟩
    · exact .inr r
theorem Wf.unflag (w : Wf K H (ow O true F) ρ S) (hO : ∀ a ∈ O, ∃ vs, H a = some (.lst vs)) : Wf K H (ow O false F) ρ S := by
  obtain ⟨h1, hi, h2⟩ := unf_lst (K := K) (F := F) (ρ := ρ) hO
  refine ⟨w.len, w.nd, fun n a o e1 e2 => ?_, fun q m => ?_, w.tabs⟩
  · have z := w.at_ n a o e1 e2
    cases o with
    | lst xs =>
      obtain ⟨vs, z1, z2, z3, z4⟩ := z
      exact ⟨vs, z1, RepA.cln h1 hi h2 _ _ z4 z2, z3, z4⟩
  · rcases ow_mem.mp m with ⟨m, _⟩ | m
    · exact w.fd (q.1, true) (ow_mem.mpr (.inl ⟨m, rfl⟩))
    · exact w.fd q (ow_mem.mpr (.inr m))
theorem Stp.unflag (s : Stp K (ow O true F) H ρ H' ρ' S') (hO : ∀ a ∈ O, ∃ vs, H' a = some (.lst vs)) : Stp K (ow O false F) H ρ H' ρ' S' := ⟨s.same, s.tbl, s.pre, s.fresh, s.wf.unflag hO⟩
/-- the frame fr stands in σ, H; O: the addresses of its own lists; G0, ρg: what is kept; H0, ρ0: the call's start -/
structure FrI (K : Kx) (G0 : Hp) (ρg : List Addr) (F : Fs) (H0 : Hp) (ρ0 : List Addr) (H : Hp) (ρ : List Addr) (S : Store) (fr : Fr) (σ : L2.St) (O : List Addr) : Prop where
  st : Stp K F H0 ρ0 H ρ S
  wf : Wf K H (ow O false F) ρ S
  len : fr.length ≤ σ.length
  val : ∀ (i : Nat) (d : D), fr[i]? = some (Z.Slot.val d) → ∃ v, σ[i]? = some (some v) ∧ Rep K.K (del H (ow O false F) ρ) ρ v d
  own : ∀ (i : Nat) (xs : List D), fr[i]? = some (Z.Slot.own xs) → ∃ a vs, σ[i]? = some (some (.ref a)) ∧ a ∈ O ∧ H a = some (.lst vs) ∧ RepA K.K (del H (ow O false F) ρ) ρ vs xs ∧ xs.length ≤ sizeLine
  sep : ∀ (i j : Nat) (xs ys : List D) (a : Addr), fr[i]? = some (Z.Slot.own xs) → fr[j]? = some (Z.Slot.own ys) → σ[i]? = some (some (.ref a)) → σ[j]? = some (some (.ref a)) → i = j
  lst : ∀ a ∈ O, (∃ vs, H a = some (.lst vs)) ∧ H0 a = none
  le : Le G0 (del H (ow O false F) ρ)
  pre : ρg <+: ρ
  f0 : ∀ p ∈ F, H0 p.1 ≠ none
variable {G0 H0 : Hp} {ρg ρ0 : List Addr} {fr : Fr} {σ : L2.St}
/-- what others own stood at the start -/
theorem FrI.nF (I : FrI K G0 ρg F H0 ρ0 H ρ S fr σ O) (f0 : ∀ p ∈ F, H0 p.1 ≠ none) {a : Addr} (h : H0 a = none) : F.lookup a = none := lookup_none fun q m e => f0 q m (e ▸ h)
theorem FrI.step (I : FrI K G0 ρg F H0 ρ0 H ρ S fr σ O) (s : Stp K (ow O false F) H ρ H1 ρ1 S1) : FrI K G0 ρg F H0 ρ0 H1 ρ1 S1 fr σ O where
  st := I.st.trans s.weakO
  wf := s.wf
  len := I.len
  val := fun i d h => by
    obtain ⟨v, h1, h2⟩ := I.val i d h
    exact ⟨v, h1, s.rep h2⟩
  own := fun i xs h => by
    obtain ⟨a, vs, h1, h2, h3, h4, h5⟩ := I.own i xs h
    exact ⟨a, vs, h1, h2, s.same a _ h3 ((I.wf.fd (a, false) (ow_mem.mpr (.inl ⟨h2, rfl⟩))).2) rfl, s.repA h4, h5⟩
  sep := I.sep
  lst := fun a m => by
    obtain ⟨⟨vs, h1⟩, h2⟩ := I.lst a m
    exact ⟨⟨vs, s.same a _ h1 ((I.wf.fd (a, false) (ow_mem.mpr (.inl ⟨m, rfl⟩))).2) rfl⟩, h2⟩
  le := fun c o e => s.le c o (I.le c o e)
  pre := I.pre.trans s.pre
  f0 := I.f0
theorem FrI.env (I : FrI K G0 ρg F H0 ρ0 H ρ S fr σ O) : ∀ m, EnvOk K.K (del H (ow O m F) ρ) ρ (fr.env m) σ := fun m => by
  refine ⟨by unfold Fr.env; rw [List.length_map]; exact I.len, fun i d h => ?_⟩
  unfold Fr.env at h
  rw [List.getElem?_map] at h
  obtain ⟨s, h1, h2⟩ := Option.map_eq_some_iff.mp h
  have lf : Le (del H (ow O false F) ρ) (del H (ow O m F) ρ) := by
    cases m with
    | false => exact fun _ _ e => e
    | true => exact le_flag
  cases m with
  | false =>
    cases s with
    | val d' => cases h2; exact I.val i d h1
    | own xs => cases h2
    | no => cases h2
  | true =>
    cases s with
    | val d' =>
      cases h2
      obtain ⟨v, q1, q2⟩ := I.val i d h1
      exact ⟨v, q1, Rep.le lf List.prefix_rfl _ _ q2⟩
    | own xs =>
      cases h2
      obtain ⟨a, vs, q1, q2, q3, q4, q5⟩ := I.own i xs h1
      refine ⟨_, q1, .scr (.inl (.inr ⟨{ cls := .none }, ?_⟩)) (RepA.le lf List.prefix_rfl _ _ q4) q5⟩
      unfold del
      rw [if_neg (I.wf.fd (a, false) (ow_mem.mpr (.inl ⟨q2, rfl⟩))).2, ow_in q2]
      show (ntb (H a)).map wrp = _
      rw [q3]
      rfl
    | no => cases h2
theorem FrI.wfm (I : FrI K G0 ρg F H0 ρ0 H ρ S fr σ O) : ∀ m, Wf K H (ow O m F) ρ S
  | false => I.wf
  | true => I.wf.flag
theorem FrI.stepm (I : FrI K G0 ρg F H0 ρ0 H ρ S fr σ O) : ∀ {m}, Stp K (ow O m F) H ρ H1 ρ1 S1 → Stp K (ow O false F) H ρ H1 ρ1 S1
  | false, s => s
  | true, s => s.unflag fun a m => by
    obtain ⟨⟨vs, h1⟩, _⟩ := I.lst a m
    exact ⟨vs, s.same a _ h1 ((I.wf.fd (a, false) (ow_mem.mpr (.inl ⟨m, rfl⟩))).2) rfl⟩
/-- what a reading gives -/
theorem fit_ok {m : Bool} {d e : D} {S S' : Store} (h : fitM m d S = .ok e S') : e = d ∧ S' = S ∧ (m = true → d.cln = true) := by
  unfold fitM at h
  by_cases hm : m = true ∧ d.cln = false
  · rw [if_pos hm] at h; cases h
  · rw [if_neg hm] at h
    cases h
    exact ⟨rfl, rfl, fun z => by
      cases q : d.cln with
      | true => rfl
      | false => exact absurd ⟨z, q⟩ hm⟩
theorem FrI.rep (I : FrI K G0 ρg F H0 ρ0 H ρ S fr σ O) {m : Bool} (s : Stp K (ow O m F) H ρ H1 ρ1 S1) {v : V} {d : D} (h : m = true → d.cln = true) (r : Rep K.K (del H1 (ow O m F) ρ1) ρ1 v d) : Rep K.K (del H1 (ow O false F) ρ1) ρ1 v d := by
  cases m with
  | false => exact r
  | true =>
    obtain ⟨h1, hi, h2⟩ := unf_lst (K := K) (H := H1) (F := F) (ρ := ρ1) (O := O) fun a m => by
      obtain ⟨⟨vs, h1⟩, _⟩ := I.lst a m
      exact ⟨vs, s.same a _ h1 ((I.wf.fd (a, false) (ow_mem.mpr (.inl ⟨m, rfl⟩))).2) rfl⟩
    exact Rep.cln h1 hi h2 _ _ (h rfl) r
/-- behind a statement -/
def PostS (K : Kx) (G0 : Hp) (ρg : List Addr) (F : Fs) (H0 : Hp) (ρ0 : List Addr) (E : Ends) : Res Out → Prop
  | .ok (.nx fr) S => ∀ σ H ρ O, FrI K G0 ρg F H0 ρ0 H ρ S fr σ O → E.nx σ H
  | .ok (.bk fr) S => ∀ σ H ρ O, FrI K G0 ρg F H0 ρ0 H ρ S fr σ O → E.bk σ H
  | .ok (.ct fr) S => ∀ σ H ρ O, FrI K G0 ρg F H0 ρ0 H ρ S fr σ O → E.ct σ H
  | .ok (.ret d) S => ∀ v H ρ, Stp K F H0 ρ0 H ρ S → Rep K.K (del H F ρ) ρ v d → E.rt v H
  | .exc x S => PostE K F H0 ρ0 x S
  | .stuck => False
def tS (K : Kx) (f : Fr → M Out) : TS := fun E σ H => ∃ G0 ρg F H0 ρ0 ρ S fr O, FrI K G0 ρg F H0 ρ0 H ρ S fr σ O ∧ PostS K G0 ρg F H0 ρ0 E (f fr S)
theorem PostS.okB {α : Type} {E : Ends} {m : M α} {k : α → M Out} {S : Store} (hm : ∀ x S', m S ≠ .exc x S') (h : PostS K G0 ρg F H0 ρ0 E (M.bind m k S)) : ∃ a S1, m S = .ok a S1 ∧ PostS K G0 ρg F H0 ρ0 E (k a S1) := by
  unfold M.bind at h
  cases q : m S with
  | ok a S1 => rw [q] at h; exact ⟨a, S1, rfl, h⟩
  | exc x S' => exact absurd q (hm x S')
  | stuck => rw [q] at h; exact h.elim
theorem truth_nx {d : D} {S S' : Store} {x : Ex} : truth d S ≠ .exc x S' := fun h => by cases d <;> cases h
theorem FrI.repA (I : FrI K G0 ρg F H0 ρ0 H ρ S fr σ O) {m : Bool} (s : Stp K (ow O m F) H ρ H1 ρ1 S1) {v : List V} {d : List D} (h : m = true → D.clns d = true) (r : RepA K.K (del H1 (ow O m F) ρ1) ρ1 v d) : RepA K.K (del H1 (ow O false F) ρ1) ρ1 v d := by
  cases m with
  | false => exact r
  | true =>
    obtain ⟨h1, hi, h2⟩ := unf_lst (K := K) (H := H1) (F := F) (ρ := ρ1) (O := O) fun a m => by
      obtain ⟨⟨vs, h1⟩, _⟩ := I.lst a m
      exact ⟨vs, s.same a _ h1 ((I.wf.fd (a, false) (ow_mem.mpr (.inl ⟨m, rfl⟩))).2) rfl⟩
    exact RepA.cln h1 hi h2 _ _ (h rfl) r
theorem FrI.weakG {G1 : Hp} {ρ1 : List Addr} (I : FrI K G1 ρ1 F H0 ρ0 H ρ S fr σ O) (l : Le G0 G1) (p : ρg <+: ρ1) : FrI K G0 ρg F H0 ρ0 H ρ S fr σ O :=
  ⟨I.st, I.wf, I.len, I.val, I.own, I.sep, I.lst, fun c o e => I.le c o (l c o e), p.trans I.pre, I.f0⟩
theorem FrI.base (I : FrI K G0 ρg F H0 ρ0 H ρ S fr σ O) : FrI K (del H (ow O false F) ρ) ρ F H0 ρ0 H ρ S fr σ O :=
  ⟨I.st, I.wf, I.len, I.val, I.own, I.sep, I.lst, fun _ _ e => e, List.prefix_rfl, I.f0⟩
theorem FrI.excX (I : FrI K G0 ρg F H0 ρ0 H ρ S fr σ O) {m : Bool} {x : Ex} {c : Value} {d : Option Addr} (s : Stp K (ow O m F) H ρ H1 ρ1 S1) (hc : ¬ (m = true ∧ (x.arg.map D.cln) = some false)) (r : RepX K (del H1 (ow O m F) ρ1) ρ1 c d H1 x) : RepX K (del H1 F ρ1) ρ1 c d H1 x := by
  obtain ⟨C, fo, dx, fs, h1, h2, h3, h4, h5, h6⟩ := r
  refine ⟨C, fo, dx, fs, h1, h2, h3, h4, h5, ?_⟩
  revert h6
  cases fo with
  | none => cases x.arg <;> exact id
  | some f =>
    cases ha : x.arg with
    | none => exact id
    | some a =>
      rintro ⟨v, g1, g2⟩
      refine ⟨v, g1, Rep.le le_weakO List.prefix_rfl _ _ (I.rep s (fun z => ?_) g2)⟩
      cases q : a.cln with
      | true => rfl
      | false => exact absurd ⟨z, by rw [ha]; exact congrArg some q⟩ hc
/-- what is raised leaves the frame -/
theorem FrI.raised (I : FrI K G0 ρg F H0 ρ0 H ρ S fr σ O) {m : Bool} {x : Ex} {S' : Store} (hc : ¬ (m = true ∧ (x.arg.map D.cln) = some false)) (q : PostE K F H0 ρ0 x S') : PostE K (ow O m F) H ρ x S' := fun c d H' ρ' s r => q c d H' ρ' (I.st.trans (I.stepm s).weakO) (I.excX s hc r)
/-- an expression read in a frame -/
theorem FrI.readB (I : FrI K G0 ρg F H0 ρ0 H ρ S fr σ O) {gl : Nat → Option D} {cal : Nat → List D → M D} {m : Bool} {e : E} {k : D → M Out} {E : Ends} (q : PostS K G0 ρg F H0 ρ0 E (M.bind (readE gl cal m e fr) k S)) {Q : VK}
    (f : ∀ d S1 v H1 ρ1, (m = true → d.cln = true) → FrI K G0 ρg F H0 ρ0 H1 ρ1 S1 fr σ O → Rep K.K (del H1 (ow O false F) ρ1) ρ1 v d → Le (del H (ow O false F) ρ) (del H1 (ow O false F) ρ1) → ρ <+: ρ1 → PostS K G0 ρg F H0 ρ0 E (k d S1) → Q v H1) : tE K (evalE gl cal e) σ H Q := by
  refine ⟨ow O m F, ρ, S, fr.env m, I.wfm m, I.env m, ?_⟩
  unfold M.bind readE at q
  cases h : evalE gl cal e (fr.env m) S with
  | stuck => simp only [M.bind, h, fitX] at q; exact q.elim
  | exc x S' =>
    simp only [M.bind, h, fitX] at q
    by_cases hc : m = true ∧ (x.arg.map D.cln) = some false
    · rw [if_pos hc] at q; exact q.elim
    · rw [if_neg hc] at q
      exact I.raised hc q
  | ok d S1 =>
    simp only [M.bind, h] at q
    cases hf : fitM m d S1 with
    | exc _ _ =>
      unfold fitM at hf
      split at hf <;> cases hf
    | stuck => simp only [hf, fitX] at q; exact q.elim
    | ok d' S' =>
      simp only [hf, fitX] at q
      obtain ⟨rfl, rfl, hc⟩ := fit_ok hf
      intro v H1 ρ1 s r
      have I1 := I.base.step (I.stepm s)
      exact f d' S' v H1 ρ1 hc (I1.weakG I.le I.pre) (I.rep s hc r) I1.le I1.pre q
theorem FrI.readsB (I : FrI K G0 ρg F H0 ρ0 H ρ S fr σ O) {gl : Nat → Option D} {cal : Nat → List D → M D} {m : Bool} {es : List E} {k : List D → M Out} {E : Ends} (q : PostS K G0 ρg F H0 ρ0 E (M.bind (readEs gl cal m es fr) k S)) {Q : List V → Hp → Prop}
    (f : ∀ ds S1 vs H1 ρ1, (m = true → D.clns ds = true) → FrI K G0 ρg F H0 ρ0 H1 ρ1 S1 fr σ O → RepA K.K (del H1 (ow O false F) ρ1) ρ1 vs ds → PostS K G0 ρg F H0 ρ0 E (k ds S1) → Q vs H1) : tA K (evalEs gl cal es) σ H Q := by
  refine ⟨ow O m F, ρ, S, fr.env m, I.wfm m, I.env m, ?_⟩
  unfold M.bind readEs at q
  cases h : evalEs gl cal es (fr.env m) S with
  | stuck => simp only [M.bind, h, fitX] at q; exact q.elim
  | exc x S' =>
    simp only [M.bind, h, fitX] at q
    by_cases hc : m = true ∧ (x.arg.map D.cln) = some false
    · rw [if_pos hc] at q; exact q.elim
    · rw [if_neg hc] at q
      exact I.raised hc q
  | ok ds S1 =>
    simp only [M.bind, h] at q
    by_cases hm : m = true ∧ D.clns ds = false
    · rw [if_pos hm] at q; exact q.elim
    · rw [if_neg hm] at q
      have q : PostS K G0 ρg F H0 ρ0 E (k ds S1) := q
      have hc : m = true → D.clns ds = true := fun z => by
        cases q : D.clns ds with
        | true => rfl
        | false => exact absurd ⟨z, q⟩ hm
      intro v H1 ρ1 s r
      exact f ds S1 v H1 ρ1 hc (I.step (I.stepm s)) (I.repA s hc r) q
/-- a list of the store is written -/
theorem FrI.sto (I : FrI K G0 ρg F H0 ρ0 H ρ S fr σ O) {p : Addr} {n : Nat} (h : ρ[n]? = some p) {vs : List V} {ds : List D} (r : RepA K.K (del H (ow O false F) ρ) ρ vs ds) (z : ds.length ≤ sizeLine) (hc : D.clns ds = true) :
    FrI K G0 ρg F H0 ρ0 (upd H p (.lst vs)) ρ (S.set n (.lst ds)) fr σ O := I.step (I.wf.write h r z hc)
theorem clns_set : ∀ {xs : List D} {d : D} (n : Nat), D.clns xs = true → d.cln = true → D.clns (xs.set n d) = true
  | [], _, _, h, _ => h
  | x :: xs, d, 0, h, hd => by
    simp only [D.clns, Bool.and_eq_true] at h
    simp only [List.set_cons_zero, D.clns, Bool.and_eq_true]
    exact ⟨hd, h.2⟩
  | x :: xs, d, n + 1, h, hd => by
    simp only [D.clns, Bool.and_eq_true] at h
    simp only [List.set_cons_succ, D.clns, Bool.and_eq_true]
    exact ⟨h.1, clns_set n h.2 hd⟩
/-- a value is stored -/
theorem FrI.put (I : FrI K G0 ρg F H0 ρ0 H ρ S fr σ O) {i : Nat} {v : V} {d : D} (r : Rep K.K (del H (ow O false F) ρ) ρ v d) : FrI K G0 ρg F H0 ρ0 H ρ S (fr.set i (Z.Slot.val d)) (σ.set i (some v)) O where
  st := I.st
  wf := I.wf
  len := by rw [List.length_set, List.length_set]; exact I.len
  val := fun j d' h => by
    by_cases hj : j = i
    · subst hj
      by_cases hl : j < fr.length
      · rw [List.getElem?_set_self hl] at h
        cases h
        exact ⟨v, List.getElem?_set_self (Nat.lt_of_lt_of_le hl I.len), r⟩
      · rw [List.getElem?_eq_none (by rw [List.length_set]; omega)] at h
        cases h
    · rw [List.getElem?_set_ne (fun z => hj z.symm)] at h ⊢
      exact I.val j d' h
  own := fun j xs h => by
    by_cases hj : j = i
    · subst hj
      by_cases hl : j < fr.length
      · rw [List.getElem?_set_self hl] at h; cases h
      · rw [List.getElem?_eq_none (by rw [List.length_set]; omega)] at h
        cases h
    · rw [List.getElem?_set_ne (fun z => hj z.symm)] at h ⊢
      exact I.own j xs h
  sep := fun j k xs ys a h1 h2 h3 h4 => by
    have key : ∀ (j : Nat) (xs : List D), (fr.set i (Z.Slot.val d))[j]? = some (Z.Slot.own xs) → j ≠ i := fun j xs h z => by
      subst z
      by_cases hl : j < fr.length
      · rw [List.getElem?_set_self hl] at h; cases h
      · rw [List.getElem?_eq_none (by rw [List.length_set]; omega)] at h
        cases h
    have a1 := key j xs h1
    have a2 := key k ys h2
    rw [List.getElem?_set_ne (fun z => a1 z.symm)] at h1 h3
    rw [List.getElem?_set_ne (fun z => a2 z.symm)] at h2 h4
    exact I.sep j k xs ys a h1 h2 h3 h4
  lst := I.lst
  le := I.le
  pre := I.pre
  f0 := I.f0
theorem FrI.putAll {fr : Fr} {σ : L2.St} (I : FrI K G0 ρg F H0 ρ0 H ρ S fr σ O) : ∀ {as : List (Nat × D)} {vs : List V}, RepA K.K (del H (ow O false F) ρ) ρ vs (as.map (·.2)) →
    FrI K G0 ρg F H0 ρ0 H ρ S (setAll fr (as.map fun p => (p.1, Slot.val p.2))) (setAll σ ((as.map (·.1)).zip (vs.map some))) O
  | [], _, r => by cases r; exact I
  | (i, d) :: as, _, r => by
    cases r with
    | cons r1 r2 => exact FrI.putAll (I.put r1) r2
/-- a new list of one's own -/
theorem FrI.putOwn (I : FrI K G0 ρg F H0 ρ0 H ρ S fr σ O) {i : Nat} {p : Addr} (hp : H p = none) {vs : List V} {ds : List D} (r : RepA K.K (del H (ow O false F) ρ) ρ vs ds) (hz : ds.length ≤ sizeLine) :
    FrI K G0 ρg F H0 ρ0 (upd H p (.lst vs)) ρ S (fr.set i (Z.Slot.own ds)) (σ.set i (some (.ref p))) (p :: O) := by
  have le1 : Le (del H (ow O false F) ρ) (del (upd H p (.lst vs)) (ow (p :: O) false F) ρ) := le_own hp _ _
  have np : ∀ a ∈ O, a ≠ p := fun a m z => by
    obtain ⟨⟨vs, h⟩, _⟩ := I.lst a m
    rw [z, hp] at h
    cases h
  refine ⟨?_, I.wf.laidOwn hp _, by rw [List.length_set, List.length_set]; exact I.len, fun j d' h => ?_, fun j xs h => ?_, fun j k xs ys a h1 h2 h3 h4 => ?_, fun a m => ?_, fun c o e => le1 c o (I.le c o e), I.pre, I.f0⟩
  · exact I.st.trans (I.st.wf.laid hp _)
  · by_cases hj : j = i
    · subst hj
      by_cases hl : j < fr.length
      · rw [List.getElem?_set_self hl] at h; cases h
      · rw [List.getElem?_eq_none (by rw [List.length_set]; omega)] at h
        cases h
    · rw [List.getElem?_set_ne (fun z => hj z.symm)] at h ⊢
      obtain ⟨v, h1, h2⟩ := I.val j d' h
      exact ⟨v, h1, Rep.le le1 List.prefix_rfl _ _ h2⟩
  · by_cases hj : j = i
    · subst hj
      by_cases hl : j < fr.length
      · rw [List.getElem?_set_self hl] at h
        cases h
        exact ⟨p, vs, List.getElem?_set_self (Nat.lt_of_lt_of_le hl I.len), List.mem_cons_self, upd_same, RepA.le le1 List.prefix_rfl _ _ r, hz⟩
      · rw [List.getElem?_eq_none (by rw [List.length_set]; omega)] at h
        cases h
    · rw [List.getElem?_set_ne (fun z => hj z.symm)] at h ⊢
      obtain ⟨a, us, h1, h2, h3, h4, h5⟩ := I.own j xs h
      exact ⟨a, us, h1, List.mem_cons_of_mem _ h2, by rw [upd_ne (np a h2)]; exact h3, RepA.le le1 List.prefix_rfl _ _ h4, h5⟩
  · have key : ∀ (j : Nat) (xs : List D), (fr.set i (Z.Slot.own ds))[j]? = some (Z.Slot.own xs) → (σ.set i (some (.ref p)))[j]? = some (some (.ref a)) → (j = i ∧ a = p) ∨ (j ≠ i ∧ a ≠ p ∧ fr[j]? = some (Z.Slot.own xs) ∧ σ[j]? = some (some (.ref a))) := fun j xs q1 q2 => by
      by_cases hj : j = i
      · subst hj
        refine .inl ⟨rfl, ?_⟩
        by_cases hl : j < σ.length
        · rw [List.getElem?_set_self hl] at q2; cases q2; rfl
        · rw [List.getElem?_eq_none (by rw [List.length_set]; omega)] at q2
          cases q2
      · rw [List.getElem?_set_ne (fun z => hj z.symm)] at q1 q2
        obtain ⟨a', us, g1, g2, _⟩ := I.own j xs q1
        rw [q2] at g1
        cases g1
        exact .inr ⟨hj, np a g2, q1, q2⟩
    rcases key j xs h1 h3 with ⟨e1, e2⟩ | ⟨n1, n2, q1, q2⟩
    · rcases key k ys h2 h4 with ⟨e3, _⟩ | ⟨_, n2, _, _⟩
      · rw [e1, e3]
      · exact absurd e2 n2
    · rcases key k ys h2 h4 with ⟨_, e⟩ | ⟨_, _, q3, q4⟩
      · exact absurd e n2
      · exact I.sep j k xs ys a q1 q3 q2 q4
  · rcases List.mem_cons.mp m with rfl | m
    · refine ⟨⟨vs, upd_same⟩, ?_⟩
      cases q : H0 a with
      | none => rfl
      | some o =>
        by_cases hr : a ∈ ρ0
        · have := I.st.pre.subset hr
          exact absurd hp (I.wf.tr a this)
        · cases t : tbB o with
          | false => rw [I.st.same a o q hr t] at hp; cases hp
          | true =>
            cases o with
            | tbl ps =>
              obtain ⟨_, e⟩ := I.st.tbl a ps q
              rw [hp] at e
              cases e
            | _ => cases t
    · obtain ⟨⟨us, h1⟩, h2⟩ := I.lst a m
      exact ⟨⟨us, by rw [upd_ne (np a m)]; exact h1⟩, h2⟩
/-- a list of one's own is written -/
theorem FrI.write (I : FrI K G0 ρg F H0 ρ0 H ρ S fr σ O) {i : Nat} {xs : List D} {a : Addr} (h : fr[i]? = some (Z.Slot.own xs)) (hs : σ[i]? = some (some (.ref a))) {vs : List V} {ds : List D} (r : RepA K.K (del H (ow O false F) ρ) ρ vs ds) (hz : ds.length ≤ sizeLine) :
    FrI K G0 ρg F H0 ρ0 (upd H a (.lst vs)) ρ S (fr.set i (Z.Slot.own ds)) σ O := by
  obtain ⟨a', us, g1, g2, g3, g4, g5⟩ := I.own i xs h
  rw [hs] at g1
  cases g1
  have lk : (ow O false F).lookup a = some false := ow_in g2
  have le1 : Le (del H (ow O false F) ρ) (del (upd H a (.lst vs)) (ow O false F) ρ) := le_poke lk _
  have w1 : Wf K (upd H a (.lst vs)) (ow O false F) ρ S := I.wf.poke lk ⟨_, g3⟩ _
  have hl : i < fr.length := (List.getElem?_eq_some_iff.mp h).1
  refine ⟨I.st.poke (I.lst a g2).2 w1.weakO, w1, by rw [List.length_set]; exact I.len, fun j d' q => ?_, fun j ys q => ?_, fun j k ys zs b h1 h2 h3 h4 => ?_, fun b m => ?_, fun c o e => le1 c o (I.le c o e), I.pre, I.f0⟩
  · by_cases hj : j = i
    · subst hj
      rw [List.getElem?_set_self hl] at q; cases q
    · rw [List.getElem?_set_ne (fun z => hj z.symm)] at q
      obtain ⟨v, h1, h2⟩ := I.val j d' q
      exact ⟨v, h1, Rep.le le1 List.prefix_rfl _ _ h2⟩
  · by_cases hj : j = i
    · subst hj
      rw [List.getElem?_set_self hl] at q
      cases q
      exact ⟨a, vs, hs, g2, upd_same, RepA.le le1 List.prefix_rfl _ _ r, hz⟩
    · rw [List.getElem?_set_ne (fun z => hj z.symm)] at q
      obtain ⟨b, ws, h1, h2, h3, h4, h5⟩ := I.own j ys q
      have nb : b ≠ a := fun z => hj (I.sep j i ys xs a q h (z ▸ h1) hs)
      exact ⟨b, ws, h1, h2, by rw [upd_ne nb]; exact h3, RepA.le le1 List.prefix_rfl _ _ h4, h5⟩
  · have key : ∀ (j : Nat) (ys : List D), (fr.set i (Z.Slot.own ds))[j]? = some (Z.Slot.own ys) → ∃ zs, fr[j]? = some (Z.Slot.own zs) := fun j ys q => by
      by_cases hj : j = i
      · subst hj; exact ⟨xs, h⟩
      · rw [List.getElem?_set_ne (fun z => hj z.symm)] at q; exact ⟨ys, q⟩
    obtain ⟨_, k1⟩ := key j ys h1
    obtain ⟨_, k2⟩ := key k zs h2
    exact I.sep j k _ _ b k1 k2 h3 h4
  · obtain ⟨⟨ws, h1⟩, h2⟩ := I.lst b m
    by_cases hb : b = a
    · subst hb; exact ⟨⟨vs, upd_same⟩, h2⟩
    · exact ⟨⟨ws, by rw [upd_ne hb]; exact h1⟩, h2⟩
/-- a list of one's own becomes a value -/
theorem FrI.frz (I : FrI K G0 ρg F H0 ρ0 H ρ S fr σ O) {i : Nat} {xs : List D} (h : fr[i]? = some (Z.Slot.own xs)) : ∃ O', FrI K G0 ρg F H0 ρ0 H ρ S (fr.set i (Z.Slot.val (.lst xs))) σ O' := by
  obtain ⟨a, vs, g1, g2, g3, g4, g5⟩ := I.own i xs h
  have hl : i < fr.length := (List.getElem?_eq_some_iff.mp h).1
  have hm : ∀ b, b ∈ O.filter (fun b => decide (b ≠ a)) ↔ b ∈ O ∧ b ≠ a := fun b => by simp
  have nF : F.lookup a = none := I.nF I.f0 (I.lst a g2).2
  have le1 : Le (del H (ow O false F) ρ) (del H (ow (O.filter fun b => decide (b ≠ a)) false F) ρ) := fun c o e => by
    refine del_same e fun n _ => ⟨n, ?_, rfl⟩
    have hc : c ∉ O := fun m => by
      obtain ⟨_, q | ⟨q, _⟩, _⟩ := del_cases e
      · rw [ow_in m] at q; cases q.1
      · rw [ow_in m] at q; cases q
    rw [ow_out hc, ow_out fun m => hc ((hm c).mp m).1]
  have na : a ∉ ρ := (I.wf.fd (a, false) (ow_mem.mpr (.inl ⟨g2, rfl⟩))).2
  have w1 : Wf K H (ow (O.filter fun b => decide (b ≠ a)) false F) ρ S :=
    ⟨I.wf.len, I.wf.nd, fun n a o e1 e2 => OB.le le1 List.prefix_rfl rfl (I.wf.at_ n a o e1 e2), fun q m => by
      rcases ow_mem.mp m with ⟨m, e⟩ | m
      · exact I.wf.fd q (ow_mem.mpr (.inl ⟨((hm _).mp m).1, e⟩))
      · exact I.wf.fd q (ow_mem.mpr (.inr m)), I.wf.tabs⟩
  refine ⟨O.filter fun b => decide (b ≠ a), I.st, w1, by rw [List.length_set]; exact I.len, fun j d' q => ?_, fun j ys q => ?_, fun j k ys zs b h1 h2 h3 h4 => ?_, fun b m => I.lst b ((hm b).mp m).1, fun c o e => le1 c o (I.le c o e), I.pre, I.f0⟩
  · by_cases hj : j = i
    · subst hj
      rw [List.getElem?_set_self hl] at q
      cases q
      refine ⟨_, g1, .lst ?_ (RepA.le le1 List.prefix_rfl _ _ g4) g5⟩
      exact del_at na (by rw [ow_out (fun m => ((hm a).mp m).2 rfl)]; exact nF) g3
    · rw [List.getElem?_set_ne (fun z => hj z.symm)] at q
      obtain ⟨v, h1, h2⟩ := I.val j d' q
      exact ⟨v, h1, Rep.le le1 List.prefix_rfl _ _ h2⟩
  · by_cases hj : j = i
    · subst hj
      rw [List.getElem?_set_self hl] at q; cases q
    · rw [List.getElem?_set_ne (fun z => hj z.symm)] at q
      obtain ⟨b, ws, h1, h2, h3, h4, h5⟩ := I.own j ys q
      have nb : b ≠ a := fun z => hj (I.sep j i ys xs a q h (z ▸ h1) g1)
      exact ⟨b, ws, h1, (hm b).mpr ⟨h2, nb⟩, h3, RepA.le le1 List.prefix_rfl _ _ h4, h5⟩
  · have key : ∀ (j : Nat) (ys : List D), (fr.set i (Z.Slot.val (.lst xs)))[j]? = some (Z.Slot.own ys) → fr[j]? = some (Z.Slot.own ys) := fun j ys q => by
      by_cases hj : j = i
      · subst hj; rw [List.getElem?_set_self hl] at q; cases q
      · rw [List.getElem?_set_ne (fun z => hj z.symm)] at q; exact q
    exact I.sep j k _ _ b (key j ys h1) (key k zs h2) h3 h4
end
end Z

/-! Z16: statements -/
namespace Z
open PySem PySem.Spec PyProof.Rows L2
/-! ### what is asked of the text -/
def noComp : Expr → Bool
  | .ListComp _ _ _ _ => false
  | .SetComp _ _ _ _ => false
  | .DictComp _ _ _ _ _ => false
  | _ => true
def noSlice : Expr → Bool
  | .Slice _ _ _ _ => false
  | _ => true
/-- the pair is stored in order -/
def swapNone : Expr → Expr → Bool
  | .Tuple ts _ _, .Tuple vs _ _ => vs.all (foldedForSure 8) && !(vs.any fun | .Starred .. => true | _ => false) || !(ts.length == 2 || ts.length == 3) || vs.length != ts.length
  | .List _ _, _ => false
  | _, _ => true
def nmIs (N : List Str) (i : Nat) : Expr → Option Str
  | .Name x _ => if N[i]? = some x then some x else none
  | _ => none
/-- name = [.. for ..] on one line -/
def swapC (sc : Scope) (t ex : Expr) (line : Nat) : Bool := match t, ex with
  | .Name y py, .ListComp _ _ scope pos => decide (sc.names.lookup y = some .local) && (py.line == pos.line) && !(scope.names.any fun (n, k) => n == y && (k == .local || k == .cell))
  | _, _ => false
/-- a, b = c, d by names -/
def parN (sc : Scope) (N : List Str) : List Nat → List Expr → Bool
  | [i, j], [.Name x _, .Name y _] => decide (N[i]? = some x) && decide (N[j]? = some y) && decide (i ≠ j) && decide (sc.names.lookup x = some .local) && decide (sc.names.lookup y = some .local)
  | _, _ => false
def parOk (sc : Scope) (N : List Str) (is : List Nat) (t ex : Expr) : Option (List Expr) := match t, ex with
  | .Tuple [.Name x px, .Name y py] _ _, .Tuple [a, b] _ _ => (match is with
    | [i, j] => if decide (N[i]? = some x) && decide (N[j]? = some y) && decide (i ≠ j) && decide (sc.names.lookup x = some .local) && decide (sc.names.lookup y = some .local) && (py.line == px.line) && !(x == y) && !(y == x)
        && !(foldedForSure 8 a && foldedForSure 8 b) && !(constantsAlone 8 a && constantsAlone 8 b) && noStar a && noStar b then some [a, b] else none
    | _ => none)
  | .Tuple [.Name x px, .Name y py, .Name z pz] _ _, .Tuple [a, b, c] _ _ => (match is with
    | [i, j, l] => if decide (N[i]? = some x) && decide (N[j]? = some y) && decide (N[l]? = some z) && decide (i ≠ j) && decide (i ≠ l) && decide (j ≠ l) && decide (sc.names.lookup x = some .local) && decide (sc.names.lookup y = some .local) && decide (sc.names.lookup z = some .local) && (py.line == px.line) && (pz.line == px.line)
        && (([x, y, z] : List Str).eraseDups.length == 3) && !([a, b, c].all (foldedForSure 8)) && !([a, b, c].all (constantsAlone 8)) && noStar a && noStar b && noStar c then some [a, b, c] else none
    | _ => none)
  | _, _ => none
mutual
def chkC (cf : Cfg) (N : List Str) (sc : Scope) : Cmd → Stmt → Bool
  | .asg _ tg e, st => (match st with
    | .Assign [t] ex pos => noStar t && chkT (locOf sc) N tg t && chkE cf N sc e ex && (noComp ex && swapNone t ex || swapC sc t ex pos.line)
    | _ => false)
  | .own i es, st => (match st with
    | .Assign [.Name x _] (.List xs _) _ => decide (N[i]? = some x) && locOf sc x && chkEs cf N sc es xs
    | _ => false)
  | .app _ i e, st => (match st with
    | .Expr (.Call (.Attribute (.Name x _) m ap) [ex] [] p) _ => m == "append" && decide (N[i]? = some x) && visOf sc x && okName x && (ap.endLine == p.line) && chkE cf N sc e ex
    | _ => false)
  | .setIx o i v, st => (match st with
    | .Assign [.Subscript o' i' _] v' _ => chkE cf N sc o o' && chkE cf N sc i i' && chkE cf N sc v v' && noSlice i'
    | _ => false)
  | .putIx _ i j v, st => (match st with
    | .Assign [.Subscript (.Name x _) j' _] v' _ => decide (N[i]? = some x) && visOf sc x && okName x && chkE cf N sc j j' && chkE cf N sc v v' && noSlice j'
    | _ => false)
  | .par _ is es, st => (match st with
    | .Assign [t] ex _ => (match parOk sc N is t ex with
      | some xs => chkEs cf N sc es xs
      | none => false)
    | _ => false)
  | .ifs _ t a b, st => (match st with
    | .If t' a' b' _ => tst t && chkE cf N sc t t' && chkCs cf N sc a a' && chkCs cf N sc b b'
    | _ => false)
  | .for_ tg k es body, st => (match st with
    | .For tgx it body' [] _ => chkT (locOf sc) N tg tgx && noSet it && chkCs cf N sc body body' && (match srcView sc tgx it k with
      | some xs => chkEs cf N sc es xs
      | none => false)
    | _ => false)
  | .ret _ e, st => (match st with
    | .Return (some ex) _ => chkE cf N sc e ex
    | _ => false)
  | .expr _ e, st => (match st with
    | .Expr ex _ => noComp ex && chkE cf N sc e ex
    | _ => false)
  | .frz _, _ => false
  | .brk, st => (match st with
    | .Break _ => true
    | _ => false)
  | .cnt, st => (match st with
    | .Continue _ => true
    | _ => false)
  | .pass, st => (match st with
    | .Pass _ => true
    | .Expr (.Constant (.str _) _ _) _ => true
    | _ => false)
  | .dead, _ => true
  | .raise _ x es, st => (match st with
    | .Raise (some (.Call (.Name y _) xs [] _)) none _ => x == y && gloOf sc y && okName y && decide (es.length ≤ 1) && (match cf.exs.lookup x with
      | some fo => fo.isSome == !es.isEmpty
      | none => false) && chkEs cf N sc es xs
    | _ => false)
  | .whl _ _ t body, st => (match st with
    | .While t' body' [] _ => tst t && chkE cf N sc t t' && chkCs cf N sc body body'
    | _ => false)
def chkCs (cf : Cfg) (N : List Str) (sc : Scope) : List Cmd → List Stmt → Bool
  | [], sts => sts.isEmpty
  | c :: cs, sts => (match c with
    | .frz _ => chkCs cf N sc cs sts
    | _ => (match sts with
      | st :: sts => chkC cf N sc c st && chkCs cf N sc cs sts
      | [] => false))
end
/-- x(e, ..) makes an exception that may be raised -/
structure ExcM (X : Cx) (xc : Str → Option (Addr × Option Str)) (x : Str) (fo : Option Str) : Prop where
  kn : ∃ C, xc x = some (C, fo)
  make : ∀ {xs : List Expr} {ta : TA} {p pos : Pos}, PA X xs ta → xs.all noStar = true → xs.length = (if fo.isSome = true then 1 else 0) → Gl X x → PMk X (.Call (.Name x p) xs [] pos) (fun σ H Q => ta σ H fun vs H1 => vs.length = xs.length ∧
    ∀ (C d : Addr) (fs : List (Str × V)), xc x = some (C, fo) → H1 d = none → fs.lookup ("tag" : Str) = some (V.str x) → (∀ f, fo = some f → fs.lookup f = vs[0]?) → Q (.ref C) (some d) (upd H1 d (.xd fs)))
/-- what is asked of a context that statements run in -/
structure YOk (cf : Cfg) (gl : Nat → Option D) (cal : Nat → List D → M D) (N : List Str) (Tt : List (Addr × Str)) (Ee : XK) (xc : Str → Option (Addr × Option Str)) (X : Cx) : Prop extends XOk cf gl cal N Tt Ee xc X where
  kind : X.env.scope.kind = .function
  fn : X.fn = fun _ => true
  own : PassesOwn (model X.prog X.w) X.A X.env X.xe
  exm : ∀ x fo, cf.exs.lookup x = some fo → ExcM X xc x fo
section
variable {cf : Cfg} {gl : Nat → Option D} {cal : Nat → List D → M D} {N : List Str} {X : Cx} {Tt : List (Addr × Str)} {Ee : XK} {xc : Str → Option (Addr × Option Str)}
theorem swap_no {ex : Expr} {t : Expr} {line : Nat} {env : PySem.Env} (h : noComp ex = true) : swapsWithSole [t] ex line env = pure false := by
  cases ex <;> first | rfl | cases h
theorem swap_noE {ex : Expr} {line : Nat} {env : PySem.Env} (h : noComp ex = true) : swapsWith ex none line env = pure false := by
  cases ex <;> first | rfl | cases h
theorem swapNone_ok {t ex : Expr} {env : PySem.Env} (h : swapNone t ex = true) : swappedStores [t] ex env = pure none := by
  unfold swapNone at h
  split at h
  · rename_i ts k1 p1 vs k2 p2
    unfold swappedStores
    simp only []
    by_cases c1 : (!(ts.length == 2 || ts.length == 3) || vs.length != ts.length || env.blockKind != ScopeKind.function) = true
    · rw [if_pos c1]
    · rw [if_neg c1]
      simp only [Bool.or_eq_true, Bool.and_eq_true] at h c1
      have hf : vs.all (foldedForSure 8) = true := by
        rcases h with (h | h) | h
        · exact h.1
        · exact absurd (.inl (.inl h)) c1
        · exact absurd (.inl (.inr h)) c1
      rw [if_pos hf]
      split
      · rfl
      · split <;> rfl
  · cases h
  · unfold swappedStores
    cases t <;> cases ex <;> first | rfl | (rename_i h1 _ _ _ h2; first | exact (h1 _ _ rfl).elim | exact (h2 _ _ _ _ _ _ rfl rfl).elim)
theorem swapC_ok {t ex : Expr} {line : Nat} {env : PySem.Env} (hk : env.scope.kind = .function) (h : swapC env.scope t ex line = true) : ∃ y py elt gs scope pos, t = .Name y py ∧ ex = .ListComp elt gs scope pos ∧ env.scope.names.lookup y = some .local ∧ swapsWith ex (some t) line env = pure true := by
  unfold swapC at h
  split at h
  · rename_i y py elt gs scope pos
    simp only [Bool.and_eq_true, decide_eq_true_eq, Bool.not_eq_true'] at h
    exact ⟨y, py, elt, gs, scope, pos, rfl, rfl, h.1.1, sw_true hk h.1.1 h.1.2 h.2⟩
  · cases h
theorem par_sw {x y : Str} {px py pt pt2 : Pos} {kt k2 : Nat} {a b : Expr} {env : PySem.Env} (hk : env.scope.kind = .function) (hx : env.scope.names.lookup x = some .local) (hy : env.scope.names.lookup y = some .local) (hl : (py.line == px.line) = true) (hn : (x == y) = false) (hn2 : (y == x) = false)
    (hf : (foldedForSure 8 a && foldedForSure 8 b) = false) (hc : (constantsAlone 8 a && constantsAlone 8 b) = false) (ha : noStar a = true) (hb : noStar b = true) :
    swappedStores [.Tuple [.Name x px, .Name y py] kt pt] (.Tuple [a, b] k2 pt2) env = pure (some [x, y]) := by
  have kx : env.kindOf x = some .local := hx
  have ky : env.kindOf y = some .local := hy
  have hb2 : env.blockKind = .function := by unfold Env.blockKind; rw [hk]; rfl
  have lx : (px.line == px.line) = true := by simp
  have st : ([a, b].any fun | .Starred .. => true | _ => false) = false := by
    cases a <;> cases b <;> first | rfl | exact absurd ha Bool.false_ne_true | exact absurd hb Bool.false_ne_true
  unfold swappedStores
  simp only [List.length_cons, List.length_nil, hb2]
  rw [if_neg (by decide)]
  have st2 : ¬ ([a, b].any fun | .Starred .. => true | _ => false) = true := by rw [st]; exact Bool.false_ne_true
  have nm : (List.filterMap (fun x_1 => match x_1 with
      | Expr.Name id pos => if (env.kindOf id == some NameKind.local && pos.line == (Option.map (fun x => x.pos.line) [Expr.Name x px, Expr.Name y py].head?).getD 0) = true then some id else none
      | x => none) [Expr.Name x px, Expr.Name y py]) = [x, y] := by
    simp only [List.filterMap_cons, List.filterMap_nil, List.head?_cons, Option.map_some, Option.getD_some, Expr.pos, kx, ky, lx, hl]
    rfl
  have ed : [x, y].eraseDups = [x, y] := by
    simp [List.eraseDups_cons, hn, hn2]
  split
  · exact absurd ‹_› (by rename_i z; exact fun _ => st2 z)
  · split
    · rename_i z
      exfalso
      erw [nm] at z
      rw [ed] at z
      simp at z
    · have f2 : ¬ [a, b].all (foldedForSure 8) = true := by simp [hf]
      have c2 : ¬ [a, b].all (constantsAlone 8) = true := by simp [hc]
      rw [if_neg f2, if_neg c2]
      erw [nm]
theorem any_star : ∀ es : List Expr, es.all noStar = true → (es.any fun | .Starred .. => true | _ => false) = false
  | [], _ => rfl
  | e :: es, h => by
    simp only [List.all_cons, Bool.and_eq_true] at h
    rw [List.any_cons, any_star es h.2, Bool.or_false]
    have h1 := h.1
    cases e <;> first | rfl | exact absurd h1 Bool.false_ne_true
theorem par_sw3 {x y z : Str} {px py pz pt pt2 : Pos} {kt k2 : Nat} {a b c : Expr} {env : PySem.Env} (hk : env.scope.kind = .function) (hx : env.scope.names.lookup x = some .local) (hy : env.scope.names.lookup y = some .local) (hz : env.scope.names.lookup z = some .local) (hl : (py.line == px.line) = true) (hl2 : (pz.line == px.line) = true)
    (hn : (([x, y, z] : List Str).eraseDups.length == 3) = true) (hf : ([a, b, c].all (foldedForSure 8)) = false) (hc : ([a, b, c].all (constantsAlone 8)) = false) (ha : noStar a = true) (hb : noStar b = true) (hc2 : noStar c = true) :
    swappedStores [.Tuple [.Name x px, .Name y py, .Name z pz] kt pt] (.Tuple [a, b, c] k2 pt2) env = pure (some [x, y, z]) := by
  have kx : env.kindOf x = some .local := hx
  have ky : env.kindOf y = some .local := hy
  have kz : env.kindOf z = some .local := hz
  have hb2 : env.blockKind = .function := by unfold Env.blockKind; rw [hk]; rfl
  have lx : (px.line == px.line) = true := by simp
  have st : ([a, b, c].any fun | .Starred .. => true | _ => false) = false := any_star _ (by simp only [List.all_cons, List.all_nil, ha, hb, hc2, Bool.and_true])
  unfold swappedStores
  simp only [List.length_cons, List.length_nil, hb2]
  rw [if_neg (by decide)]
  have st2 : ¬ ([a, b, c].any fun | .Starred .. => true | _ => false) = true := by rw [st]; exact Bool.false_ne_true
  have nm : (List.filterMap (fun x_1 => match x_1 with
      | Expr.Name id pos => if (env.kindOf id == some NameKind.local && pos.line == (Option.map (fun x => x.pos.line) [Expr.Name x px, Expr.Name y py, Expr.Name z pz].head?).getD 0) = true then some id else none
      | x => none) [Expr.Name x px, Expr.Name y py, Expr.Name z pz]) = [x, y, z] := by
    simp only [List.filterMap_cons, List.filterMap_nil, List.head?_cons, Option.map_some, Option.getD_some, Expr.pos, kx, ky, kz, lx, hl, hl2]
    rfl
  have ed : ([x, y, z] : List Str).eraseDups.length = 3 := eq_of_beq hn
  split
  · exact absurd ‹_› (by rename_i z; exact fun _ => st2 z)
  · split
    · rename_i z
      exfalso
      erw [nm] at z
      rw [ed] at z
      simp at z
    · have f2 : ¬ [a, b, c].all (foldedForSure 8) = true := by rw [hf]; exact Bool.false_ne_true
      have c2 : ¬ [a, b, c].all (constantsAlone 8) = true := by rw [hc]; exact Bool.false_ne_true
      rw [if_neg f2, if_neg c2]
      erw [nm]
end
end Z

/-! Z17: every statement that passes the check does what the small language says -/
namespace Z
open PySem PySem.Spec PyProof.Rows L2
theorem PS.imp {X : Cx} {e : Stmt} {t t' : TS} (h : PS X e t) (i : ∀ D σ H, t' D σ H → t D σ H) : PS X e t' := ⟨fun pins s σ H D I q => h.run pins s σ H D I (i _ _ _ q)⟩
theorem PSs.imp {X : Cx} {e : List Stmt} {t t' : TS} (h : PSs X e t) (i : ∀ D σ H, t' D σ H → t D σ H) : PSs X e t' := ⟨fun pins s σ H D I q => h.run pins s σ H D I (i _ _ _ q)⟩
section
variable {cf : Cfg} {gl : Nat → Option D} {cal : Nat → List D → M D} {N : List Str} {X : Cx} {Tt : List (Addr × Str)} {Ee : XK} {xc : Str → Option (Addr × Option Str)}
theorem loc_ok (y : YOk cf gl cal N Tt Ee xc X) {x : Str} (h : locOf X.env.scope x = true) : L2.Loc X.env.scope x ∧ (X.fn x = true ∨ X.env.scope.names.lookup x = some .local) := by
  refine ⟨?_, .inl (by rw [y.fn])⟩
  unfold locOf at h
  unfold L2.Loc
  cases q : X.env.scope.names.lookup x with
  | none => rw [q] at h; cases h
  | some k =>
    rw [q] at h
    cases k with
    | «local» => exact .inl rfl
    | cell => exact .inr rfl
    | _ => cases h
theorem storeT_some {t : Tg} {d : D} {fr fr' : Fr} (h : storeT t d fr = some fr') : ∃ as, assigns t d = some as ∧ fr' = setAll fr (as.map fun p => (p.1, Slot.val p.2)) := by
  unfold storeT at h
  obtain ⟨as, h1, h2⟩ := Option.map_eq_some_iff.mp h
  exact ⟨as, h1, h2.symm⟩
section
variable {K : Kx} {G0 H0 H : Hp} {ρg ρ0 ρ : List Addr} {F : Fs} {S : Store} {fr : Fr} {σ : L2.St} {O : List Addr} {E : Ends}
/-- a value stored by a target, in a frame -/
theorem FrI.target (I : FrI K G0 ρg F H0 ρ0 H ρ S fr σ O) {tg : Tg} {d : D} {v : V} {as : List (Nat × D)} (r : Rep K.K (del H (ow O false F) ρ) ρ v d) (ha : assigns tg d = some as) {Q : L2.St → Hp → Prop}
    (q : ∀ σ', FrI K G0 ρg F H0 ρ0 H ρ S (setAll fr (as.map fun p => (p.1, Slot.val p.2))) σ' O → Q σ' H) : gT K tg v σ H Q :=
  ⟨ow O false F, ρ, S, d, as, I.wf, r, ha, fun vs rv => q _ (I.putAll rv)⟩
theorem asg_t {m : Bool} {tg : Tg} {e : Z.E} (σ : L2.St) (H : Hp) (h : tS K (exec gl cal (.asg m tg e)) E σ H) : tAsg (tE K (evalE gl cal e)) (gT K tg) E σ H := by
  obtain ⟨G0, ρg, F, H0, ρ0, ρ, S, fr, O, I, p⟩ := h
  simp only [exec] at p
  refine I.readB p fun d S1 v H1 ρ1 _ I1 r _ _ p => ?_
  cases hs : storeT tg d fr with
  | none => rw [hs] at p; exact p.elim
  | some fr' =>
    rw [hs] at p
    obtain ⟨as, ha, rfl⟩ := storeT_some hs
    exact I1.target r ha fun σ' I2 => p σ' H1 ρ1 O I2
theorem FrI.ret (I : FrI K G0 ρg F H0 ρ0 H ρ S fr σ O) {d : D} {v : V} (r : Rep K.K (del H (ow O false F) ρ) ρ v d) (p : PostS K G0 ρg F H0 ρ0 E (.ok (.ret d) S)) : E.rt v H := p v H ρ I.st (Rep.le le_weakO List.prefix_rfl _ _ r)
end
theorem assigns_name {i : Nat} {d : D} : assigns (.name i) d = some [(i, d)] := by simp only [assigns]
theorem for_t {K : Kx} {tg : Tg} {k : SK} {es : List Z.E} {body : List Cmd} {E : Ends} (σ : L2.St) (H : Hp) (h : tS K (exec gl cal (.for_ tg k es body)) E σ H) :
    tFor (tI K fun env => M.bind (evalEs gl cal es env) (srcItems k)) (gT K tg) (tS K (execs gl cal body)) E σ H := by
  obtain ⟨G0, ρg, F, H0, ρ0, ρ, S, fr, O, I, p⟩ := h
  simp only [exec, ← M.bind_assoc] at p
  refine ⟨ow O false F, ρ, S, fr.env false, I.wf, I.env false, ?_⟩
  show PostI K (ow O false F) H ρ _ (M.bind (evalEs gl cal es (Fr.env false fr)) (srcItems k) S)
  cases h1 : M.bind (evalEs gl cal es (Fr.env false fr)) (srcItems k) S with
  | stuck => exact (by unfold M.bind at p h1; rw [h1] at p; exact p.elim)
  | exc x S' =>
    unfold M.bind at p h1
    rw [h1] at p
    exact I.raised (m := false) (fun z => by cases z.1) p
  | ok items S1 =>
  have p : PostS K G0 ρg F H0 ρ0 E (forLoop (fun x fr => match storeT tg x fr with
    | some fr' => execs gl cal body fr'
    | none => M.stk) items fr S1) := by
    unfold M.bind at p h1
    rw [h1] at p
    exact p
  intro J H1 ρ1 s its
  obtain ⟨hz, its⟩ := its
  have I1 := I.step s
  let f : D → Fr → M Out := fun x fr => match storeT tg x fr with
    | some fr' => execs gl cal body fr'
    | none => M.stk
  let Iv : Nat → L2.St → Hp → Prop := fun i σ H => ∃ ρ S fr O', FrI K (del H1 (ow O false F) ρ1) ρ1 F H0 ρ0 H ρ S fr σ O' ∧ PostS K G0 ρg F H0 ρ0 E (forLoop f (items.drop i) fr S)
  refine ⟨fun i m σ H => m = items.length - i ∧ i ≤ items.length ∧ Iv i σ H, ⟨items.length, by simp, Nat.zero_le _, ρ1, S1, fr, O, I1.base, p⟩, ?_⟩
  rintro i m σ H ⟨rfl, hi, ρ2, S2, fr2, O2, I2, p2⟩
  have nx : Nxt K (ow O false F) H1 ρ1 (ow O2 false F) H ρ2 S2 := ⟨I2.wf, I2.le, I2.pre⟩
  obtain ⟨g1, g2, g3⟩ := its _ _ _ _ nx
  by_cases hlt : i < items.length
  · refine .inr ⟨g1 i hlt, Iv (i + 1), fun σ' H' iv => ⟨items.length - (i + 1), by omega, rfl, hlt, iv⟩, fun x H2 y => ?_⟩
    obtain ⟨d, hd, st2, rx⟩ := g3 i x H2 hlt y
    have hdrop : items.drop i = d :: items.drop (i + 1) := by
      obtain ⟨e1, e2⟩ := List.getElem?_eq_some_iff.mp hd
      rw [← e2]
      exact List.drop_eq_getElem_cons e1
    rw [hdrop] at p2
    simp only [forLoop] at p2
    cases hs : storeT tg d fr2 with
    | none =>
      have p2 : PostS K G0 ρg F H0 ρ0 E (M.bind (f d fr2) _ S2) := p2
      have e : f d fr2 = M.stk := by show (match storeT tg d fr2 with | some fr' => execs gl cal body fr' | none => M.stk) = _; rw [hs]
      rw [e] at p2
      exact p2.elim
    | some fr' =>
      have p2 : PostS K G0 ρg F H0 ρ0 E (M.bind (f d fr2) _ S2) := p2
      have e : f d fr2 = execs gl cal body fr' := by show (match storeT tg d fr2 with | some fr' => execs gl cal body fr' | none => M.stk) = _; rw [hs]
      rw [e] at p2
      unfold M.bind at p2
      obtain ⟨as, ha, rfl⟩ := storeT_some hs
      have I3 := I2.step st2
      refine I3.target rx ha fun σ' I4 => ?_
      refine ⟨_, _, F, H0, ρ0, ρ2, S2, _, O2, I4, ?_⟩
      cases h3 : execs gl cal body (setAll fr2 (as.map fun p => (p.1, Slot.val p.2))) S2 with
      | stuck => rw [h3] at p2; exact p2.elim
      | exc x S3 => rw [h3] at p2; exact p2
      | ok o S3 =>
        rw [h3] at p2
        cases o with
        | nx fr3 => exact fun σ H ρ O I5 => ⟨ρ, S3, fr3, O, I5, p2⟩
        | ct fr3 => exact fun σ H ρ O I5 => ⟨ρ, S3, fr3, O, I5, p2⟩
        | bk fr3 => exact fun σ H ρ O I5 => p2 σ H ρ O (I5.weakG I1.le I1.pre)
        | ret d => exact p2
  · have e : i = items.length := by omega
    subst e
    rw [List.drop_length] at p2
    exact .inl ⟨g2, p2 σ H ρ2 O2 (I2.weakG I1.le I1.pre)⟩
theorem append_ok {i : Nat} {m : Bool} {e : Z.E} {x : Str} {ex : Expr} {p1 ap p pos : Pos} (hN : X.N[i]? = some x) (hv : visOf X.env.scope x = true) (hn : okName x = true) (hl : (ap.endLine == p.line) = true) (h : SndOk gl cal Tt Ee xc X e ex) :
    PS X (.Expr (.Call (.Attribute (.Name x p1) "append" ap) [ex] [] p) pos) (tS (Kx.mk X.K Tt Ee xc) (exec gl cal (.app m i e))) := by
  obtain ⟨n1, n2, _⟩ := okName_of hn
  refine PS.imp (ps_expr (pe_bm F.plainAttrs_list F.slot_list_append F.type_list_append mt_append (pe_var hN (vis_of hv) n1 n2) (pa_cons h.pe pa_nil (star_one h.star)) (by rw [base_one rfl]) (by rw [star_one h.star]; rfl) hl (star_one h.star) rfl) rfl) ?_
  rintro E σ H ⟨G0, ρg, F, H0, ρ0, ρ, S, fr, O, I, q⟩
  simp only [exec] at q
  cases hf : fr[i]? with
  | none => rw [hf] at q; exact q.elim
  | some sl =>
    cases sl with
    | own xs =>
      rw [hf] at q
      obtain ⟨a, vs, g1, g2, g3, g4, g5⟩ := I.own i xs hf
      refine ⟨_, g1, .inl ⟨rfl, vs, .inl (.inl g3)⟩, I.readB q fun d S1 v H1 ρ1 _ I1 r _ _ q => ?_⟩
      have q : PostS (Kx.mk X.K Tt Ee xc) G0 ρg F H0 ρ0 E ((if xs.length < sizeLine then M.ret (Out.nx (fr.set i (.own (xs ++ [d])))) else M.stk) S1) := q
      by_cases hz : xs.length < sizeLine
      · rw [if_pos hz] at q
        obtain ⟨a', vs', k1, k2, k3, k4, k5⟩ := I1.own i xs hf
        rw [g1] at k1
        cases k1
        refine ⟨a, vs', v, rfl, rfl, k3, by rw [k4.length]; exact hz, ?_⟩
        exact q _ _ _ _ (I1.write hf g1 (k4.append (.cons r .nil)) (by rw [List.length_append]; exact hz))
      · rw [if_neg hz] at q
        exact q.elim
    | _ => rw [hf] at q; exact q.elim
theorem sub_rfl {o i : Expr} {pos : Pos} {env : PySem.Env} (h : noSlice i = true) (v : Value) : assign (.Subscript o i pos) env v = (do
      let ov ← holding [v] (eval o env)
      let iv ← holding [v, ov] (eval i env)
      standAt pos
      holding [v, ov, iv] (setItem ov iv v)
      release [v, ov, iv] []) := by
  cases i <;> first | rfl | cases h
theorem setIx_ok {o i v : Z.E} {o' i' v' : Expr} {p pos : Pos} (h1 : SndOk gl cal Tt Ee xc X o o') (h2 : SndOk gl cal Tt Ee xc X i i') (h3 : SndOk gl cal Tt Ee xc X v v') (hi : noSlice i' = true) :
    PS X (.Assign [.Subscript o' i' p] v' pos) (tS (Kx.mk X.K Tt Ee xc) (exec gl cal (.setIx o i v))) := by
  refine PS.imp (ps_asg h3.pe (pg_sub h1.pe h2.pe set_list (fun u => sub_rfl hi u)) (by cases v' <;> rfl) (by cases v' <;> rfl) rfl) ?_
  rintro E σ H ⟨G0, ρg, F, H0, ρ0, ρ, S, fr, O, I, q⟩
  simp only [exec] at q
  refine I.readB q fun d S1 vv H1 ρ1 hcl I1 r1 l1 p1 q => I1.readB q fun a S2 va H2 ρ2 _ I2 r2 l2 p2 q => I2.readB q fun j S3 vj H3 ρ3 _ I3 r3 l3 p3 q => ?_
  have r1 := Rep.le l3 p3 _ _ (Rep.le l2 p2 _ _ r1)
  have r2 := Rep.le l3 p3 _ _ r2
  cases r2 with
  | @loc ad n hn =>
    cases r3 with
    | int j =>
      have q : PostS (Kx.mk X.K Tt Ee xc) G0 ρg F H0 ρ0 E (match S3[n]? with
        | some (.lst xs) => (match L2.ixN xs.length j with
          | some q => .ok (.nx fr) (S3.set n (.lst (xs.set q d)))
          | none => .stuck)
        | _ => .stuck) := q
      cases hS : S3[n]? with
      | none => rw [hS] at q; exact q.elim
      | some o =>
        cases o with
        | lst xs =>
          rw [hS] at q
          have q : PostS (Kx.mk X.K Tt Ee xc) G0 ρg F H0 ρ0 E (match L2.ixN xs.length j with
            | some q => .ok (.nx fr) (S3.set n (.lst (xs.set q d)))
            | none => .stuck) := q
          obtain ⟨vs, g1, g2, g3, g4⟩ := I3.wf.at_ n ad _ hn hS
          cases hj : L2.ixN xs.length j with
          | none => rw [hj] at q; exact q.elim
          | some k =>
            rw [hj] at q
            refine ⟨ad, vs, j, k, rfl, rfl, g1, by rw [g2.length]; exact hj, ?_⟩
            exact q _ _ _ _ (I3.sto hn (g2.set r1 k) (by rw [List.length_set]; exact g3) (clns_set k g4 (hcl rfl)))
    | _ => exact q.elim
  | _ => cases r3 <;> exact q.elim
theorem putIx_ok {m : Bool} {i : Nat} {x : Str} {j v : Z.E} {j' v' : Expr} {p1 p pos : Pos} (hN : X.N[i]? = some x) (hv : visOf X.env.scope x = true) (hn : okName x = true) (h2 : SndOk gl cal Tt Ee xc X j j') (h3 : SndOk gl cal Tt Ee xc X v v') (hi : noSlice j' = true) :
    PS X (.Assign [.Subscript (.Name x p1) j' p] v' pos) (tS (Kx.mk X.K Tt Ee xc) (exec gl cal (.putIx m i j v))) := by
  obtain ⟨n1, n2, _⟩ := okName_of hn
  refine PS.imp (ps_asg h3.pe (pg_sub (pe_var hN (vis_of hv) n1 n2) h2.pe set_list (fun u => sub_rfl hi u)) (by cases v' <;> rfl) (by cases v' <;> rfl) rfl) ?_
  rintro E σ H ⟨G0, ρg, F, H0, ρ0, ρ, S, fr, O, I, q⟩
  simp only [exec] at q
  cases hf : fr[i]? with
  | none => rw [hf] at q; exact q.elim
  | some sl =>
    cases sl with
    | own xs =>
      rw [hf] at q
      refine I.readB q fun d S1 vv H1 ρ1 _ I1 r1 l1 p1 q => ?_
      obtain ⟨a, vs, g1, g2, g3, g4, g5⟩ := I1.own i xs hf
      refine ⟨_, g1, I1.readB q fun dj S2 vj H2 ρ2 _ I2 r2 l2 p2 q => ?_⟩
      have r1 := Rep.le l2 p2 _ _ r1
      cases r2 with
      | int j =>
        have q : PostS (Kx.mk X.K Tt Ee xc) G0 ρg F H0 ρ0 E ((match L2.ixN xs.length j with
          | some q => M.ret (Out.nx (fr.set i (.own (xs.set q d))))
          | none => M.stk) S2) := q
        obtain ⟨a', vs', k1, k2, k3, k4, k5⟩ := I2.own i xs hf
        rw [g1] at k1
        cases k1
        cases hj : L2.ixN xs.length j with
        | none => rw [hj] at q; exact q.elim
        | some k =>
          rw [hj] at q
          refine ⟨a, vs', j, k, rfl, rfl, k3, by rw [k4.length]; exact hj, ?_⟩
          exact q _ _ _ _ (I2.write hf g1 (k4.set r1 k) (by rw [List.length_set]; exact k5))
      | _ => exact q.elim
    | _ => rw [hf] at q; exact q.elim
theorem own_ok (y : YOk cf gl cal N Tt Ee xc X) {i : Nat} {x : Str} {es : List Z.E} {xs : List Expr} {p1 p2 pos : Pos} (hN : X.N[i]? = some x) (hv : locOf X.env.scope x = true) (h : SndAll gl cal Tt Ee xc X es xs) :
    PS X (.Assign [.Name x p1] (.List xs p2) pos) (tS (Kx.mk X.K Tt Ee xc) (exec gl cal (.own i es))) := by
  obtain ⟨h1, h2⟩ := loc_ok y hv
  refine PS.imp (ps_asg (pe_lst h.pa) (pg_name (by rw [y.nm]; exact y.nd) hN h1 h2) rfl rfl rfl) ?_
  rintro E σ H ⟨G0, ρg, F, H0, ρ0, ρ, S, fr, O, I, q⟩
  simp only [exec] at q
  refine I.readsB q fun ds S1 vs H1 ρ1 _ I1 r q => ?_
  have q : PostS (Kx.mk X.K Tt Ee xc) G0 ρg F H0 ρ0 E ((if ds.length ≤ sizeLine then M.ret (Out.nx (fr.set i (.own ds))) else M.stk) S1) := q
  by_cases hz : ds.length ≤ sizeLine
  · rw [if_pos hz] at q
    exact ⟨by rw [r.length]; exact hz, fun p hp => q _ _ _ _ (I1.putOwn hp r hz)⟩
  · rw [if_neg hz] at q
    exact q.elim
theorem par_ok (y : YOk cf gl cal N Tt Ee xc X) {m : Bool} {is : List Nat} {es : List Z.E} {t ex : Expr} {xs : List Expr} {pos : Pos} (hp : parOk X.env.scope N is t ex = some xs) (h : SndAll gl cal Tt Ee xc X es xs) :
    PS X (.Assign [t] ex pos) (tS (Kx.mk X.K Tt Ee xc) (exec gl cal (.par m is es))) := by
  unfold parOk at hp
  split at hp
  · rename_i x px yn py k1 p1 a b k2 p2
    split at hp
    · rename_i i j
      split at hp
      · rename_i hc
        cases hp
        simp only [Bool.and_eq_true, decide_eq_true_eq, Bool.not_eq_true'] at hc
        obtain ⟨⟨⟨⟨⟨⟨⟨⟨⟨⟨⟨c1, c2⟩, c3⟩, c4⟩, c5⟩, c6⟩, c7⟩, c8⟩, c9⟩, c10⟩, c11⟩, c12⟩ := hc
        have hNd : X.N.Nodup := by rw [y.nm]; exact y.nd
        refine PS.imp (ps_par y.calm hNd (by rw [y.nm]; exact c1) (by rw [y.nm]; exact c2) c3 c4 c5 h.pa (par_sw y.kind c4 c5 c6 c7 c8 c9 c10 c11 c12) rfl) ?_
        rintro E σ H ⟨G0, ρg, F, H0, ρ0, ρ, S, fr, O, I, q⟩
        simp only [exec] at q
        refine I.readsB q fun ds S1 vs H1 ρ1 _ I1 r q => ?_
        have q : PostS (Kx.mk X.K Tt Ee xc) G0 ρg F H0 ρ0 E ((if ds.length = 2 then M.ret (Out.nx (setAll fr ([i, j].zip (ds.map Slot.val)))) else M.stk) S1) := q
        by_cases hz : ds.length = 2
        · rw [if_pos hz] at q
          match ds, hz, r, q with
          | [d1, d2], _, r, q =>
            cases r with
            | cons r1 r =>
              cases r with
              | cons r2 r =>
                cases r
                exact ⟨_, _, rfl, q _ _ _ _ ((I1.put (i := i) r1).put (i := j) r2)⟩
        · rw [if_neg hz] at q
          exact q.elim
      · cases hp
    · cases hp
  · rename_i x px yn py z pz k1 p1 a b c k2 p2
    split at hp
    · rename_i i j l
      split at hp
      · rename_i hc
        cases hp
        simp only [Bool.and_eq_true, decide_eq_true_eq, Bool.not_eq_true'] at hc
        obtain ⟨⟨⟨⟨⟨⟨⟨⟨⟨⟨⟨⟨⟨⟨⟨⟨c1, c2⟩, c3⟩, c4⟩, c5⟩, c6⟩, c7⟩, c8⟩, c9⟩, c10⟩, c11⟩, c12⟩, c13⟩, c14⟩, c15⟩, c16⟩, c17⟩ := hc
        have hNd : X.N.Nodup := by rw [y.nm]; exact y.nd
        refine PS.imp (ps_par3 y.calm hNd (by rw [y.nm]; exact c1) (by rw [y.nm]; exact c2) (by rw [y.nm]; exact c3) c4 c5 c6 c7 c8 c9 h.pa (par_sw3 y.kind c7 c8 c9 c10 c11 c12 c13 c14 c15 c16 c17) rfl) ?_
        rintro E σ H ⟨G0, ρg, F, H0, ρ0, ρ, S, fr, O, I, q⟩
        simp only [exec] at q
        refine I.readsB q fun ds S1 vs H1 ρ1 _ I1 r q => ?_
        have q : PostS (Kx.mk X.K Tt Ee xc) G0 ρg F H0 ρ0 E ((if ds.length = 3 then M.ret (Out.nx (setAll fr ([i, j, l].zip (ds.map Slot.val)))) else M.stk) S1) := q
        by_cases hz : ds.length = 3
        · rw [if_pos hz] at q
          match ds, hz, r, q with
          | [d1, d2, d3], _, r, q =>
            cases r with
            | cons r1 r =>
              cases r with
              | cons r2 r =>
                cases r with
                | cons r3 r =>
                  cases r
                  exact ⟨_, _, _, rfl, q _ _ _ _ (((I1.put (i := i) r1).put (i := j) r2).put (i := l) r3)⟩
        · rw [if_neg hz] at q
          exact q.elim
      · cases hp
    · cases hp
  · cases hp
theorem FrI.testB {K : Kx} {G0 H0 H : Hp} {ρg ρ0 ρ : List Addr} {F : Fs} {S : Store} {fr : Fr} {σ : L2.St} {O : List Addr} {E : Ends} (I : FrI K G0 ρg F H0 ρ0 H ρ S fr σ O) {m : Bool} {e : Z.E} {k : Bool → M Out} (q : PostS K G0 ρg F H0 ρ0 E (M.bind (readE gl cal m e fr) (fun d => M.bind (truth d) k) S)) {Q : Bool → Hp → Prop}
    (f : ∀ c S1 H1 ρ1, FrI K G0 ρg F H0 ρ0 H1 ρ1 S1 fr σ O → PostS K G0 ρg F H0 ρ0 E (k c S1) → Q c H1) : Z.tB K (fun env => M.bind (evalE gl cal e env) truth) σ H Q := by
  refine ⟨ow O m F, ρ, S, fr.env m, I.wfm m, I.env m, ?_⟩
  show PostB K _ _ _ _ (M.bind (evalE gl cal e (fr.env m)) truth S)
  unfold M.bind readE at q
  cases h : evalE gl cal e (fr.env m) S with
  | stuck => simp only [M.bind, h, fitX] at q; exact q.elim
  | exc x S' =>
    simp only [M.bind, h, fitX] at q
    unfold M.bind
    rw [h]
    by_cases hc : m = true ∧ (x.arg.map D.cln) = some false
    · rw [if_pos hc] at q; exact q.elim
    · rw [if_neg hc] at q
      exact I.raised hc q
  | ok d S1 =>
    simp only [M.bind, h] at q
    cases hf : fitM m d S1 with
    | exc _ _ =>
      unfold fitM at hf
      split at hf <;> cases hf
    | stuck => simp only [hf, fitX] at q; exact q.elim
    | ok d' S' =>
      simp only [hf, fitX] at q
      obtain ⟨rfl, rfl, hc⟩ := fit_ok hf
      unfold M.bind
      rw [h]
      cases d' with
      | bl c => exact fun H1 ρ1 s => f c S' H1 ρ1 (I.step (I.stepm s)) q
      | _ => exact q.elim
theorem while_t {K : Kx} {n : Nat} {m : Bool} {t : Z.E} {body : List Cmd} {E : Ends} (σ : L2.St) (H : Hp) (h : tS K (exec gl cal (.whl n m t body)) E σ H) :
    tWhile (Z.tB K fun env => M.bind (evalE gl cal t env) truth) (tS K (execs gl cal body)) E σ H := by
  obtain ⟨G0, ρg, F, H0, ρ0, ρ, S, fr, O, I, p⟩ := h
  simp only [exec] at p
  refine ⟨fun n σ H => ∃ ρ S fr O, FrI K G0 ρg F H0 ρ0 H ρ S fr σ O ∧ PostS K G0 ρg F H0 ρ0 E (whileLoop (fun fr => M.bind (readE gl cal m t fr) truth) (fun fr => execs gl cal body fr) n fr S), ⟨n, ρ, S, fr, O, I, p⟩, ?_⟩
  rintro n σ H ⟨ρ, S, fr, O, I, p⟩
  cases n with
  | zero => exact p.elim
  | succ n =>
    simp only [whileLoop] at p
    rw [M.bind_assoc] at p
    refine I.testB p fun c S2 H1 ρ1 I1 p => ?_
    cases c with
    | true =>
      rw [if_pos rfl] at p
      rw [if_pos rfl]
      refine ⟨fun σ H => ∃ ρ S fr O, FrI K G0 ρg F H0 ρ0 H ρ S fr σ O ∧ PostS K G0 ρg F H0 ρ0 E (whileLoop (fun fr => M.bind (readE gl cal m t fr) truth) (fun fr => execs gl cal body fr) n fr S), fun σ' H' hN => ⟨n, Nat.lt_succ_self n, hN⟩, _, _, _, _, _, _, _, _, _, I1, ?_⟩
      unfold M.bind at p
      cases e4 : execs gl cal body fr S2 with
      | stuck => rw [e4] at p; exact p.elim
      | exc x S3 => rw [e4] at p; exact p
      | ok o S3 =>
        rw [e4] at p
        cases o with
        | nx fr3 => exact fun σ H ρ O I5 => ⟨ρ, S3, fr3, O, I5, p⟩
        | ct fr3 => exact fun σ H ρ O I5 => ⟨ρ, S3, fr3, O, I5, p⟩
        | bk fr3 => exact p
        | ret d => exact p
    | false =>
      rw [if_neg (by decide)] at p
      rw [if_neg (by decide)]
      exact p _ _ _ _ I1
/-- raise -/
theorem raise_ok (y : YOk cf gl cal N Tt Ee xc X) {m : Bool} {x : Str} {fo : Option Str} {es : List Z.E} {xs : List Expr} {p pos p2 : Pos} (hx : cf.exs.lookup x = some fo) (hl : es.length ≤ 1) (hfo : (fo.isSome == !es.isEmpty) = true) (hg : gloOf X.env.scope x = true) (h : SndAll gl cal Tt Ee xc X es xs) :
    PS X (.Raise (some (.Call (.Name x p) xs [] pos)) none p2) (tS (Kx.mk X.K Tt Ee xc) (exec gl cal (.raise m x es))) := by
  have M := y.exm x fo hx
  obtain ⟨C, hC⟩ := M.kn
  have hlen : xs.length = (if fo.isSome = true then 1 else 0) := by
    rw [← h.len]
    have e := eq_of_beq hfo
    rw [e]
    match es, hl with
    | [], _ => rfl
    | [_], _ => rfl
  refine PS.imp (ps_raise y.calm y.tk (M.make h.pa h.star hlen (glo_of rfl hg))) ?_
  rintro E σ H ⟨G0, ρg, F, H0, ρ0, ρ, S, fr, O, I, q⟩
  simp only [exec] at q
  refine I.readsB q fun ds S1 vs H1 ρ1 _ I1 r q => ?_
  have q : PostS (Kx.mk X.K Tt Ee xc) G0 ρg F H0 ρ0 E (if ds.length = es.length ∧ ds.length ≤ 1 then Res.exc ⟨x, ds[0]?⟩ S1 else .stuck) := q
  by_cases hds : ds.length = es.length ∧ ds.length ≤ 1
  · rw [if_pos hds] at q
    refine ⟨by rw [r.length, ← h.len]; exact hds.1, fun C' d fs hC' hd ht hf => ?_⟩
    rw [hC] at hC'
    cases hC'
    have st := I1.st.wf.laid hd (.xd fs)
    refine q (.ref C) (some d) _ ρ1 (I1.st.trans st) ⟨C, fo, d, fs, hC, rfl, rfl, upd_same, ht, ?_⟩
    have e := eq_of_beq hfo
    match ds, vs, es, r, hds, hf, e with
    | [], _, [], .nil, _, _, e =>
      cases fo with
      | none => trivial
      | some f => cases e
    | [a], _, [_], .cons r1 .nil, _, hf, e =>
      cases fo with
      | none => cases e
      | some f => exact ⟨_, hf f rfl, Rep.le st.le List.prefix_rfl _ _ (Rep.le le_weakO List.prefix_rfl _ _ r1)⟩
  · rw [if_neg hds] at q
    exact q.elim
theorem chkCs_cons {c : Cmd} {cs : List Cmd} {st : Stmt} {sts : List Stmt} {sc : Scope} (hc : ∀ i, c ≠ .frz i) (h : chkCs cf N sc (c :: cs) (st :: sts) = true) : chkC cf N sc c st = true ∧ chkCs cf N sc cs sts = true := by
  cases c <;> first | exact absurd rfl (hc _) | (simp only [chkCs, Bool.and_eq_true] at h; exact h)
theorem chkCs_cons0 {c : Cmd} {cs : List Cmd} {sc : Scope} (hc : ∀ i, c ≠ .frz i) (h : chkCs cf N sc (c :: cs) [] = true) : False := by
  cases c <;> first | exact absurd rfl (hc _) | (simp only [chkCs] at h; cases h)
mutual
theorem sndC : ∀ (c : Cmd) (st : Stmt), YOk cf gl cal N Tt Ee xc X → chkC cf N X.env.scope c st = true → PS X st (tS (Kx.mk X.K Tt Ee xc) (exec gl cal c))
  | .asg m tg e, st, y, h => by
    simp only [chkC] at h
    split at h
    · rename_i t ex pos
      simp only [Bool.and_eq_true, Bool.or_eq_true] at h
      obtain ⟨⟨⟨h1, h2⟩, h3⟩, h4⟩ := h
      have hg := sndT (Tt := Tt) (Ee := Ee) (xc := xc) (ok := locOf X.env.scope) y.nm y.nd y.calm (fun x hx => loc_ok y hx) tg t h2
      have he := sndE e cf Ee X ex y.toXOk h3
      rcases h4 with h4 | h4
      · exact PS.imp (ps_asg he.pe hg (swap_no h4.1) (swapNone_ok h4.2) (by rw [assign_star h1]; rfl)) fun D σ H q => asg_t σ H q
      · obtain ⟨yn, py, elt, gs, scope, p2, rfl, rfl, hl, hsw⟩ := swapC_ok y.kind h4
        cases tg with
        | tup _ => simp only [chkT] at h2; cases h2
        | name i =>
          simp only [chkT, Bool.and_eq_true, decide_eq_true_eq] at h2
          cases e with
          | comp own elt0 tg0 k es ifs =>
            simp only [chkE] at h3
            split at h3
            · rename_i g
              simp only [Bool.and_eq_true, decide_eq_true_eq] at h3
              obtain ⟨⟨⟨⟨⟨⟨⟨⟨⟨ha, hb⟩, ht⟩, hi⟩, hn⟩, hv⟩, hle⟩, hts⟩, hif⟩, hel⟩ := h3
              split at hv
              · rename_i xs hsv
                obtain ⟨tgx, it, ifs', as⟩ := g
                have ha : as = 0 := eq_of_beq ha
                subst ha
                have hN : X.N = N := y.nm
                have hw : own = (ownN N own).map (·.2) := by unfold ownN; rw [List.map_map]; exact (List.map_id' own).symm
                refine PS.imp (ps_setLc (own := ownN N own) (g := gT (Kx.mk X.K Tt Z.nx xc) tg0) (tt := Z.tB (Kx.mk X.K Tt Z.nx xc) (evalIfs gl cal ifs)) (te := tE (Kx.mk X.K Tt Z.nx xc) (evalE gl cal elt0)) y.calm (by rw [hN]; exact y.nd) (by rw [hN]; exact h2.1) hl hsw (src_snd y.toXOk hsv (sndEs es cf Ee X xs y.toXOk hv)) (by rw [hN]; exact blkOk_by hb) (fun s H C cl fp => ?_) (fun s H C cl fp => ?_) (fun s H C cl fp => ?_) (fun x => noSet_ok hn)) ?_
                · exact sndT (X := X.blk s H scope (compEnvC scope cl C X.env) fp) (N := N) (ok := locOf scope) hN y.nd y.calm (fun x hx => locOf_blk hx) tg0 tgx ht
                · exact pts_snd hle hts (sndEs ifs { cf with lm := false } Z.nx (X.blk s H scope (compEnvC scope cl C X.env) fp) ifs' (y.toXOk.blk _ _ _ _ _) hif)
                · exact (sndE elt0 { cf with lm := false } Z.nx (X.blk s H scope (compEnvC scope cl C X.env) fp) elt (y.toXOk.blk _ _ _ _ _) hel).pe
                · intro D σ H q
                  have z := asg_t σ H q
                  rw [← hw]
                  refine comp_t hi σ H _ ?_
                  obtain ⟨F, ρ, S, env, w, ev, p⟩ := z
                  refine ⟨F, ρ, S, env, w, ev, p.imp ?_⟩
                  rintro v H1 ⟨F, ρ, S, d, as, w, r, e, q⟩
                  rw [assigns_name] at e
                  cases e
                  exact q [v] (.cons r .nil)
              · cases hv
            · cases h3
          | _ => first | (simp only [chkE] at h3; cases h3; done) | (simp only [chkE, viewE] at h3; cases h3; done)
    · cases h
  | .own i es, st, y, h => by
    simp only [chkC] at h
    split at h
    · simp only [Bool.and_eq_true, decide_eq_true_eq] at h
      exact own_ok y (by rw [y.nm]; exact h.1.1) h.1.2 (sndEs es cf Ee X _ y.toXOk h.2)
    · cases h
  | .app m i e, st, y, h => by
    simp only [chkC] at h
    split at h
    · simp only [Bool.and_eq_true, decide_eq_true_eq] at h
      obtain ⟨⟨⟨⟨⟨h1, h2⟩, h3⟩, h4⟩, h5⟩, h6⟩ := h
      have h1 := eq_of_beq h1
      subst h1
      exact append_ok (by rw [y.nm]; exact h2) h3 h4 h5 (sndE e cf Ee X _ y.toXOk h6)
    · cases h
  | .setIx o i v, st, y, h => by
    simp only [chkC] at h
    split at h
    · simp only [Bool.and_eq_true] at h
      exact setIx_ok (sndE o cf Ee X _ y.toXOk h.1.1.1) (sndE i cf Ee X _ y.toXOk h.1.1.2) (sndE v cf Ee X _ y.toXOk h.1.2) h.2
    · cases h
  | .putIx m i j v, st, y, h => by
    simp only [chkC] at h
    split at h
    · simp only [Bool.and_eq_true, decide_eq_true_eq] at h
      exact putIx_ok (by rw [y.nm]; exact h.1.1.1.1.1) h.1.1.1.1.2 h.1.1.1.2 (sndE j cf Ee X _ y.toXOk h.1.1.2) (sndE v cf Ee X _ y.toXOk h.1.2) h.2
    · cases h
  | .par m is es, st, y, h => by
    simp only [chkC] at h
    split at h
    · split at h
      · rename_i xs hp
        exact par_ok y hp (sndEs es cf Ee X xs y.toXOk h)
      · cases h
    · cases h
  | .ifs m t a b, st, y, h => by
    simp only [chkC] at h
    split at h
    · simp only [Bool.and_eq_true] at h
      refine PS.imp (ps_if ((sndE t cf Ee X _ y.toXOk h.1.1.2).pt h.1.1.1) (sndCs a _ y h.1.2) (sndCs b _ y h.2)) ?_
      rintro E σ H ⟨G0, ρg, F, H0, ρ0, ρ, S, fr, O, I, q⟩
      simp only [exec] at q
      refine I.testB q fun c S2 H1 ρ1 I1 q => ?_
      cases c with
      | true => exact ⟨_, _, _, _, _, _, _, _, _, I1, q⟩
      | false => exact ⟨_, _, _, _, _, _, _, _, _, I1, q⟩
    · cases h
  | .for_ tg k es body, st, y, h => by
    simp only [chkC] at h
    split at h
    · simp only [Bool.and_eq_true] at h
      obtain ⟨⟨⟨h1, h2⟩, h3⟩, h4⟩ := h
      split at h4
      · rename_i xs hsv
        exact PS.imp (ps_for y.own y.calm (src_snd y.toXOk hsv (sndEs es cf Ee X xs y.toXOk h4)) (sndT (ok := locOf X.env.scope) y.nm y.nd y.calm (fun x hx => loc_ok y hx) tg _ h1) (sndCs body _ y h3) (fun x => noSet_ok h2)) fun D σ H q => for_t σ H q
      · cases h4
    · cases h
  | .ret m e, st, y, h => by
    simp only [chkC] at h
    split at h
    · refine PS.imp (ps_ret (sndE e cf Ee X _ y.toXOk h).pe) ?_
      rintro E σ H ⟨G0, ρg, F, H0, ρ0, ρ, S, fr, O, I, q⟩
      simp only [exec] at q
      exact I.readB q fun d S1 v H1 ρ1 _ I1 r _ _ q => I1.ret r q
    · cases h
  | .expr m e, st, y, h => by
    simp only [chkC] at h
    split at h
    · simp only [Bool.and_eq_true] at h
      refine PS.imp (ps_expr (sndE e cf Ee X _ y.toXOk h.2).pe (swap_noE h.1)) ?_
      rintro E σ H ⟨G0, ρg, F, H0, ρ0, ρ, S, fr, O, I, q⟩
      simp only [exec] at q
      exact I.readB q fun d S1 v H1 ρ1 _ I1 r _ _ q => q _ _ _ _ I1
    · cases h
  | .frz i, st, y, h => by simp only [chkC] at h; cases h
  | .brk, st, y, h => by
    simp only [chkC] at h
    split at h
    · refine PS.imp ps_break ?_
      rintro E σ H ⟨G0, ρg, F, H0, ρ0, ρ, S, fr, O, I, q⟩
      simp only [exec] at q
      exact q _ _ _ _ I
    · cases h
  | .cnt, st, y, h => by
    simp only [chkC] at h
    split at h
    · refine PS.imp ps_continue ?_
      rintro E σ H ⟨G0, ρg, F, H0, ρ0, ρ, S, fr, O, I, q⟩
      simp only [exec] at q
      exact q _ _ _ _ I
    · cases h
  | .pass, st, y, h => by
    have fin : ∀ D σ H, tS (Kx.mk X.K Tt Ee xc) (exec gl cal .pass) D σ H → tNext D σ H := by
      rintro E σ H ⟨G0, ρg, F, H0, ρ0, ρ, S, fr, O, I, q⟩
      simp only [exec] at q
      exact q _ _ _ _ I
    simp only [chkC] at h
    split at h
    · exact PS.imp ps_pass fin
    · exact PS.imp ps_doc fin
    · cases h
  | .dead, st, y, h => PS.imp ps_never (by
      rintro E σ H ⟨G0, ρg, F, H0, ρ0, ρ, S, fr, O, I, q⟩
      simp only [exec] at q
      exact q)
  | .raise m x es, st, y, h => by
    simp only [chkC] at h
    split at h
    · simp only [Bool.and_eq_true, decide_eq_true_eq] at h
      obtain ⟨⟨⟨⟨⟨h1, h2⟩, h3⟩, h4⟩, h5⟩, h6⟩ := h
      have h1 := eq_of_beq h1
      subst h1
      split at h5
      · rename_i fo hfo
        exact raise_ok y hfo h4 h5 h2 (sndEs es cf Ee X _ y.toXOk h6)
      · cases h5
    · cases h
  | .whl n m t body, st, y, h => by
    simp only [chkC] at h
    split at h
    · simp only [Bool.and_eq_true] at h
      exact PS.imp (ps_while y.own ((sndE t cf Ee X _ y.toXOk h.1.2).pt h.1.1) (sndCs body _ y h.2)) fun D σ H q => while_t σ H q
    · cases h
theorem sndCs : ∀ (cs : List Cmd) (sts : List Stmt), YOk cf gl cal N Tt Ee xc X → chkCs cf N X.env.scope cs sts = true → PSs X sts (tS (Kx.mk X.K Tt Ee xc) (execs gl cal cs))
  | [], sts, y, h => by
    simp only [chkCs] at h
    cases sts with
    | cons _ _ => cases h
    | nil =>
      refine PSs.imp pss_nil ?_
      rintro E σ H ⟨G0, ρg, F, H0, ρ0, ρ, S, fr, O, I, q⟩
      simp only [execs] at q
      exact q _ _ _ _ I
  | c :: cs, sts, y, h => by
    by_cases hc : ∃ i, c = .frz i
    · obtain ⟨i, rfl⟩ := hc
      simp only [chkCs] at h
      refine PSs.imp (sndCs cs sts y h) ?_
      rintro E σ H ⟨G0, ρg, F, H0, ρ0, ρ, S, fr, O, I, q⟩
      simp only [execs, exec] at q
      cases hf : fr[i]? with
      | none => rw [hf] at q; exact q.elim
      | some sl =>
        cases sl with
        | own xs =>
          rw [hf] at q
          obtain ⟨O', I'⟩ := I.frz hf
          exact ⟨_, _, _, _, _, _, _, _, _, I', q⟩
        | _ => rw [hf] at q; exact q.elim
    · have hc : ∀ i, c ≠ .frz i := fun i e => hc ⟨i, e⟩
      cases sts with
      | nil => exact (chkCs_cons0 hc h).elim
      | cons st sts =>
        have h := chkCs_cons hc h
        refine PSs.imp (pss_cons (sndC c st y h.1) (sndCs cs sts y h.2)) ?_
        rintro E σ H ⟨G0, ρg, F, H0, ρ0, ρ, S, fr, O, I, q⟩
        simp only [execs] at q
        refine ⟨G0, ρg, F, H0, ρ0, ρ, S, fr, O, I, ?_⟩
        unfold M.bind at q
        cases e1 : exec gl cal c fr S with
        | stuck => rw [e1] at q; exact q.elim
        | exc x S1 => rw [e1] at q; exact q
        | ok o S1 =>
          rw [e1] at q
          cases o with
          | nx fr' => exact fun σ H ρ O I => ⟨_, _, _, _, _, _, _, _, _, I, q⟩
          | ret d => exact q
          | bk fr' => exact q
          | ct fr' => exact q
end
end
end Z

/-! Z18: defs -/
namespace Z
open PySem PySem.Spec PyProof.Rows L2
/-- a def of the text and its reading; lm: it holds lambdas, or calls such -/
structure Ent where
  x : Str
  st : Stmt
  N : List Str
  np : Nat
  body : List Cmd
  lm : Bool := false
def Ent.dd (e : Ent) : He.DefD := ⟨(e.x, none), e.x, e.x, defArgs e.st, defBody e.st, defScope e.st, [], []⟩
def Ent.fn (e : Ent) : Fn := ⟨e.np, e.N.length, e.body⟩
def Ent.ps (e : Ent) : List Str := e.N.take e.np
def Ent.ok (cf : Cfg) (e : Ent) : Bool := C8.scC e.N e.ps (defScope e.st) && decide (e.np ≤ e.N.length) && chkCs { cf with lm := e.lm } e.N (defScope e.st) e.body (defBody e.st)
structure DefOk (K : PySem.W.Frag) (mg : Str → Option Value) (cf : Cfg) (f : Nat) (e : Ent) (fa : Addr) (fd : FuncData) : Prop where
  at_ : fa = He.fAd K (e.x, none)
  F : FunD K e.x e.x (defArgs e.st) (defBody e.st) (defScope e.st) [] [] fa fd
  mgf : mg e.x = some (.ref fa)
  b : Binds K fd e.ps []
  kb : ∀ n ks perm, (f, n, ks, perm) ∈ cf.kws → KBinds K fd e.ps ks (plc n ks.length perm) (plc n ks.length perm)
  ok : e.ok cf = true
/-- what is asked of the module -/
structure ModOk (P : Program) (w : World) (base : Heap) (K : PySem.W.Frag) (mg : Str → Option Value) (Tt : List (Addr × Str)) (xc : Str → Option (Addr × Option Str)) (cf : Cfg) (gl : Nat → Option D) (ents : List Ent) : Prop where
  defs : ∀ (f : Nat) (e : Ent), ents[f]? = some e → ∃ fa fd, DefOk K mg cf f e fa fd
  fns : ∀ x f, cf.fns.lookup x = some f → ∃ e, ents[f]? = some e ∧ e.x = x
  blt : ∀ x : Str, x ∈ bltNames → mg x = none
  glo : ∀ x g, cf.glo.lookup x = some g → ∃ u v d, mg x = some u ∧ RelV v u ∧ gl g = some d ∧ ∀ G ρ, Rep K G ρ v d
  lms : ∀ (f : Nat) (e : Ent), ents[f]? = some e → cf.lms.contains f = e.lm
  tab : ∀ e ∈ ents, e.lm = true → LamX.TabB base mg (He.cT K (e.x, none)).1 (He.cT K (e.x, none)).2 ∧ ((He.cT K (e.x, none)).2, e.x ++ ".<locals>." ++ "<lambda>") ∈ Tt ∧ ∀ p ∈ Tt, p.1 = (He.cT K (e.x, none)).2 → p.2 = e.x ++ ".<locals>." ++ "<lambda>"
  gots : ∀ x why, cf.gots.lookup x = some why → GotM K mg P w xc x why
  exm : ∀ x fo, cf.exs.lookup x = some fo → ∀ X : Cx, X.prog = P → X.w = w → X.K = K → X.mg = mg → X.base = base → X.calm = true → Room 10 X.A → ExcM X xc x fo
/-- how deep the frames are that a def wants -/
def lvl (k : Nat) (lm : Bool) : Nat := k + 10 + (if lm = true then 9 else 0)
section
variable {P : Program} {w : World} {K : PySem.W.Frag} {mg : Str → Option Value} {base : Heap} {Tt : List (Addr × Str)} {xc : Str → Option (Addr × Option Str)} {cf : Cfg} {gl : Nat → Option D} {ents : List Ent}
theorem frI_start {K : Kx} {H : Hp} {F : Fs} {ρ : List Addr} {S : Store} {vs : List V} {ds : List D} {N : List Str} (w : Wf K H F ρ S) (r : RepA K.K (del H F ρ) ρ vs ds) : FrI K (del H F ρ) ρ F H ρ H ρ S (startF N.length ds) (L2.start N vs) [] := by
  have hl := r.length
  refine ⟨Stp.refl w, w, ?_, fun i d h => ?_, fun i xs h => ?_, fun i j xs ys a h1 _ _ _ => ?_, fun a m => (by cases m), fun _ _ e => e, List.prefix_rfl, fun p m => (w.fd p m).1⟩
  · unfold startF L2.start
    simp only [List.length_append, List.length_map, List.length_replicate]
    omega
  · unfold startF at h
    by_cases hi : i < ds.length
    · rw [List.getElem?_append_left (by simpa using hi), List.getElem?_map] at h
      obtain ⟨d', h1, h2⟩ := Option.map_eq_some_iff.mp h
      cases h2
      obtain ⟨v, h3, h4⟩ := r.get h1
      refine ⟨v, ?_, h4⟩
      unfold L2.start
      rw [List.getElem?_append_left (by rw [List.length_map]; omega), List.getElem?_map, h3]
      rfl
    · rw [List.getElem?_append_right (by simpa using hi), List.getElem?_replicate] at h
      split at h <;> cases h
  all_goals
    have key : ∀ (i : Nat) (xs : List D), (startF N.length ds)[i]? = some (Z.Slot.own xs) → False := fun i xs h => by
      unfold startF at h
      by_cases hi : i < ds.length
      · rw [List.getElem?_append_left (by simpa using hi), List.getElem?_map] at h
        obtain ⟨d', h1, h2⟩ := Option.map_eq_some_iff.mp h
        cases h2
      · rw [List.getElem?_append_right (by simpa using hi), List.getElem?_replicate] at h
        split at h <;> cases h
  · exact (key i xs h).elim
  · exact (key i xs h1).elim
theorem run_arity {prog : List Fn} {k f : Nat} {fn : Fn} {ds : List D} {S : Store} (h : prog[f]? = some fn) (n : ds.length ≠ fn.np) : run gl prog k f ds S = .stuck := by
  cases k with
  | zero => rfl
  | succ k =>
    unfold run
    rw [h]
    show (if ds.length = fn.np then _ else M.stk) S = _
    rw [if_neg n]
    rfl
theorem all_ok (m : ModOk P w base K mg Tt xc cf gl ents) : ∀ (k f : Nat) (e : Ent) (fa : Addr) (fd : FuncData), ents[f]? = some e → DefOk K mg cf f e fa fd → FnOk P w K mg base (L2.CX P w) (lvl k e.lm) fa fd e.ps (spD (Kx.mk K Tt Z.nx xc) e.np (run gl (ents.map Ent.fn) k f))
  | k, f, e, fa, fd, he, d => by
    have hok := d.ok
    unfold Ent.ok at hok
    simp only [Bool.and_eq_true, decide_eq_true_eq] at hok
    obtain ⟨⟨h1, h2⟩, h3⟩ := hok
    have S := C8.fnScope_by h1
    have hl : e.ps.length = e.np := by unfold Ent.ps; rw [List.length_take]; omega
    cases k with
    | zero =>
      refine ⟨fun vs H Q E h => by rw [hl]; exact h.1, fun A outer s H args us vs Q E _ _ _ _ h => ?_⟩
      obtain ⟨_, F, ρ, S, ds, w, r, p⟩ := h
      exact p.elim
    | succ k =>
      obtain ⟨oc, od, dV, kV, doc, pm, an, cdv, ct, osl, hfd, lk, hcd, _, _⟩ := d.F.ex
      have hlv : lvl (k + 1) e.lm = lvl k e.lm + 1 := by unfold lvl; omega
      rw [hlv]
      subst hfd
      refine fn_of lk hcd S (fun vs H Q E h => by rw [hl]; exact h.1) fun A outer s H vs Q E hr h => ?_
      have call : ∀ (rm : Nat) (x : Str) (g : Nat), cf.fns.lookup x = some g → (e.lm || !cf.lms.contains g) = true → ∀ b : Bool, (cf.lms.contains g = true → b = true) → ∃ fa2 fd2 ps np, mg x = some (.ref fa2) ∧ PySem.W.keepIn K (.ref fa2) = true ∧ Binds K fd2 ps [] ∧ FnOk P w K mg base (L2.CX P w) (lvl k b) fa2 fd2 ps (spD (Kx.mk K Tt E xc) np (run gl (ents.map Ent.fn) k g)) ∧ (∀ ds S, ds.length ≠ np → run gl (ents.map Ent.fn) k g ds S = .stuck) ∧ ∀ n ks perm, (g, n, ks, perm) ∈ cf.kws → KBinds K fd2 ps ks (plc n ks.length perm) (plc n ks.length perm) := by
        intro _ x g hx _ b hb
        obtain ⟨e2, g1, g2⟩ := m.fns x g hx
        obtain ⟨fa2, fd2, d2⟩ := m.defs g e2 g1
        refine ⟨fa2, fd2, e2.ps, e2.np, g2 ▸ d2.mgf, d2.F.kp, d2.b, (all_ok m k g e2 fa2 fd2 g1 d2).mono ?_, fun ds S n => ?_, d2.kb⟩
        · unfold lvl
          have := m.lms g e2 g1
          rw [this] at hb
          cases h : e2.lm with
          | false => simp
          | true => rw [hb h]; exact Nat.le_refl _
        · exact run_arity (fn := e2.fn) (by rw [List.getElem?_map, g1]; rfl) n
      have y : YOk { cf with lm := e.lm } gl (run gl (ents.map Ent.fn) k) e.N Tt E xc (cxOf (L2.CX P w) P w K mg base e.N e.x (defScope e.st) fa cdv A outer s H E) := by
        refine ⟨⟨rfl, S.nd, rfl, ?_, m.blt, m.glo, fun x g hx hg => ?_, takes_of rfl rfl rfl rfl, fun hlm => ?_⟩, S.kind, rfl, passes_of rfl, fun x fo hx => m.exm x fo hx _ rfl rfl rfl rfl rfl rfl (hr.mono (by unfold lvl; omega))⟩
        · have := hr.un
          show (A.deeper (envOfC e.x (defScope e.st) s.heap.objs.size fa cdv)).units + many + 100 < cLine
          unfold lvl at this
          unfold many
          omega
        · have hg : (e.lm || !cf.lms.contains g) = true := hg
          obtain ⟨fa2, fd2, ps, np, c1, c2, c3, c4, c5, c6⟩ := call 0 x g hx hg e.lm (fun z => by rw [z] at hg; simpa using hg)
          exact ⟨fa2, fd2, ps, lvl k e.lm, np, c1, c2, c3, hr, c4, c5, c6⟩
        · have hlm : e.lm = true := hlm
          obtain ⟨t1, t2, t3⟩ := m.tab e (List.mem_of_getElem? he) hlm
          obtain ⟨c, hc⟩ := He.codeIn_ref hcd
          have ec : He.codeOf K (e.x, none) = c := He.codeOf_eq (d.at_ ▸ lk) hc
          have hr8 : Room (k + 10 + 8) (A.deeper (envOfC e.x (defScope e.st) s.heap.objs.size fa cdv)) := hr.mono (by unfold lvl; rw [if_pos hlm]; omega)
          refine ⟨(He.cT K (e.x, none)).1, (He.cT K (e.x, none)).2, k + 10, t1, ?_, ?_, ?_, hr8, by omega, m.gots, fun x g hx hg => ?_⟩
          · show cdv = .ref (He.codeOf K (e.x, none))
            rw [ec, hc]
          · have q0 : (cxOf (L2.CX P w) P w K mg base e.N e.x (defScope e.st) fa cdv A outer s H E).env.qual = e.x ++ ".<locals>." := rfl
            rw [q0]
            exact t2
          · have q0 : (cxOf (L2.CX P w) P w K mg base e.N e.x (defScope e.st) fa cdv A outer s H E).env.qual = e.x ++ ".<locals>." := rfl
            rw [q0]
            exact t3
          · have hg : cf.lms.contains g = false := hg
            obtain ⟨fa2, fd2, ps, np, c1, c2, c3, c4, c5, c6⟩ := call 0 x g hx (by rw [hg]; simp) false (fun z => by rw [hg] at z; cases z)
            exact ⟨fa2, fd2, ps, np, c1, c2, c3, c4, c5, c6⟩
      refine ⟨tS (Kx.mk K Tt E xc) (execs gl (run gl (ents.map Ent.fn) k) e.body), sndCs e.body (defBody e.st) y h3, ?_⟩
      obtain ⟨hv, F, ρ, S0, ds, w0, r, p⟩ := h
      refine ⟨_, _, _, _, _, _, _, _, _, frI_start (N := e.N) w0 r, ?_⟩
      unfold run at p
      rw [List.getElem?_map, he] at p
      have p : Post (Kx.mk K Tt E xc) F H ρ Q ((if ds.length = e.np then M.bind (execs gl (run gl (ents.map Ent.fn) k) e.body (startF e.N.length ds)) fun o => (match o with
        | .ret d => M.ret d
        | .nx _ => M.ret .non
        | _ => M.stk) else M.stk) S0) := p
      rw [if_pos (by rw [← r.length]; exact hv)] at p
      unfold M.bind at p
      cases q : execs gl (run gl (ents.map Ent.fn) k) e.body (startF e.N.length ds) S0 with
      | exc x S1 => rw [q] at p; exact p
      | stuck => rw [q] at p; exact p.elim
      | ok o S1 =>
        rw [q] at p
        cases o with
        | ret d => exact p
        | nx fr => exact fun σ H' ρ' O I => p .non H' ρ' I.st .non
        | bk fr => exact p.elim
        | ct fr => exact p.elim
termination_by k => k
end
end Z

/-! ZR: errors of the program's own: a class whose __init__ calls super().__init__(text), stores tag, stores at most one field more -/
namespace Z
open PySem PySem.Spec PyProof.Rows L2

/-! ### the shape of such an __init__ -/
def erS1 (x : Str) : Stmt → Bool
  | .Expr (.Call (.Attribute (.Call (.Name s _) [] [] _) m p2) [.Constant (.str z) _ _] [] p4) _ => s == "super" && m == "__init__" && z == x && (p2.endLine == p4.line)
  | _ => false
def erS2 (x slf : Str) : Stmt → Bool
  | .Assign [.Attribute (.Name s _) f _] (.Constant (.str z) _ _) _ => s == slf && f == "tag" && z == x
  | _ => false
def erS3 (slf a f : Str) : Stmt → Bool
  | .Assign [.Attribute (.Name s _) g _] (.Name b _) _ => s == slf && g == f && b == a
  | _ => false
def erP : Arguments → Option (List Str)
  | ⟨[], as, none, [], [], none, []⟩ => some (as.map (·.arg))
  | _ => none
def erBody (x : Str) (fo : Option Str) (ps : List Str) (b : List Stmt) : Bool := match fo, ps, b with
  | none, [slf], [s1, s2] => erS1 x s1 && erS2 x slf s2
  | some f, [slf, a], [s1, s2, s3] => erS1 x s1 && erS2 x slf s2 && erS3 slf a f s3 && !(slf == a) && !(f == "tag")
  | _, _, _ => false
def erScope (ps : List Str) (sc : Scope) : Bool := decide (sc.kind = .function) && !sc.isCoroutine && !sc.isGenerator && decide (sc.names.lookup ("super" : Str) = some NameKind.globalImplicit) && decide (sc.names.lookup ("__class__" : Str) = some NameKind.free) &&
  ps.all (fun p => decide (sc.names.lookup p = some .local) && okName p) && sc.names.all fun y => !decide (y.2 = .cell) && (!decide (y.2 = .free) || y.1 == "__class__")
def veBm : List Value := [.type "ValueError", .type "Exception", .type "BaseException", .type "object"]
/-- the facts of the class x in K -/
def erB (K : PySem.W.Frag) (file x : Str) (fo : Option Str) : Bool :=
  let C := He.ga K x
  let fI := He.ma K C "__init__"
  (match PySem.W.nsIn K mainGlobals x with
    | some (some (.ref a)) => a == C
    | _ => false) &&
  (match K.lookup C with
    | some ⟨.type "type", _, .cls cd, sl⟩ => (match cd.mro, sl.toList with
      | .ref C' :: bm, [_, _, _, _, some (.builtin n), _] => C' == C && n == "ValueError.__new__" && !cd.hasDel && cd.hasDict && PySem.HandSPX.refsVE bm && decide (PySem.W.alongIn K "__init__" bm = some (some (.builtin "ValueError.__init__")))
      | _, _ => false)
    | _ => false) &&
  PySem.W.keepIn K (.ref C) && decide (PySem.W.subIn K (.ref C) (.type "BaseException") = some true) && decide (PySem.W.typeIn K (.ref C) = some (.type "type")) && decide (PySem.W.findIn K (.ref C) "__setattr__" = some (some (.builtin "object.__setattr__"))) &&
  decide (PySem.W.findIn K (.ref C) "tag" = some none) && (match fo with
    | some f => decide (PySem.W.findIn K (.ref C) f = some none)
    | none => true) &&
  decide (PySem.W.findIn K (.ref C) "__init__" = some (some (.ref fI))) && decide (PySem.W.typeIn K (.ref fI) = some (.type "function")) && decide (PySem.W.mroIn K C (.ref C) = some true) &&
  (match K.lookup fI with
    | some ⟨_, _, .func fd, _⟩ => decide (fd.defaults = .none) && fd.globals == mainGlobals && fd.builtins == builtinsNs && PySem.W.codeIn K fd.code fd.qualname && erScope ((erP fd.params).getD []) fd.scope &&
      (match fd.closure with
        | [(n, cc)] => n == "__class__" && (match K.lookup cc with
          | some ⟨_, _, .cell (some (.ref D)), _⟩ => D == C
          | _ => false)
        | _ => false) &&
      (match fd.code with
        | .ref c => (match K.lookup c with
          | some ⟨_, _, .fields vs, _⟩ => (match (vs[2]? : Option Value) with
            | some (.str z _) => file == z
            | _ => false)
          | _ => false)
        | _ => false) &&
      (match fd.body with
        | .stmts b => erBody x fo ((erP fd.params).getD []) b && (erP fd.params).isSome
        | _ => false)
    | _ => false) &&
  decide (PySem.W.nsIn K mainGlobals "super" = some none) && decide (PySem.W.nsIn K cStatics "thirdparty.any" = some none)
/-- .. read -/
structure ErC (K : PySem.W.Frag) (file x : Str) (fo : Option Str) (C fI cc cda : Addr) (fd : FuncData) (params : Arguments) (ps : List Str) (body : List Stmt) : Prop where
  glob : PySem.W.nsIn K mainGlobals x = some (some (.ref C))
  cls : ∃ nm q N bs bm sn sub ab col dd k0 k1 k2 k3 k5, K.lookup C = some (excClassObj nm q C N bs bm true sn sub ab col dd k0 k1 k2 k3 k5 "ValueError.__new__") ∧ PySem.HandSPX.refsVE bm = true ∧ PySem.W.alongIn K "__init__" bm = some (some (.builtin "ValueError.__init__"))
  kC : PySem.W.keepIn K (.ref C) = true
  exC : PySem.W.subIn K (.ref C) (.type "BaseException") = some true
  tyC : PySem.W.typeIn K (.ref C) = some (.type "type")
  sa : PySem.W.findIn K (.ref C) "__setattr__" = some (some (.builtin "object.__setattr__"))
  tag : PySem.W.findIn K (.ref C) "tag" = some none
  fld : ∀ f, fo = some f → PySem.W.findIn K (.ref C) f = some none
  iC : PySem.W.findIn K (.ref C) "__init__" = some (some (.ref fI))
  tI : PySem.W.typeIn K (.ref fI) = some (.type "function")
  mro : PySem.W.mroIn K C (.ref C) = some true
  lk : ∃ oc od osl, K.lookup fI = some ⟨oc, od, .func fd, osl⟩
  fdD : fd.defaults = .none
  fdG : fd.globals = mainGlobals
  fdB : fd.builtins = builtinsNs
  fdP : fd.params = params
  fdb : fd.body = .stmts body
  fdc : fd.closure = [(("__class__" : Str), cc)]
  fdd : fd.code = .ref cda
  hcd : PySem.W.codeIn K fd.code fd.qualname = true
  cel : ∃ cl cld csl, K.lookup cc = some ⟨cl, cld, .cell (some (.ref C)), csl⟩
  fil : ∃ ccl cdd vs ccs z tf, K.lookup cda = some ⟨ccl, cdd, .fields vs, ccs⟩ ∧ vs[2]? = some (.str z tf) ∧ (file == z) = true
  par : erP params = some ps
  sc : erScope ps fd.scope = true
  bod : erBody x fo ps body = true
  sup : PySem.W.nsIn K mainGlobals "super" = some none
  third : PySem.W.nsIn K cStatics "thirdparty.any" = some none
theorem er_of {K : PySem.W.Frag} {file x : Str} {fo : Option Str} (h : erB K file x fo = true) : ∃ C fI cc cda fd params ps body, ErC K file x fo C fI cc cda fd params ps body := by
  unfold erB at h
  simp only [Bool.and_eq_true, decide_eq_true_eq] at h
  obtain ⟨⟨⟨⟨⟨⟨⟨⟨⟨⟨⟨⟨⟨h1, h2⟩, h3⟩, h4⟩, h5⟩, h6⟩, h7⟩, h8⟩, h9⟩, h10⟩, h11⟩, h12⟩, h13⟩, h14⟩ := h
  split at h12
  · rename_i oc od fd osl hfd
    simp only [Bool.and_eq_true] at h12
    obtain ⟨⟨⟨⟨⟨⟨⟨g0, g1⟩, g2⟩, g3⟩, g4⟩, g5⟩, g6⟩, g7⟩ := h12
    split at g5
    · rename_i n cc hcl
      simp only [Bool.and_eq_true] at g5
      obtain ⟨e1, e2⟩ := g5
      have e1 := eq_of_beq e1
      subst e1
      split at e2
      · rename_i cl cld D csl hcc
        have e2 := eq_of_beq e2
        subst e2
        split at g6
        · rename_i cda hcode
          split at g6
          · rename_i ccl cdd vs ccs hcda
            split at g6
            · rename_i z tf hz
              split at g7
              · rename_i body hbody
                simp only [Bool.and_eq_true] at g7
                obtain ⟨ps, hps⟩ := Option.isSome_iff_exists.mp g7.2
                rw [hps] at g4 g7
                refine ⟨_, _, cc, cda, fd, fd.params, ps, body, ⟨?_, ?_, h3, h4, h5, h6, h7, ?_, h9, h10, h11, ⟨_, _, _, hfd⟩, of_decide_eq_true g0, eq_of_beq g1, eq_of_beq g2, rfl, hbody, hcl, hcode, g3, ⟨_, _, _, hcc⟩, ⟨_, _, _, _, _, _, hcda, hz, g6⟩, hps, g4, g7.1, h13, h14⟩⟩
                · split at h1
                  · rename_i a ha
                    rw [ha, eq_of_beq h1]
                  · cases h1
                · split at h2
                  · rename_i dd cd sl ho
                    split at h2
                    · rename_i C' bm k0 k1 k2 k3 n k5 hm hs
                      simp only [Bool.and_eq_true, decide_eq_true_eq, Bool.not_eq_true'] at h2
                      obtain ⟨⟨⟨⟨⟨e1, e2⟩, e3⟩, e4⟩, e5⟩, e6⟩ := h2
                      have e1 := eq_of_beq e1
                      have e2 := eq_of_beq e2
                      obtain ⟨nm, bs, mro, ns, qn, hd, sn, sub, ab, col, del⟩ := cd
                      dsimp only at hm e3 e4
                      subst hm e3 e4 e1 e2
                      have hsl : sl = #[k0, k1, k2, k3, some (.builtin "ValueError.__new__"), k5] := by
                        obtain ⟨l⟩ := sl
                        simp only at hs
                        rw [hs]
                      subst hsl
                      exact ⟨nm, qn, ns, bs, bm, sn, sub, ab, col, dd, k0, k1, k2, k3, k5, ho, e5, e6⟩
                    · cases h2
                  · cases h2
                · intro f e
                  subst e
                  exact of_decide_eq_true h8
              · cases g7
            · cases g6
          · cases g6
        · cases g6
      · cases e2
    · cases g5
  · cases h12
end Z

/-! ZR2: such an error is made -/
namespace Z
open PySem PySem.Spec PyProof.Rows L2
def erCx (P : Program) (w : World) (K : PySem.W.Frag) (mg : Str → Option Value) (base : Heap) (N : List Str) (q : Str) (sc : Scope) (fI : Addr) (cd : Value) (cc : Addr) (A : Around) (outer : List PySem.Env) (s : Shared) (H : Hp) : Cx where
  prog := P
  w := w
  K := K
  mg := mg
  base := base
  A := A.deeper (PySem.W.ksEnv q sc s.heap.objs.size fI cd cc)
  N := N
  s_0 := s
  H_0 := H
  env := PySem.W.ksEnv q sc s.heap.objs.size fI cd cc
  outer := outer
  stack := PySem.W.ksEnv q sc s.heap.objs.size fI cd cc :: outer
  ex := []
  fn := fun _ => false
  calm := true
  pn := []
  xe := fun _ _ => False
section
variable {P : Program} {w : World} {K : PySem.W.Frag} {mg : Str → Option Value} {base : Heap} {file x q : Str} {fo : Option Str} {C fI cc cda : Addr} {fd : FuncData} {params : Arguments} {ps : List Str} {body : List Stmt} {sc : Scope} {A : Around} {outer : List PySem.Env} {s : Shared} {H : Hp} {cd : Value}
structure ErSc (ps : List Str) (sc : Scope) : Prop where
  kind : sc.kind = .function
  co : sc.isCoroutine = false
  gen : sc.isGenerator = false
  sup : sc.names.lookup ("super" : Str) = some NameKind.globalImplicit
  cls : sc.names.lookup ("__class__" : Str) = some NameKind.free
  par : ∀ p ∈ ps, sc.names.lookup p = some .local ∧ okName p = true
  nms : ∀ y ∈ sc.names, y.2 ≠ .cell ∧ (y.2 = .free → y.1 = ("__class__" : Str))
theorem erSc_of (h : erScope ps sc = true) : ErSc ps sc := by
  unfold erScope at h
  simp only [Bool.and_eq_true, decide_eq_true_eq, Bool.not_eq_true', List.all_eq_true, Bool.or_eq_true, decide_eq_false_iff_not] at h
  obtain ⟨⟨⟨⟨⟨⟨h1, h2⟩, h3⟩, h4⟩, h5⟩, h6⟩, h7⟩ := h
  refine ⟨h1, h2, h3, h4, h5, fun p hp => h6 p hp, fun y hy => ⟨(h7 y hy).1, fun e => ?_⟩⟩
  rcases (h7 y hy).2 with z | z
  · exact absurd e z
  · exact eq_of_beq z
theorem er_start {us : List Value} {vs : List V} {h₀ : Heap} {tk : Nat} {cl : Value} {cld : Option Addr} {csl : Array (Option Value)} (S : ErSc ps sc) (e0 : Env0 P w K mg base A outer s H) (hd : A.handled = none) (hcell : K.lookup cc = some ⟨cl, cld, .cell (some (.ref C)), csl⟩)
    (hl : vs.length = ps.length) (r : Vals vs us) (hlk : ∀ (i : Nat) (y : Str) (u : Value), ps[i]? = some y → us[i]? = some u → (ps.zip us).reverse.lookup y = some u) (hns : h₀.Ns s.heap.objs.size fun y => (ps.zip us).reverse.lookup y) (kp : ∀ b o, s.heap.get? b = some o → h₀.get? b = some o) :
    Inv (erCx P w K mg base ps q sc fI cd cc A outer s H) [] (L2.start ps vs) H { s with heap := h₀, toks := tk } := by
  have noA : ∀ b : Addr, b ∉ (erCx P w K mg base ps q sc fI cd cc A outer s H).ex := fun b z => absurd (show b ∈ ([] : List Addr) from z) (by simp)
  have kb : K.In base := e0.mod.kin
  have look : ∀ {y : Str} {c : Addr}, (([(("__class__" : Str), cc)] : List (Str × Addr)).lookup y) = some c → y = ("__class__" : Str) ∧ c = cc := fun {y c} e => by
    simp only [List.lookup_cons, List.lookup_nil] at e
    split at e
    · rename_i z
      exact ⟨eq_of_beq z, (Option.some.inj e).symm⟩
    · cases e
  have look2 : (([(("__class__" : Str), cc)] : List (Str × Addr)).lookup ("__class__" : Str)) = some cc := by simp [List.lookup]
  refine ⟨⟨e0.mod, S.kind, rfl, rfl, Nat.le_refl _, fun y z c e1 e2 => (look e1).1.trans (look e2).1.symm, fun y hy => ?_, fun y c z _ => ?_, fun _ => hd, Around.frames_deeper e0.frames, .inr ⟨rfl, rfl⟩, fun b z => absurd z (noA b), e0.bs, e0.bsz, fun b _ _ => noA b,
      fun b z => absurd z (noA b), e0.funs, e0.frf⟩,
    rfl, e0.bare, Un.kept kp, ⟨_, hns, fun i y v e1 e2 e3 => ?_⟩, fun y c e => ?_, e0.hok.fresh (Nat.le_refl _), fun y c e => ?_, fun q hq => absurd (show q ∈ ([] : List (Addr × Obj)) ++ [] from hq) (by simp), e0.hok.kept kp, ?_⟩
  · have hy : sc.names.lookup y = some .cell ∨ sc.names.lookup y = some .free := hy
    rcases hy with hy | hy
    · exact absurd rfl (S.nms _ (PySem.mem_of_lookup hy)).1
    · have e : y = ("__class__" : Str) := (S.nms _ (PySem.mem_of_lookup hy)).2 rfl
      rw [e]
      exact ⟨cc, look2⟩
  · have z : false = true := z
    cases z
  · have hi : i < ps.length := (List.getElem?_eq_some_iff.mp e1).1
    have ha : vs[i]? = some v := by
      have e2' : (vs.map some ++ List.replicate (ps.length - vs.length) none)[i]? = some (some v) := e2
      rw [List.getElem?_append_left (by rw [List.length_map]; omega), List.getElem?_map] at e2'
      obtain ⟨a, h1, h2⟩ := Option.map_eq_some_iff.mp e2'
      cases h2
      exact h1
    obtain ⟨u, hu, rv⟩ := r.get ha
    have hy : y ∈ ps := List.mem_of_getElem? e1
    exact ⟨u, rv, .inl ⟨(S.par y hy).1, hlk i y u e1 hu⟩⟩
  · have e : (([(("__class__" : Str), cc)] : List (Str × Addr)).lookup y) = some c := e
    rw [(look e).2]
    exact ⟨_, _, kp _ _ ((e0.bs _ _ (kb _ _ hcell)).1), rfl⟩
  · have e : (([(("__class__" : Str), cc)] : List (Str × Addr)).lookup y) = some c := e
    rw [(look e).2]
    exact (e0.bs _ _ (kb _ _ hcell)).2
  · unfold L2.start
    simp only [List.length_append, List.length_map, List.length_replicate]
    show _ = ps.length
    omega
theorem er_oex (er : ErC K file x fo C fI cc cda fd params ps body) : OexC K C := by
  obtain ⟨nm, q, N, bs, bm, sn, sub, ab, col, dd, k0, k1, k2, k3, k5, hC, hbm, _⟩ := er.cls
  exact ⟨⟨nm, q, N, bs, bm, sn, sub, ab, col, dd, k0, k1, k2, k3, k5, hC, hbm⟩, er.sa, er.exC, er.tyC, er.kC⟩
/-- super().__init__("X") -/
theorem er_super {st : Stmt} {σ : L2.St} {slf : Str} {ar : Arg} {a : Addr} {bd : List Stmt} {E : Value → Shared → Prop} {s1 : Shared} (er : ErC K file x fo C fI cc cda fd params ps body) (S : ErSc ps fd.scope) (hst : erS1 x st = true)
    (I : Inv (erCx P w K mg base ps fd.qualname fd.scope fI fd.code cc A outer s H) [] σ H s1) (e : H a = some (exo a C none)) (hp : (fd.params.posonlyargs ++ fd.params.args).head? = some ar) (har : ar.arg = slf) (hps : ps[0]? = some slf) (h0 : σ[0]? = some (some (.ref a)))
    (hfile : ((P.main.file : Str) == file) = true) (htop : (P.main.scope.names.lookup ("super" : Str)).isSome = false) :
    _root_.PySem.wpAt (model P w) (erCx P w K mg base ps fd.qualname fd.scope fI fd.code cc A outer s H).A (.func bd (PySem.W.ksEnv fd.qualname fd.scope s.heap.objs.size fI fd.code cc)) (PySem.exec st (PySem.W.ksEnv fd.qualname fd.scope s.heap.objs.size fI fd.code cc))
      (fun fl s' => fl = Flow.next ∧ Inv (erCx P w K mg base ps fd.qualname fd.scope fI fd.code cc A outer s H) [] σ H s') E s1 := by
  unfold erS1 at hst
  split at hst
  · rename_i sn p0 p1 m p2 z jz pz p4 p5
    simp only [Bool.and_eq_true] at hst
    obtain ⟨⟨⟨g1, g2⟩, g3⟩, g4⟩ := hst
    obtain rfl := eq_of_beq g1
    obtain rfl := eq_of_beq g2
    obtain rfl := eq_of_beq g3
    obtain ⟨nm, qn, N, bs, bm, snn, sub, ab, col, dd, k0, k1, k2, k3, k5, hC, hbm, hal⟩ := er.cls
    obtain ⟨oc, od, osl, lk⟩ := er.lk
    obtain ⟨cl, cld, csl, hcell⟩ := er.cel
    obtain ⟨ccl, cdd, vs, ccs, zf, tf, hcda, hvs, hfz⟩ := er.fil
    have hk : (PySem.W.ksEnv fd.qualname fd.scope s.heap.objs.size fI fd.code cc).scope.kind = .function := S.kind
    refine ks_wpAt_Expr_any ?_ (L2.Inv.quiet I) (by rfl)
    refine ks_wpAt_MethodCall (pl := plainOf (.Call (.Name "super" p0) [] [] p1) (PySem.W.ksEnv fd.qualname fd.scope s.heap.objs.size fI fd.code cc)) ?_ ?_
    · have hfile' : ((P.main.file : Str) == zf) = true := by
        rw [eq_of_beq hfile]
        exact hfz
      refine ks_wpAt_super_base (prog := P) (w := w) S.sup S.cls (by decide) rfl (I.kIn _ _ lk) rfl hp er.fdd (I.kIn _ _ hcda) rfl hvs hfile' htop ?_
      have ncl : ∀ {c : ClassData}, True := fun {_} => trivial
      obtain ⟨mb, hmb, hboot⟩ := I.ok.mod.blt
      refine PySem.W.ks_loadName_global hk S.sup (Calls.loadGlobal_builtin (v := .type "super") (I.ok.mod.glob.keeps I.bk) (PySem.W.mg_none_of I.ok.mod.kin I.ok.mod.glob er.sup) (hmb.keeps I.bk) ((hboot _ (by decide +kernel)).trans (by decide +kernel)) ⟨rfl, ?_⟩)
      refine wpAny_loadName_free hk S.cls (by show ([(("__class__" : Str), cc)] : List (Str × Addr)).lookup _ = _; simp [List.lookup]) ⟨_, I.kIn _ _ hcell, rfl⟩ ?_
      obtain ⟨mm, hn, hl⟩ := id I.loc
      have hloc : fd.scope.names.lookup slf = some .local := (S.par slf (List.mem_of_getElem? hps)).1
      obtain ⟨u, ru, lu⟩ := hl 0 slf (.ref a) hps h0 (.inl hloc)
      obtain rfl : u = Value.ref a := ru
      have lu : mm slf = some (.ref a) := by
        rcases lu with ⟨_, z⟩ | ⟨z, _⟩
        · exact z
        · have z : fd.scope.names.lookup slf = some .cell ∨ fd.scope.names.lookup slf = some .free := z
          rw [hloc] at z
          rcases z with z | z <;> cases z
      rw [har]
      refine wpAny_loadName_local hk hloc hn lu ?_
      have X := I.kIn
      have hCh := X _ _ hC
      refine ks_wpAny_isType_cls hCh rfl ⟨rfl, ?_⟩
      obtain ⟨t1, hoe⟩ := exo_at I.hok e
      obtain ⟨hp1, g, d, t, os⟩ := s1
      have ncls : ∀ c, ({ cls := .ref C, dict := none, data := .fields #[.ref t1, .none, .none, .none, .bool false, .none] } : Obj).data ≠ .cls c := fun c z => by cases z
      refine ks_wpAny_call_super hCh rfl hoe rfl ncls (PySem.W.looks_mroIn X er.mro) (fun h' eh kh => ?_)
      have I2 : Inv (erCx P w K mg base ps fd.qualname fd.scope fI fd.code cc A outer s H) [] σ H ⟨h', g, d, t, os⟩ := I.kept kh
      have hoe2 := kh _ _ hoe
      have X2 := I2.kIn
      have hcd : PySem.W.clsIn K C = some { name := nm, bases := bs, mro := .ref C :: bm, ns := N, qualname := qn, hasDict := true, slotNames := snn, subclasses := sub, abstract := ab, collection := col, hasDel := false } := by unfold PySem.W.clsIn; rw [hC] <;> rfl
      have hm : PySem.HandSPX.refsVE (.ref C :: bm) = true := hbm
      have inst : PySem.W.InstAt h' a { cls := .ref C, dict := none, data := .fields #[.ref t1, .none, .none, .none, .bool false, .none] } C none := ⟨hoe2, rfl, rfl, trivial⟩
      have hVE : (Value.ref C :: bm).contains (.type "ValueError") = true := (PySem.HandSPX.refsVE_contains "ValueError" _ hm).trans (by decide +kernel)
      have hI : PySem.W.Looks (model P w) h' (isInstance (.ref a) (.type "ValueError")) true := inst.type.andThen (PySem.W.looks_mroIn X2 (show PySem.W.mroIn K C (.type "ValueError") = some true by unfold PySem.W.mroIn; rw [hcd, Option.bind_some]; simp only [List.isEmpty_cons, Bool.false_eq_true, if_false]; rw [hVE]))
      have hxC : a ≠ C := fun z => by
        rw [z] at hoe
        rw [hCh] at hoe
        cases hoe
      have hmro : PySem.W.Looks (model P w) h' (mroOf (.ref C)) (.ref C :: bm) := (PySem.W.looks_clsIn X2 hcd).andThen .now
      refine PySem.W.kxs_getMethod PySem.W.kxs_ValueError eh (PySem.W.looks_opaque X2 er.third) hmro (by simp [List.dropWhile]) X2 hal hI hxC (by decide) ?_
      have I3 : Inv (erCx P w K mg base ps fd.qualname fd.scope fI fd.code cc A outer s H) [] σ H ⟨h'.push (PySem.W.kxs_mw "ValueError.__init__" a), g, d, t + 1, os⟩ := I2.kept (t' := t + 1) fun b o z => Heap.get?_push_of_some _ z
      have hu : (h'.push (PySem.W.kxs_mw "ValueError.__init__" a)).get? h'.objs.size = some (PySem.W.kxs_mw "ValueError.__init__" a) := Heap.get?_push_size h' rfl
      show wpAny _ _ (callWith p4 (.ref h'.objs.size) [] (backTo p4 (starEach [Expr.Constant (.str z) jz pz] _)) []) _ _ _
      refine PySem.W.kxs_callWith (i := "ValueError.__init__") (x := a) (by rfl) (Calls.evalArgs_plain (Calls.spliced_cons ?_))
      refine Calls.Constant_str (k := jz) (pos := pz) ?_
      refine Calls.spliced_nil ⟨hu, ?_⟩
      have I4 : Inv (erCx P w K mg base ps fd.qualname fd.scope fI fd.code cc A outer s H) [] σ H ⟨h'.push (PySem.W.kxs_mw "ValueError.__init__" a), g, d, t + 1 + 1, os⟩ := I3.tok _
      have hoe4 : (h'.push (PySem.W.kxs_mw "ValueError.__init__" a)).get? a = some ({ cls := .ref C, dict := none, data := .fields #[.ref t1, .none, .none, .none, .bool false, .none] } : Obj) := Heap.get?_push_of_some _ hoe2
      have hC4 := I4.kIn _ _ hC
      refine wpAny_call (codeAny_of_tree ?_)
      show wpAny _ _ (callAny (.ref h'.objs.size) ⟨[Value.str z (t + 1)], []⟩) _ _ _
      simp only [callAny]
      refine wpAny_bind (wpAny_load hu ?_)
      simp only [PySem.W.kxs_mw, show (Value.type "method-wrapper" == Value.type "method" || Value.type "method-wrapper" == Value.type "builtin_function_or_method" || Value.type "method-wrapper" == Value.type "method-wrapper") = true by decide, if_true]
      refine PySem.W.KFB.if_so (by decide) ?_
      refine wpAny_bind (PySem.W.check_bound_init F.excBase_ValueError.toExcCallFacts hC4 hoe4 rfl ?_)
      refine wpAny_bind (wpAny_pure (wpAny_pure ?_))
      refine ⟨plainId_quiet F.excBase_ValueError.init.plain _, codeAny_builtin F.excBase_ValueError.initEntry ?_⟩
      refine PySem.W.exc_init_tree (cls := .ref C) (t0 := t1) (dv := none) (c2 := .none) (c3 := .none) (b4 := .bool false) hoe4 (by simp [sizeLine_eq]) fun h5 k5 e5 _ => ?_
      have J := I4.write (t' := t + 1 + 1) (x := a) (e := a) (o := exo a C none) (by rw [e]; exact True.intro) (.inl rfl) k5 ⟨_, e5⟩ (exo_ok e5)
      have eu : upd H a (exo a C none) = H := by
        funext b
        by_cases hb : b = a
        · rw [hb, upd_same, e]
        · rw [upd_ne hb]
      rw [eu] at J
      exact ⟨by trivial, J⟩
    · rw [arm_eval_Call]
      congr 1
      funext ov
      congr 1
      funext _
      exact mcall_line (by rfl) g4
  · cases hst
/-- what such an __init__ leaves -/
def spE (x : Str) (fo : Option Str) (C : Addr) : Sp := fun vs H Q _ => ∃ (a : Addr) (ws : List V), vs = .ref a :: ws ∧ ws.length = (if fo.isSome = true then 1 else 0) ∧ H a = some (exo a C none) ∧
  ∀ (dx : Addr) (fs : List (Str × V)), H dx = none → dx ≠ a → fs.lookup ("tag" : Str) = some (V.str x) → (∀ f, fo = some f → fs.lookup f = ws[0]?) → Q .non (upd (upd H dx (exd dx fs)) a (exo a C (some dx)))
theorem erP_of {p : Arguments} {ps : List Str} (h : erP p = some ps) : ∃ as : List Arg, p = ⟨[], as, none, [], [], none, []⟩ ∧ ps = as.map (·.arg) := by
  unfold erP at h
  split at h
  · exact ⟨_, rfl, (Option.some.inj h).symm⟩
  · cases h
theorem er_bind1 {fd : FuncData} {a1 : Arg} (h : fd.params = ⟨[], [a1], none, [], [], none, []⟩) (h0 : fd.defaults = .none) (u : Value) : bindArgs fd ⟨[u], []⟩ = pure [(a1.arg, u)] := by
  obtain ⟨⟩ := fd
  dsimp only at h h0
  subst h h0
  unfold bindArgs
  simp [show seqItems? Value.none = pure none from rfl, List.lookup]
theorem er_bind2 {fd : FuncData} {a1 a2 : Arg} (h : fd.params = ⟨[], [a1, a2], none, [], [], none, []⟩) (h0 : fd.defaults = .none) (hne : (a2.arg == a1.arg) = false) (u v : Value) : bindArgs fd ⟨[u, v], []⟩ = pure [(a1.arg, u), (a2.arg, v)] := by
  obtain ⟨⟩ := fd
  dsimp only at h h0
  subst h h0
  unfold bindArgs
  simp [show seqItems? Value.none = pure none from rfl, List.lookup, hne]
theorem er_env (er : ErC K file x fo C fI cc cda fd params ps body) (L : Addr) : callEnv fd L fI = PySem.W.ksEnv fd.qualname fd.scope L fI fd.code cc := by
  unfold callEnv
  rw [er.fdG, er.fdB, er.fdc]
  rfl
theorem er_run (er : ErC K file x fo C fI cc cda fd params ps body) (S : ErSc ps fd.scope) {st : Stmt} {rest : List Stmt} {slf : Str} {as : List Str} {ar : Arg} {E : XK} {Q : VK} {args : Args} {us : List Value} {ws : List V} {a : Addr} {t : TS} (hb : body = st :: rest) (hst : erS1 x st = true) (hps : ps = slf :: as)
    (hp : (fd.params.posonlyargs ++ fd.params.args).head? = some ar) (har : ar.arg = slf) (hfile : ((P.main.file : Str) == file) = true) (htop : (P.main.scope.names.lookup ("super" : Str)).isSome = false)
    (hr : Room 2 A) (e0 : Env0 P w K mg base A outer s H) (hbind : BindsTo s fd args (ps.zip us)) (r : Vals (.ref a :: ws) us) (hl : (V.ref a :: ws).length = ps.length) (e : H a = some (exo a C none)) (hnd : ps.Nodup)
    (hlk : ∀ (i : Nat) (y : Str) (u : Value), ps[i]? = some y → us[i]? = some u → (ps.zip us).reverse.lookup y = some u)
    (ht : PSs (erCx P w K mg base ps fd.qualname fd.scope fI fd.code cc A outer s H) rest t)
    (h : t { nx := fun _ H' => Q .non H', rt := fun _ _ => False } (L2.start ps (.ref a :: ws)) H) : codeAny (model P w) A (.call (.ref fI) args) (CR (L2.CX P w) outer P w H s Q E) s := by
  obtain ⟨oc, od, osl, lk⟩ := er.lk
  obtain ⟨cl, cld, csl, hcell⟩ := er.cel
  have KX : K.In s.heap := e0.mod.kin.keeps fun b o e => (e0.bs b o e).1
  have lim : s.heap.NoLimit := e0.mod.nolimit.keeps fun b o e => (e0.bs b o e).1
  subst hb
  refine ks_codeAny_call_defAt (fd := fd) (body := st :: rest) (binds := ps.zip us) hr.depth (KX _ _ lk) rfl lim (PySem.W.codeRec_of KX er.hcd) er.fdb hbind (fun y hy => (S.nms y hy).1) (fun y hy => (S.par y.1 (List.of_mem_zip hy).1).1) (fun h₀ hns kp => ?_) S.co S.gen S.kind
  rw [er_env er]
  have I0 : Inv (erCx P w K mg base ps fd.qualname fd.scope fI fd.code cc A outer s H) [] (L2.start ps (.ref a :: ws)) H { s with heap := h₀, toks := s.toks + (ps.zip us).length } := er_start S e0 hr.hd hcell hl r hlk hns kp
  have h0 : (L2.start ps (V.ref a :: ws))[0]? = some (some (.ref a)) := rfl
  refine ks_wpAt_execs_cons (ks_wpAt_mono (er_super er S hst I0 e hp har (by rw [hps]; rfl) h0 hfile htop) (fun fl s' hq => ?_) fun _ _ z => z)
  obtain ⟨rfl, J⟩ := hq
  refine PySem.wpAt_of_wpAny (wpAny_mono (ht.run [] s' _ H _ J h) (fun fl s2 hs => ?_) fun _ _ z => False.elim z)
  cases fl with
  | next =>
    obtain ⟨σ', H', J2, q⟩ := hs
    exact ⟨.non, H', J2.os, J2.bare, J2.base, J2.hok, rfl, q⟩
  | ret u =>
    obtain ⟨_, _, _, _, _, q⟩ := hs
    exact False.elim q
  | brk =>
    obtain ⟨_, _, _, q⟩ := hs
    exact False.elim q
  | cont =>
    obtain ⟨_, _, _, q⟩ := hs
    exact False.elim q
theorem er_s2 {X : Cx} {slf : Str} {st : Stmt} (h : erS2 x slf st = true) (hN : X.N[0]? = some slf) (hv : Vis X.env.scope slf) (hn : okName slf = true) : PS X st (tOst X.K "tag" (tVar 0) (tC (.str x))) := by
  unfold erS2 at h
  split at h
  · rename_i s1 p1 f p2 z j p3 pos
    simp only [Bool.and_eq_true] at h
    obtain ⟨⟨h1, h2⟩, h3⟩ := h
    obtain rfl := eq_of_beq h1
    obtain rfl := eq_of_beq h2
    obtain rfl := eq_of_beq h3
    exact ps_ost (pe_var hN hv (okName_of hn).1 (okName_of hn).2.1) pe_str (by rfl)
  · cases h
theorem er_s3 {X : Cx} {slf a f : Str} {st : Stmt} (h : erS3 slf a f st = true) (hN : X.N[0]? = some slf) (hv : Vis X.env.scope slf) (hn : okName slf = true) (hN1 : X.N[1]? = some a) (hv1 : Vis X.env.scope a) (hn1 : okName a = true) : PS X st (tOst X.K f (tVar 0) (tVar 1)) := by
  unfold erS3 at h
  split at h
  · rename_i s1 p1 g p2 b p3 pos
    simp only [Bool.and_eq_true] at h
    obtain ⟨⟨h1, h2⟩, h3⟩ := h
    obtain rfl := eq_of_beq h1
    obtain rfl := eq_of_beq h2
    obtain rfl := eq_of_beq h3
    exact ps_ost (pe_var hN hv (okName_of hn).1 (okName_of hn).2.1) (pe_var hN1 hv1 (okName_of hn1).1 (okName_of hn1).2.1) (by rfl)
  · cases h
theorem er_fn (er : ErC K file x fo C fI cc cda fd params ps body) (hfile : ((P.main.file : Str) == file) = true) (htop : (P.main.scope.names.lookup ("super" : Str)).isSome = false) :
    FnOk P w K mg base (L2.CX P w) 2 fI fd ps (spE x fo C) ∧ Binds K fd ps [] := by
  have S := erSc_of er.sc
  have hb := er.bod
  obtain ⟨as, hpa, hps⟩ := erP_of er.par
  have hfp := er.fdP
  rw [hpa] at hfp
  unfold erBody at hb
  split at hb
  · rename_i slf s1 s2
    simp only [Bool.and_eq_true] at hb
    match as, hps with
    | [a1], hps =>
      have ha1 : a1.arg = slf := (List.cons.inj hps).1.symm
      obtain ⟨hv, hn⟩ := S.par slf (by simp)
      refine ⟨⟨fun vs H Q E h => ?_, fun A outer s H args us vs Q E hr e0 hbind r h => ?_⟩, Binds.all fun us hl => ?_⟩
      · obtain ⟨a, ws, rfl, h2, _⟩ := h
        simpa using h2
      · obtain ⟨a, ws, rfl, h2, h3, h4⟩ := h
        have h2 : ws.length = 0 := by simpa using h2
        obtain rfl := List.eq_nil_of_length_eq_zero h2
        refine er_run er S (t := tOst K "tag" (tVar 0) (tC (.str x))) rfl hb.1 rfl (ar := a1) (by rw [hfp]; rfl) ha1 hfile htop hr e0 hbind r rfl h3 (by simp) (fun i y u h1 h2 => ?_) (pss_one (er_s2 hb.2 rfl (.inl hv) hn)) ?_
        · cases r with
          | cons r1 r2 =>
            cases r2
            cases i with
            | zero =>
              simp only [List.getElem?_cons_zero, Option.some.injEq] at h1 h2
              subst h1 h2
              simp [List.lookup]
            | succ i => simp at h1
        · refine ⟨.ref a, rfl, a, C, rfl, er_oex er, er.tag, .inl ⟨h3, fun dx n ne => ?_⟩⟩
          exact h4 dx _ n ne (by rw [lookup_put, if_pos rfl]) fun f hf => by cases hf
      · match us, hl with
        | [u], _ =>
          rw [er_bind1 hfp er.fdD, ha1]
          rfl
    | [], hps => cases hps
    | _ :: _ :: _, hps => cases hps
  · rename_i f slf a0 s1 s2 s3
    simp only [Bool.and_eq_true, Bool.not_eq_true'] at hb
    obtain ⟨⟨⟨⟨b1, b2⟩, b3⟩, b4⟩, b5⟩ := hb
    match as, hps with
    | [a1, a2], hps =>
      have ha1 : a1.arg = slf := (List.cons.inj hps).1.symm
      have ha2 : a2.arg = a0 := (List.cons.inj (List.cons.inj hps).2).1.symm
      have ne : slf ≠ a0 := by simpa using b4
      have nf : f ≠ ("tag" : Str) := by simpa using b5
      obtain ⟨hv, hn⟩ := S.par slf (by simp)
      obtain ⟨hv1, hn1⟩ := S.par a0 (by simp)
      refine ⟨⟨fun vs H Q E h => ?_, fun A outer s H args us vs Q E hr e0 hbind r h => ?_⟩, Binds.all fun us hl => ?_⟩
      · obtain ⟨a, ws, rfl, h2, _⟩ := h
        simpa using h2
      · obtain ⟨a, ws, rfl, h2, h3, h4⟩ := h
        have h2 : ws.length = 1 := by simpa using h2
        match ws, h2 with
        | [y], _ =>
          refine er_run er S (t := tSeq (tOst K "tag" (tVar 0) (tC (.str x))) (tOst K f (tVar 0) (tVar 1))) rfl b1 rfl (ar := a1) (by rw [hfp]; rfl) ha1 hfile htop hr e0 hbind r rfl h3 (by simp [ne]) (fun i z u h1 h2 => ?_)
            (pss_cons (er_s2 b2 rfl (.inl hv) hn) (pss_one (er_s3 b3 rfl (.inl hv) hn rfl (.inl hv1) hn1))) ?_
          · cases r with
            | cons r1 r2 =>
              cases r2 with
              | cons r3 r4 =>
                cases r4
                match i with
                | 0 =>
                  simp only [List.getElem?_cons_zero, Option.some.injEq] at h1 h2
                  subst h1 h2
                  have e : (slf == a0) = false := by simpa using ne
                  simp [List.lookup, e]
                | 1 =>
                  simp only [List.getElem?_cons_succ, List.getElem?_cons_zero, Option.some.injEq] at h1 h2
                  subst h1 h2
                  simp [List.lookup]
                | i + 2 => simp at h1
          · refine ⟨.ref a, rfl, a, C, rfl, er_oex er, er.tag, .inl ⟨h3, fun dx n nd => ?_⟩⟩
            refine ⟨y, rfl, .ref a, rfl, a, C, rfl, er_oex er, er.fld f rfl, .inr ⟨dx, [(("tag" : Str), V.str x)], upd_same, by rw [upd_ne nd, upd_same], by simp, ?_⟩⟩
            have eu : upd (upd (upd H dx (exd dx [(("tag" : Str), V.str x)])) a (exo a C (some dx))) dx (exd dx ((f, y) :: [(("tag" : Str), V.str x)])) = upd (upd H dx (exd dx ((f, y) :: [(("tag" : Str), V.str x)]))) a (exo a C (some dx)) := by
              funext b
              unfold upd
              by_cases hb : b = dx
              · subst hb
                rw [if_pos rfl, if_neg nd, if_pos rfl]
              · rw [if_neg hb]
                by_cases hb2 : b = a
                · rw [if_pos hb2, if_pos hb2]
                · rw [if_neg hb2, if_neg hb2, if_neg hb, if_neg hb]
            rw [eu]
            refine h4 dx _ n nd ?_ fun g hg => ?_
            · rw [lookup_put, if_neg (Ne.symm nf), lookup_put, if_pos rfl]
            · cases hg
              rw [lookup_put, if_pos rfl]
              rfl
      · match us, hl with
        | [u, v], _ =>
          rw [er_bind2 hfp er.fdD (by rw [ha1, ha2]; simpa using Ne.symm ne), ha1, ha2]
          rfl
    | [], hps => cases hps
    | [_], hps => cases hps
    | _ :: _ :: _ :: _, hps => cases hps
  · cases hb
end
end Z

/-! ZR3: X(..) as ExcM -/
namespace Z
open PySem PySem.Spec PyProof.Rows L2
section
variable {X : Cx} {file x : Str} {fo : Option Str} {C fI cc cda : Addr} {fd : FuncData} {params : Arguments} {ps : List Str} {body : List Stmt} {pins : List (Addr × Obj)} {σ : L2.St} {s1 : Shared} {H1 : Hp} {Q : XK} {us : List Value} {vs : List V}
theorem er_call (er : ErC X.K file x fo C fI cc cda fd params ps body) (hfile : ((X.prog.main.file : Str) == file) = true) (htop : (X.prog.main.scope.names.lookup ("super" : Str)).isSome = false) (hr : Room 3 X.A) (I1 : Inv X pins σ H1 s1) (r1 : Vals vs us)
    (hl : vs.length = (if fo.isSome = true then 1 else 0)) (hq : ∀ (d : Addr) (fs : List (Str × V)), H1 d = none → fs.lookup ("tag" : Str) = some (V.str x) → (∀ f, fo = some f → fs.lookup f = vs[0]?) → Q (.ref C) (some d) (upd H1 d (.xd fs))) :
    wpAny (model X.prog X.w) X.A (call (.ref C) us) (MkP X pins σ Q) X.xe s1 := by
  have T := er_oex er
  obtain ⟨F1, hb⟩ := er_fn (P := X.prog) (w := X.w) (mg := X.mg) (base := X.base) er hfile htop
  obtain ⟨nm, q, N, bs, bm, sn, sub, ab, col, dd, k0, k1, k2, k3, k5, hC, hbm⟩ := T.cls
  obtain ⟨hp, g, dr, tk, os⟩ := s1
  have hsz : hp.objs.size ≤ hp.objs.size + 1 := Nat.le_succ _
  have hn : H1 (hp.objs.size + 1) = none := I1.hok.fresh hsz
  have kk : ∀ b o, hp.get? b = some o → ((hp.push (PySem.W.kdv_tup us)).push (PySem.HandSPX.excO C hp.objs.size)).get? b = some o := fun b o e => Heap.get?_push_of_some _ (Heap.get?_push_of_some _ e)
  have hget : ((hp.push (PySem.W.kdv_tup us)).push (PySem.HandSPX.excO C hp.objs.size)).get? (hp.objs.size + 1) = some (PySem.HandSPX.excO C hp.objs.size) := by heap_get
  have I2 : Inv X pins σ (upd H1 (hp.objs.size + 1) (exo (hp.objs.size + 1) C none)) ⟨(hp.push (PySem.W.kdv_tup us)).push (PySem.HandSPX.excO C hp.objs.size), g, dr, tk, os⟩ :=
    I1.laid (t' := tk) (a := hp.objs.size + 1) (o := exo (hp.objs.size + 1) C none) (h' := (hp.push (PySem.W.kdv_tup us)).push (PySem.HandSPX.excO C hp.objs.size)) kk hsz (exo_ok hget)
  have r2 : Vals (V.ref (hp.objs.size + 1) :: vs) (Value.ref (hp.objs.size + 1) :: us) := .cons rfl r1
  have hsp : spE x fo C (V.ref (hp.objs.size + 1) :: vs) (upd H1 (hp.objs.size + 1) (exo (hp.objs.size + 1) C none))
      (fun v H2 => v = .non ∧ ∃ (d : Addr) (fs : List (Str × V)), H2 (hp.objs.size + 1) = some (exo (hp.objs.size + 1) C (some d)) ∧ H2 d = some (exd d fs) ∧ H1 d = none ∧ Q (.ref C) (some d) (upd (L2.del H2 (hp.objs.size + 1)) d (.xd fs))) (fun _ _ _ => False) := by
    refine ⟨_, vs, rfl, hl, upd_same, fun dx fs n ne ht hf => ⟨rfl, dx, fs, upd_same, by rw [upd_ne ne, upd_same], ?_, ?_⟩⟩
    · rw [upd_ne ne] at n
      exact n
    · rw [upd_ne ne] at n
      have eu : upd (L2.del (upd (upd (upd H1 (hp.objs.size + 1) (exo (hp.objs.size + 1) C none)) dx (exd dx fs)) (hp.objs.size + 1) (exo (hp.objs.size + 1) C (some dx))) (hp.objs.size + 1)) dx (.xd fs) = upd H1 dx (.xd fs) := by
        funext b
        by_cases hb : b = dx
        · rw [hb, upd_same, upd_same]
        · rw [upd_ne hb, upd_ne hb]
          by_cases hb2 : b = hp.objs.size + 1
          · rw [hb2, L2.del_same, hn]
          · rw [L2.del_ne hb2, upd_ne hb2, upd_ne hb, upd_ne hb2]
      rw [eu]
      exact hq dx fs n ht hf
  have hlen : (Value.ref (hp.objs.size + 1) :: us).length = ps.length := by
    rw [← r2.length]
    exact F1.len _ _ _ _ hsp
  have hus : us.length ≤ sizeLine := by
    rw [← Paired.length r1, sizeLine_eq, hl]
    split <;> omega
  have hb2 : BindsTo _ fd ⟨Value.ref (hp.objs.size + 1) :: us, []⟩ (ps.zip (Value.ref (hp.objs.size + 1) :: us ++ [])) := hb _ (Value.ref (hp.objs.size + 1) :: us) I2.kIn (by rw [List.append_nil]; exact hlen)
  rw [List.append_nil] at hb2
  refine wpAny_call (PySem.HandSPX.call_own F.excBase_ValueError (fun Y => PySem.HandSPX.refsVE_contains Y bm hbm) (I1.kIn _ _ hC) (PySem.W.looks_findIn I1.kIn er.iC) (fun self => PySem.W.bind_fn I1.kIn self er.tI) hus
    (codeAny_mono (F1.run _ X.stack _ _ ⟨Value.ref (hp.objs.size + 1) :: us, []⟩ (Value.ref (hp.objs.size + 1) :: us) _ _ (fun _ _ _ => False) (hr.make C us []) (I2.env0.make C us []) hb2 r2 hsp) fun r s' hq' => ?_))
  cases r with
  | error e =>
    obtain ⟨_, _, _, _, _, _, _, _, _, _, _, _, z⟩ := hq'
    exact z.elim
  | ok fl =>
    cases fl with
    | ret u =>
      obtain ⟨v, H2, os2, bare2, un2, hok2, rv, ev, d, fs, ea, ed, hd1, q2⟩ := hq'
      subst ev
      obtain ⟨h2, g2, d2, t2, os'⟩ := s'
      exact ⟨rv, mk_end (raises_own T.exC T.tyC) I1 hsz kk un2 hok2 os2 bare2 ea ed hd1 q2⟩
    | next => exact False.elim hq'
    | brk => exact False.elim hq'
    | cont => exact False.elim hq'
theorem excM_of {xc : Str → Option (Addr × Option Str)} (er : ErC X.K file x fo C fI cc cda fd params ps body) (hx : xc x = some (C, fo)) (hfile : ((X.prog.main.file : Str) == file) = true) (htop : (X.prog.main.scope.names.lookup ("super" : Str)).isSome = false) (hr : Room 3 X.A)
    (hm : X.mg x = some (.ref C)) (hdb : (x == ("__debug__" : Str)) = false) : ExcM X xc x fo := by
  refine ⟨⟨C, hx⟩, fun {xs ta p pos} ha hs hl hg => ?_⟩
  intro pins s σ H Q I h
  refine wpAny_Call_Name_kw (ld_glob I hg hm ?_ hdb)
  have fin : ∀ (us : List Value) (s1 : Shared), AP X pins σ (fun vs H1 => vs.length = xs.length ∧ ∀ (C' d : Addr) (fs : List (Str × V)), xc x = some (C', fo) → H1 d = none → fs.lookup ("tag" : Str) = some (V.str x) → (∀ f, fo = some f → fs.lookup f = vs[0]?) → Q (.ref C') (some d) (upd H1 d (.xd fs))) us s1 →
      wpAny (model X.prog X.w) X.A (call (.ref C) us) (MkP X pins σ Q) X.xe s1 := fun us s1 ⟨vs, H1, I1, r1, h1, h2⟩ =>
    er_call er hfile htop hr I1 r1 (h1.trans hl) fun d fs n ht hf => h2 C d fs hx n ht hf
  cases xs with
  | nil =>
    have h1 := ha.run pos pins s σ H _ I h
    refine PySem.W.callWith_K0 I.kIn er.kC ?_
    have e : (call (.ref C) ([] ++ []) : Sem Value) = (spliced [] >>= fun us => call (.ref C) us) := by
      show call (.ref C) [] = (pure [] >>= fun us => call (.ref C) us)
      rw [pure_bind]
    rw [e]
    exact wpAny_bind (thn h1 fun us s1 q => fin us s1 q)
  | cons e es =>
    have hes : es = [] := by
      rw [List.length_cons] at hl
      split at hl
      · exact List.eq_nil_of_length_eq_zero (by omega)
      · omega
    subst hes
    have hs1 : noStar e = true := by simpa using hs
    refine PySem.W.callWith_K (h₀ := X.base) I.ok.mod.kin er.kC (thn (ha.run pos pins s σ H _ I h) fun us s1 q => ?_) ?_ (by rfl)
    · have q2 := q
      obtain ⟨vs, H1, I1, _, _⟩ := q2
      exact ⟨I1.kIn, fin us s1 q⟩
    · cases e <;> first | rfl | exact absurd hs1 Bool.false_ne_true
end
end Z

/-! ZG: the law's own try: the fields of what was caught -/
namespace Z
open PySem PySem.Spec PyProof.Rows L2
/-- new things are laid -/
inductive Grow : Hp → Hp → Prop
  | refl (H : Hp) : Grow H H
  | laid {H H1 : Hp} {a : Addr} {o : HO} : Grow H H1 → H1 a = none → Grow H (upd H1 a o)
theorem Grow.keep {H H' : Hp} (g : Grow H H') : ∀ {b : Addr} {o : HO}, H b = some o → H' b = some o := by
  induction g with
  | refl => exact fun h => h
  | laid _ n ih => exact fun h => by rw [upd_ne (ne_of_none (ih h) n)]; exact ih h
theorem Grow.trans {H H1 H2 : Hp} (a : Grow H H1) (b : Grow H1 H2) : Grow H H2 := by
  induction b with
  | refl => exact a
  | laid _ n ih => exact .laid ih n
theorem Grow.stp {K : Kx} {F : Fs} {H H' : Hp} {ρ : List Addr} {S : Store} (w : Wf K H F ρ S) (g : Grow H H') : Stp K F H ρ H' ρ S := by
  induction g with
  | refl => exact Stp.refl w
  | laid _ n ih => exact ih.trans (ih.wf.laid n _)
/-! ### the table of fields -/
structure FR where
  zs : List Str
  eq : Bool
  f : Str
def FR.hit (r : FR) (tag : Str) : Bool := if r.eq = true then (match r.zs with
  | [z] => PyData.eqv (.str tag) (.str z)
  | _ => false) else (r.zs.map PyData.str).any fun z => PyData.eqv z (.str tag)
def fieldOf : List FR → Str → Option Str
  | [], _ => none
  | r :: rs, tag => if r.hit tag = true then some r.f else fieldOf rs tag
def strsOf : List Expr → Option (List Str)
  | [] => some []
  | .Constant (.str z) _ _ :: es => if (PyData.str z).canLay0 = true then (strsOf es).map (z :: ·) else none
  | _ => none
def flTest (one : Str) : Expr → Option (List Str × Bool)
  | .Compare (.Attribute (.Name o _) t _) [op] [rhs] _ => if (o == one && t == "tag") = true then (match op, rhs with
    | .In, .Tuple es _ _ => if es.length ≤ 1000 then (strsOf es).map (·, false) else none
    | .Eq, .Constant (.str z) _ _ => if (PyData.str z).canLay0 = true then some ([z], true) else none
    | _, _ => none) else none
  | _ => none
def flAttr (one : Str) : Expr → Option Str
  | .Attribute (.Name o _) f _ => if (o == one) = true then some f else none
  | _ => none
def flB (one : Str) : List Stmt → Option (List FR)
  | .If t [.Return (some a) _] [] _ :: rest => (match flTest one t, flAttr one a, flB one rest with
    | some (zs, b), some f, some rs => some (⟨zs, b, f⟩ :: rs)
    | _, _, _ => none)
  | [.Return (some (.IfExp t a (.Constant .none _ _) _)) _] => (match flTest one t, flAttr one a with
    | some (zs, b), some f => some [⟨zs, b, f⟩]
    | _, _ => none)
  | [.Return (some (.Constant .none _ _)) _] => some []
  | _ => none
/-! ### what was caught, by its pin -/
structure XqOk (K : PySem.W.Frag) (p : Addr × Obj) (C dd : Addr) : Prop where
  xf : XfC K C
  zc : Zc (.ref C) (some dd) p.2
  fl : ∃ vs, p.2.data = .fields vs
def tXq (K : PySem.W.Frag) (p : Addr × Obj) (n : Str) (te : TE) : TE := fun σ H Q => te σ H fun x H1 => x = .ref p.1 ∧ ∃ (C dd : Addr) (fs : List (Str × V)) (v : V), XqOk K p C dd ∧ PySem.W.findIn K (.ref C) n = some none ∧ H1 dd = some (.xd fs) ∧ fs.lookup n = some v ∧ Q v H1
section
variable {X : Cx} {p : Addr × Obj}
theorem pe_xq {e : Expr} {te : TE} {pos : Pos} {n : Str} (hp : p ∈ X.pn) (he : PE X e te) (hb : attributeBase e n X.env (eval e X.env) = eval e X.env) : PE X (.Attribute e n pos) (tXq X.K p n te) := by
  refine ⟨fun pins s σ H Q I h => attr_of hb (thn (he.run pins s σ H _ I h) fun u s1 hh => ?_)⟩
  obtain ⟨x, H1, I1, rx, ex, C, dd, fs, v, ok, hno, ea, l, q⟩ := hh
  subst ex
  obtain rfl : u = Value.ref p.1 := rx
  obtain ⟨vs, hd⟩ := ok.fl
  obtain ⟨mA, hns, hr⟩ := show ∃ mA, s1.heap.Ns1 dd mA ∧ ∀ f, RelO (fs.lookup f) (mA f) from I1.hok dd _ ea
  obtain ⟨od, ho, hl⟩ := lookIn_ns hns
  obtain ⟨u, hu, ru⟩ := RelO.some_of (v := v) (o := mA n) (by rw [← l]; exact hr n)
  have J : PySem.W.InstAt s1.heap p.1 p.2 C (some od) := ⟨(I1.pin p (List.mem_append_left _ hp)).1, ok.zc.1, by unfold PySem.W.notCls; rw [hd] <;> rfl, by rw [ok.zc.2]; exact ho⟩
  exact HandSPX.exc_get I1.kIn J ok.xf.ga ok.xf.gg ok.xf.exC (PySem.W.findObj_own ok.xf.hdC hno rfl (by rw [hl, hu])) (handed_of ru) ⟨v, H1, I1.tok _, ru, q⟩
def tStrs (zs : List Str) : TA := fun _ H Q => Q (zs.map V.str) H
theorem strs_cons {z : Str} {j : Nat} {pz : Pos} {es : List Expr} {zs : List Str} (h : strsOf (.Constant (.str z) j pz :: es) = some zs) : ∃ ys, (PyData.str z).canLay0 = true ∧ strsOf es = some ys ∧ zs = z :: ys := by
  have h : (if (PyData.str z).canLay0 = true then (strsOf es).map (z :: ·) else none) = some zs := h
  split at h
  · rename_i c
    obtain ⟨ys, h1, h2⟩ := Option.map_eq_some_iff.mp h
    exact ⟨ys, c, h1, h2.symm⟩
  · cases h
theorem strs_ok : ∀ {es : List Expr} {zs : List Str}, strsOf es = some zs → PA X es (tStrs zs) ∧ PyData.canLayAll0 (zs.map PyData.str) = true ∧ zs.length = es.length
  | [], zs, h => by
    cases h
    exact ⟨pa_nil, rfl, rfl⟩
  | .Constant (.str z) j pz :: es, zs, h => by
    obtain ⟨ys, h0, h1, rfl⟩ := strs_cons h
    obtain ⟨g1, g2, g3⟩ := strs_ok h1
    refine ⟨pa_cons pe_str g1, ?_, by rw [List.length_cons, List.length_cons, g3]⟩
    rw [List.map_cons]
    unfold PyData.canLayAll0
    rw [h0, g2]
    rfl
def tHit (K : PySem.W.Frag) (p : Addr × Obj) (r : FR) : TT := fun σ H Q => σ[0]? = some (some (.ref p.1)) ∧ ∃ (C dd : Addr) (fs : List (Str × V)) (tag : Str), XqOk K p C dd ∧ PySem.W.findIn K (.ref C) "tag" = some none ∧ H dd = some (.xd fs) ∧ fs.lookup ("tag" : Str) = some (V.str tag) ∧ (PyData.str tag).canLay0 = true ∧
  ∀ H', Grow H H' → Q (r.hit tag) H'
theorem dp_strs {K : PySem.W.Frag} {H : Hp} : ∀ zs : List Str, DpAll K H (zs.map V.str) (zs.map PyData.str)
  | [] => .nil
  | z :: zs => .cons (.str z) (dp_strs zs)
theorem pt_hit {one : Str} {t : Expr} {zs : List Str} {b : Bool} {f : Str} (hu : X.A.units + many + 5 < cLine) (hp : p ∈ X.pn) (hN : X.N[0]? = some one) (hv : Vis X.env.scope one) (hn : okName one = true) (h : flTest one t = some (zs, b)) : PT X t (tHit X.K p ⟨zs, b, f⟩) := by
  unfold flTest at h
  split at h
  · rename_i o po tg pt op rhs pos
    split at h
    · rename_i hc
      simp only [Bool.and_eq_true] at hc
      obtain ⟨h1, h2⟩ := hc
      obtain rfl := eq_of_beq h1
      obtain rfl := eq_of_beq h2
      have ha : PE X (.Attribute (.Name o po) "tag" pt) (tXq X.K p "tag" (tVar 0)) := pe_xq hp (pe_var hN hv (okName_of hn).1 (okName_of hn).2.1) (by rfl)
      split at h
      · rename_i es k pe
        split at h
        · rename_i hle
          obtain ⟨ys, g1, g2⟩ := Option.map_eq_some_iff.mp h
          cases g2
          obtain ⟨s1, s2, s3⟩ := strs_ok (X := X) g1
          refine PT.imp (pt_cmpR (op_inZ hu) ha (pe_tup s1) (by rfl)) ?_
          rintro σ H Q ⟨q0, C, dd, fs, tag, ok, hno, hd, ht, hl, q⟩
          refine ⟨.ref p.1, q0, rfl, C, dd, fs, .str tag, ok, hno, hd, ht, ?_, fun a na => ?_⟩
          · rw [List.length_map, s3, sizeLine_eq]
            omega
          · refine ⟨.str tag, zs.map PyData.str, .str tag, .inr (.tup (.inl (.of upd_same)) (dp_strs zs)), hl, s2, Nat.zero_le _, _, rfl, ?_⟩
            exact q _ (.laid (.refl _) na)
        · cases h
      · rename_i z j pz
        split at h
        · rename_i hl2
          cases h
          refine PT.imp (pt_cmpR (op_eqZ hu) ha pe_str (by rfl)) ?_
          rintro σ H Q ⟨q0, C, dd, fs, tag, ok, hno, hd, ht, hl, q⟩
          refine ⟨.ref p.1, q0, rfl, C, dd, fs, .str tag, ok, hno, hd, ht, .str tag, .str z, .str tag, .str z, hl, hl2, Nat.zero_le _, trivial, _, rfl, q _ (.refl _)⟩
        · cases h
      · cases h
    · cases h
  · cases h
end
end Z

/-! ZG2: the def that tells a caught error's field, called within the clause -/
namespace Z
open PySem PySem.Spec PyProof.Rows L2
/-- the exception stands in H -/
structure XqAt (K : PySem.W.Frag) (p : Addr × Obj) (H : Hp) (C dd : Addr) (fs : List (Str × V)) (tag : Str) : Prop where
  ok : XqOk K p C dd
  nt : PySem.W.findIn K (.ref C) "tag" = some none
  at_ : H dd = some (.xd fs)
  tg : fs.lookup ("tag" : Str) = some (V.str tag)
  ly : (PyData.str tag).canLay0 = true
theorem XqAt.grow {K : PySem.W.Frag} {p : Addr × Obj} {H H' : Hp} {C dd : Addr} {fs : List (Str × V)} {tag : Str} (x : XqAt K p H C dd fs tag) (g : Grow H H') : XqAt K p H' C dd fs tag := ⟨x.ok, x.nt, g.keep x.at_, x.tg, x.ly⟩
/-- what is told of the field -/
def FldQ (K : PySem.W.Frag) (C : Addr) (fs : List (Str × V)) (H : Hp) (Q : VK) : Option Str → Prop
  | none => ∀ H', Grow H H' → Q .non H'
  | some f => PySem.W.findIn K (.ref C) f = some none ∧ ∃ v, fs.lookup f = some v ∧ ∀ H', Grow H H' → Q v H'
theorem FldQ.grow {K : PySem.W.Frag} {C : Addr} {fs : List (Str × V)} {H H1 : Hp} {Q : VK} (g : Grow H H1) : ∀ {o : Option Str}, FldQ K C fs H Q o → FldQ K C fs H1 Q o
  | none, h => fun H' g' => h H' (g.trans g')
  | some f, ⟨h1, v, h2, h3⟩ => ⟨h1, v, h2, fun H' g' => h3 H' (g.trans g')⟩
def tField (K : PySem.W.Frag) (p : Addr × Obj) (rows : List FR) : TS := fun D σ H => σ[0]? = some (some (.ref p.1)) ∧ ∃ (C dd : Addr) (fs : List (Str × V)) (tag : Str), XqAt K p H C dd fs tag ∧ FldQ K C fs H D.rt (fieldOf rows tag)
section
variable {X : Cx} {p : Addr × Obj} {one : Str}
theorem attr_xq {a : Expr} {f : Str} (hp : p ∈ X.pn) (hN : X.N[0]? = some one) (hv : Vis X.env.scope one) (hn : okName one = true) (h : flAttr one a = some f) : PE X a (tXq X.K p f (tVar 0)) := by
  unfold flAttr at h
  split at h
  · rename_i o po f' pf
    split at h
    · rename_i hc
      obtain rfl := eq_of_beq hc
      cases h
      exact pe_xq hp (pe_var hN hv (okName_of hn).1 (okName_of hn).2.1) (by rfl)
    · cases h
  · cases h
theorem xq_ret {K : PySem.W.Frag} {C dd : Addr} {fs : List (Str × V)} {tag f : Str} {σ : L2.St} {H : Hp} {Q : VK} (q0 : σ[0]? = some (some (.ref p.1))) (x : XqAt K p H C dd fs tag) (h : FldQ K C fs H Q (some f)) : tXq K p f (tVar 0) σ H Q := by
  obtain ⟨h1, v, h2, h3⟩ := h
  exact ⟨.ref p.1, q0, rfl, C, dd, fs, v, x.ok, h1, x.at_, h2, h3 H (.refl _)⟩
theorem field_ok (hu : X.A.units + many + 5 < cLine) (hp : p ∈ X.pn) (hN : X.N[0]? = some one) (hv : Vis X.env.scope one) (hn : okName one = true) : ∀ (sts : List Stmt) (rows : List FR), flB one sts = some rows → PSs X sts (tField X.K p rows)
  | sts, rows, h => by
    unfold flB at h
    split at h
    · rename_i t a pr pi rest
      split at h
      · rename_i zs b f rs h1 h2 h3
        cases h
        have ih := field_ok hu hp hN hv hn rest rs h3
        refine PSs.imp (pss_cons (ps_if (pt_hit (f := f) hu hp hN hv hn h1) (pss_one (ps_ret (attr_xq hp hN hv hn h2))) pss_nil) ih) ?_
        rintro D σ H ⟨q0, C, dd, fs, tag, x, q⟩
        refine ⟨q0, C, dd, fs, tag, x.ok, x.nt, x.at_, x.tg, x.ly, fun H' g => ?_⟩
        unfold fieldOf at q
        by_cases hh : FR.hit ⟨zs, b, f⟩ tag = true
        · rw [if_pos hh] at q
          rw [if_pos hh]
          exact xq_ret q0 (x.grow g) (q.grow g)
        · rw [if_neg hh] at q
          rw [if_neg hh]
          exact ⟨q0, C, dd, fs, tag, x.grow g, q.grow g⟩
      · cases h
    · rename_i t a pn pi pr
      split at h
      · rename_i zs b f h1 h2
        cases h
        refine PSs.imp (pss_one (ps_ret (pe_ifExp (pt_hit (f := f) hu hp hN hv hn h1) (attr_xq hp hN hv hn h2) pe_non))) ?_
        rintro D σ H ⟨q0, C, dd, fs, tag, x, q⟩
        refine ⟨q0, C, dd, fs, tag, x.ok, x.nt, x.at_, x.tg, x.ly, fun H' g => ?_⟩
        unfold fieldOf at q
        by_cases hh : FR.hit ⟨zs, b, f⟩ tag = true
        · rw [if_pos hh] at q
          rw [if_pos hh]
          exact xq_ret q0 (x.grow g) (q.grow g)
        · rw [if_neg hh] at q
          rw [if_neg hh]
          exact q H' g
      · cases h
    · cases h
      refine PSs.imp (pss_one (ps_ret pe_non)) ?_
      rintro D σ H ⟨q0, C, dd, fs, tag, x, q⟩
      exact q H (.refl _)
    · cases h
end
/-- what a def promises that is called within a clause: the exception is pinned; nothing is raised -/
structure FnQ (P : Program) (w : World) (K : PySem.W.Frag) (mg : Str → Option Value) (base : Heap) (k : Nat) (f : Addr) (fd : FuncData) (one : Str) (rows : List FR) : Prop where
  run : ∀ (A : Around) (outer : List PySem.Env) (s : Shared) (H : Hp) (args : Args) (Q : VK) (p : Addr × Obj) (C dd : Addr) (fs : List (Str × V)) (tag : Str), L2H.RoomH k A → L2H.PinOk outer H s p → Env0 P w K mg base A outer s H → BindsTo s fd args [(one, .ref p.1)] → XqAt K p H C dd fs tag → FldQ K C fs H Q (fieldOf rows tag) →
    codeAny (model P w) A (.call (.ref f) args) (CR (L2.CX P w) outer P w H s Q (fun _ _ _ => False)) s
theorem fnQ_of {P : Program} {w : World} {K : PySem.W.Frag} {mg : Str → Option Value} {base : Heap} {f : Addr} {name qual one : Str} {params : Arguments} {body : List Stmt} {scope : Scope} {dV kV doc pm cdv ct oc : Value} {an od : Option Addr}
    {osl : Array (Option Value)} {N : List Str} {rows : List FR} (lk : K.lookup f = some ⟨oc, od, .func (PySem.W.fnOf name qual params body scope dV kV doc pm an cdv ct), osl⟩) (hcd : PySem.W.codeIn K cdv qual = true) (S : FnScope N [one] scope) (hN : N[0]? = some one) (hv : Vis scope one) (hn : okName one = true) (hb : flB one body = some rows) :
    FnQ P w K mg base 1 f (PySem.W.fnOf name qual params body scope dV kV doc pm an cdv ct) one rows := by
  refine ⟨fun A outer s H args Q p C dd fs tag hr hpin e0 hbd hx hq => ?_⟩
  have KX : K.In s.heap := e0.mod.kin.keeps fun b o e => (e0.bs b o e).1
  have lim : s.heap.NoLimit := e0.mod.nolimit.keeps fun b o e => (e0.bs b o e).1
  have hkind : ∀ y ∈ ([one] : List Str).zip [Value.ref p.1], scope.names.lookup y.1 = some .local ∨ (scope.names.lookup y.1 = some .cell ∧ ((cellsFrom (s.heap.objs.size + 1) scope.names []).lookup y.1).isSome = true) := fun ⟨n, v⟩ hy =>
    (S.par n (List.of_mem_zip hy).1).elim .inl fun q => .inr ⟨q, PySem.W.cellsFrom_some _ _ _ (.inl q)⟩
  refine codeAny_call_function hr.depth (KX _ _ lk) rfl S.co S.gen rfl (PySem.W.codeRec_of KX hcd) (hbd _ _ _ _ ?_)
  refine wpAny_newFunctionEnv_cells S.kind hkind fun env he s1 x => ?_
  subst he
  refine ⟨lim.keeps x.toInCall.keep, codeAny_func ?_⟩
  have I : Inv (L2H.cxH (L2.CX P w) P w K mg base N qual scope f cdv A outer s H (fun _ _ _ => False) p) [] (L2.start N [.ref p.1]) H s1 := L2H.inv_startH S hpin e0 rfl (.cons rfl .nil) x
  have hu : (L2H.cxH (L2.CX P w) P w K mg base N qual scope f cdv A outer s H (fun _ _ _ => False) p).A.units + many + 5 < cLine := by
    have := hr.un
    show A.units + 3 + many + 5 < cLine
    unfold many
    omega
  have ht := field_ok (X := L2H.cxH (L2.CX P w) P w K mg base N qual scope f cdv A outer s H (fun _ _ _ => False) p) (p := p) hu (List.mem_singleton.mpr rfl) hN hv hn body rows hb
  refine wpAny_mono (ht.run [] s1 (L2.start N [.ref p.1]) H { nx := fun _ H' => Q .non H', rt := Q } I ⟨rfl, C, dd, fs, tag, hx, hq⟩) (fun fl s' hs => ?_) fun e s' hs => hs
  cases fl with
  | ret u =>
    obtain ⟨v, σ', H', J, rv, q⟩ := hs
    exact ⟨v, H', J.os, J.bare, J.base, J.hok, rv, q⟩
  | next =>
    obtain ⟨σ', H', J, q⟩ := hs
    exact ⟨.non, H', J.os, J.bare, J.base, J.hok, rfl, q⟩
  | brk => exact hs.elim fun _ h => h.elim fun _ h => False.elim h.2
  | cont => exact hs.elim fun _ h => h.elim fun _ h => False.elim h.2
end Z

/-! ZG3: try: .. except (A, B, C) as n: .., where each error of the body is caught -/
namespace Z
open PySem PySem.Spec PyProof.Rows L2
theorem fly_push {B h : Heap} {l : List PySem.Env} {e : Addr} {Zp : Obj → Prop} {o : Obj} (x : HandSPX.FlyingZ B l e Zp h) : HandSPX.FlyingZ B l e Zp (h.push o) := by
  obtain ⟨h1, h2, h3, oe, vs, T, oT, ts, g1, g2, g3, g4, g5, g6, g7, g8, g9⟩ := x
  have kp : ∀ b u, h.get? b = some u → (h.push o).get? b = some u := fun _ _ z => Heap.get?_push_of_some _ z
  exact ⟨fun b u z => kp b u (h1 b u z), h2, h3.of_keeps fun b u z _ => ⟨u, kp b u z, rfl⟩, oe, vs, T, oT, ts, kp _ _ g1, g2, g3, g4, g5, g6, kp _ _ g7, g8, g9⟩
/-- what is wished of an error of the body -/
def wT3 (K : PySem.W.Frag) (cs : List Value) (i : Nat) (ts : Addr → Value → Option Addr → TS) (D : Ends) : WX := fun cls d σ H =>
  PySem.W.exmAny K cls cs = some true ∧ ∀ a, H a = none → ts a cls d { nx := fun σ' H' => D.nx (σ'.set i none) H', rt := D.rt, bk := fun σ' H' => D.bk (σ'.set i none) H', ct := fun σ' H' => D.ct (σ'.set i none) H' } (σ.set i (some (.ref a))) H
/-- the names of a clause's classes -/
structure N3 (X : Cx) (x : Str) (c : Value) : Prop where
  gl : Gl X x
  ok : okName x = true
  mg : X.mg x = some c
section
variable {X : Cx} {x1 x2 x3 n : Str} {c1 c2 c3 : Value} {i kk : Nat} {body suite : List Stmt} {b₀ : Stmt} {p1 p2 p3 pt pos pos' : Pos} {tb : WX → TS} {ts : Addr → Value → Option Addr → TS}
theorem try_tup3 (hs : X.stack = X.env :: X.outer) (hf : X.env.frame = some X.env.locals) (hN : X.N.Nodup) (hi : X.N[i]? = some n) (hln : X.env.kindOf n = some .local) (n1 : N3 X x1 c1) (n2 : N3 X x2 c2) (n3 : N3 X x3 c3)
    (hb : ∀ (W : WX) (pn : List (Addr × Obj)) (xe : Value → Shared → Prop), Takes (X.tr pn xe) W → PSs (X.tr pn xe) body (tb W))
    (hsu : ∀ (a : Addr) (oe : Obj) (cls : Value) (d : Option Addr) (pn : List (Addr × Obj)), Zc cls d oe → (∃ vs, oe.data = .fields vs) → PSs (X.suite a ((a, oe) :: pn)) (b₀ :: suite) (ts a cls d)) :
    PS X (.Try body [.ExceptHandler (some (.Tuple [.Name x1 p1, .Name x2 p2, .Name x3 p3] kk pt)) (some n) (b₀ :: suite) pos'] [] [] pos) (fun D σ H => tb (wT3 X.K [c1, c2, c3] i ts D) D σ H) := by
  refine ⟨fun pins s σ H D I h => wpAny_Try_except ?_⟩
  have ok := I.ok
  have hfr : X.A.frames = some (X.env :: X.outer) := by rw [ok.frames, hs]
  refine wpAny_mono ((hb (wT3 X.K [c1, c2, c3] i ts D) (X.pn ++ pins) _ (fun u s' xx => ?_)).run [] s σ H D (I.toTry _) h) (fun f s1 hsp => ?_) (fun e s1 he => he)
  · obtain ⟨a, B, sI, pins', σ', H', cls, d, rfl, J', nb, up, sky, na, os, ag, hb1, hyes⟩ := xx
    have J : Inv X pins σ' H' sI := J'.ofTry ok
    have sky' : Sky B (X.env :: X.outer) a (Zc cls d) X.env.locals s'.heap := by rw [← hs]; exact sky
    show wpAny (model X.prog X.w) X.A (noteFrame (.ref a) X.env) _ _ _
    refine Sky.land Zc.steady hfr hf sky' fun h3 fl3 up3 => ?_
    have J3 : Inv X pins σ' H' { s' with heap := h3 } := J.landed nb fl3.1 (up.trans up3) os ag
    obtain ⟨oe3, vs3, he3, hz3, hd3⟩ := fl3.there
    have out : ∀ {g : Heap} {o : Obj} {vs : Array Value}, g.FunFrames B (X.env :: X.outer) → g.get? a = some o → o.data = .fields vs → a ∉ frs (X.env :: X.outer) := fun ff e dd hm => by
      obtain ⟨_, o', e', hnf⟩ := ff.mem hm
      rw [e] at e'
      cases e'
      exact hnf _ dd
    have nfr := out fl3.2.2.1 he3 hd3
    have nL : a ≠ X.env.locals := fun z => nfr (List.mem_filterMap.mpr ⟨X.env, List.mem_cons_self, by rw [hf, z]⟩)
    have nF : a ∉ X.fs := fun hm => by
      obtain ⟨e, he, q⟩ := List.mem_filterMap.mp hm
      exact nfr (List.mem_filterMap.mpr ⟨e, List.mem_cons_of_mem _ he, q⟩)
    have S3 := J3.suite he3 hd3 na nL nF
    refine wpAny_handleBy_cons (codeAny_handlers_test ?_) (by intro q; cases q)
    have look : ∀ {y : Str} {c : Value} {py : Pos} {Q : Value → Shared → Prop} {E : Value → Shared → Prop}, N3 X y c → Q c { s' with heap := h3 } → wpAny (model X.prog X.w) (X.A.mark (some (.ref a))) (eval (.Name y py) X.env) Q E { s' with heap := h3 } := fun {y c py Q E} hy q =>
      ld_glob (X := X.suite a ((a, oe3) :: (X.pn ++ pins))) S3 hy.gl hy.mg q (okName_of hy.ok).1
    refine wpAny_Tuple (wpAny_items_cons (look n1 (wpAny_items_cons (look n2 (wpAny_items_cons (look n3 (wpAny_items_nil ⟨by size_fits, ?_⟩)))))))
    have kp : ∀ b u, h3.get? b = some u → (h3.push { cls := .type "tuple", data := .seq [c1, c2, c3].toArray }).get? b = some u := fun _ _ z => Heap.get?_push_of_some _ z
    have LT : PySem.W.Looks (model X.prog X.w) (h3.push { cls := .type "tuple", data := .seq [c1, c2, c3].toArray }) (typeOf (.ref a)) cls := fun A Q E s k q => wpAny_typeOf_ref (k _ _ (kp _ _ he3)) (by rw [hz3.1]; exact q)
    refine (PySem.W.exm_tup3 (M := model X.prog X.w) (J3.kIn.keeps kp) LT (Heap.get?_push_size h3 rfl) hb1).here ?_
    refine codeAny_handlers_suite_as ?_
    refine HandSPX.lands_againZ (fly_push fl3) fun h4 fl4 up4 => ?_
    have up34 : h3.UpToSlots (h3.push { cls := .type "tuple", data := .seq [c1, c2, c3].toArray }) := Heap.UpToSlots.of_keeps kp
    have J4 : Inv X pins σ' H' { s' with heap := h4 } := J.landed nb fl4.1 (((up.trans up3).trans up34).trans up4) os ag
    obtain ⟨oe4, vs4, he4, hz4, hd4⟩ := fl4.there
    have S4 := J4.suite he4 hd4 na nL nF
    refine store_ok (X := X.suite a ((a, oe4) :: (X.pn ++ pins))) (v := .ref a) S4 hN hi (.inl hln) rfl (fun s5 S5 => ?_) (.inr hln)
    refine wpAny_mono ((hsu a oe4 cls d (X.pn ++ pins) hz4 ⟨_, hd4⟩).run [] s5 _ H' _ S5 (hyes a na)) (fun f s6 hsp => ?_) (fun _ _ z => False.elim z)
    have end_ : ∀ {σ6 : L2.St} {H6 : Hp} {Q : Shared → Prop}, Inv (X.suite a ((a, oe4) :: (X.pn ++ pins))) [] σ6 H6 s6 → (∀ s7, Inv X pins (σ6.set i none) H6 s7 → Q s7) →
        wpAny (model X.prog X.w) X.A (do bindName X.env n .none; unbindBehindTheSuite X.env n pos') (fun _ s7 => Q s7) X.xe s6 := fun S6 hq => gone_ok (S6.unsuite ok) hN hi hln hq
    cases f with
    | ret u =>
      obtain ⟨v6, σ6, H6, S6, r6, q6⟩ := hsp
      exact end_ S6 fun s7 J7 => ⟨_, _, _, J7, r6, q6⟩
    | next => exact hsp.elim fun σ6 z => z.elim fun H6 z => end_ z.1 fun s7 J7 => ⟨_, _, J7, z.2⟩
    | brk => exact hsp.elim fun σ6 z => z.elim fun H6 z => end_ z.1 fun s7 J7 => ⟨_, _, J7, z.2⟩
    | cont => exact hsp.elim fun σ6 z => z.elim fun H6 z => end_ z.1 fun s7 J7 => ⟨_, _, J7, z.2⟩
  · cases f with
    | ret u =>
      obtain ⟨v, σ', H', J', r, q⟩ := hsp
      exact ⟨v, σ', H', J'.ofTry ok, r, q⟩
    | next => exact hsp.elim fun σ6 z => z.elim fun H6 z => wpAny_execs_nil ⟨σ6, H6, z.1.ofTry ok, z.2⟩
    | brk => exact hsp.elim fun σ6 z => z.elim fun H6 z => ⟨σ6, H6, z.1.ofTry ok, z.2⟩
    | cont => exact hsp.elim fun σ6 z => z.elim fun H6 z => ⟨σ6, H6, z.1.ofTry ok, z.2⟩
end
end Z

/-! ZG4: a lambda handed to a def of one parameter: all tables of code objects grow -/
namespace Z
open PySem PySem.Spec PyProof.Rows L2 LamX
/-- tables grow, all else stays -/
structure TbG (T : List (Addr × Str)) (H H1 : Hp) : Prop where
  ext : ExtN H H1
  tb : ∀ b ps, H b = some (.tbl ps) → ∃ ps', H1 b = some (.tbl ps')
  tabs : Tabs T H1
section
variable {X : Cx} {pins : List (Addr × Obj)} {σ : L2.St} {H : Hp} {s : Shared}
theorem lam_make3 {T : List (Addr × Str)} {c P : Addr} {params : Arguments} {body : Expr} {scope : Scope} {pos : Pos} {E : Value → Shared → Prop} {Q : Value → Shared → Prop} (I : Inv X pins σ H s) (TB : TabB X.base X.mg c P) (hcode : X.env.code = .ref c)
    (hm : (P, X.env.qual ++ "<lambda>") ∈ T) (hu : ∀ p ∈ T, p.1 = P → p.2 = X.env.qual ++ "<lambda>") (hT : Tabs T H) (hdef : defaultsOf params X.env = ([], [])) (hfree : ∀ y ∈ scope.names, y.2 = .free → ∃ c, X.env.cells.lookup y.1 = some c)
    (h : ∀ (f c' : Addr) (pm ctv : Value) (H1 : Hp) (s' : Shared), Inv X pins σ H1 s' → TbG T H H1 →
      s'.heap.get? f = some (PySem.W.kla_obj "<lambda>" (X.env.qual ++ "<lambda>") params body scope (cloFrom X.env.cells scope.names []) pm c' ctv) → H1 f = none → f ∉ frs X.stack → H1 c' = some (CodeO c' (X.env.qual ++ "<lambda>")) → Q (.ref f) s') :
    wpAny (model X.prog X.w) X.A (eval (.Lambda params body scope pos) X.env) Q E s := by
  obtain ⟨ps, hP, ht, ha⟩ := hT _ hm
  have bP : s.heap.BuiltinsAt X.mg P := TB.bm.keeps I.bk
  have hP' : s.heap.get? P = some { cls := .none, data := .fields ps } := I.hok P _ hP
  have nofr : ∀ f, s.heap.objs.size ≤ f → f ∉ frs X.stack := fun f hf z => (List.mem_cons.mp (I.stkSub _ z)).elim (fun e => Nat.lt_irrefl _ (Nat.lt_of_lt_of_le (e ▸ I.lt) hf)) (fun e => I.nofs hf e)
  refine PySem.W.kla_eval hdef ?_
  cases hc : codeAmong pos ps.toList with
  | some cv =>
    obtain ⟨c', rfl, hco⟩ := ha pos cv hc
    refine PySem.W.kla_makeFunctionHit (mg := X.mg) (c := c) (P := P) (ps := ps) (closure_ok hfree) I.ok.glob (I.mod.glob.keeps I.bk) hcode (TB.code.keeps I.bk) hP' ht hc bP fun ctv h' tk hx hsz => ?_
    exact h h'.objs.size c' ((X.mg "__name__").getD .none) ctv H _ (I.kept fun b o e => Heap.get?_push_of_some _ (hx b o e)) ⟨ExtN.refl H, fun _ ps e => ⟨ps, e⟩, hT⟩ (Heap.get?_push_size _ rfl) (I.hok.fresh hsz) (nofr _ hsz) hco
  | none =>
    refine PySem.W.kla_makeFunction (mg := X.mg) (c := c) (P := P) (ps := ps) (closure_ok hfree) I.ok.glob (I.mod.glob.keeps I.bk) hcode (TB.code.keeps I.bk) hP' ht hc TB.gP bP fun c' ctv h' tk hx hge hlt hrec htb => ?_
    obtain ⟨c2, oc, vs, t, e2, hoc, hd, hv⟩ := hrec
    cases e2
    have hsz : s.heap.objs.size ≤ h'.objs.size := Nat.le_trans hge (Nat.le_of_lt hlt)
    have nC : H c' = none := I.hok.fresh hge
    have I1 := inv_table (t' := tk) (more := #[rawInt pos.line, rawInt pos.col, .ref c']) (h' := h'.push (PySem.W.kla_obj "<lambda>" (X.env.qual ++ "<lambda>") params body scope (cloFrom X.env.cells scope.names []) ((X.mg "__name__").getD .none) c' ctv)) I hP
      (fun b o hb e => Heap.get?_push_of_some _ (hx b o hb e)) (Heap.get?_push_of_some _ htb) hge ⟨oc, vs, t, Heap.get?_push_of_some _ hoc, hd, hv⟩
    have oth : ∀ {b : Addr} {o : HO}, H b = some o → b ≠ P → upd (upd H P (.tbl (ps ++ #[rawInt pos.line, rawInt pos.col, .ref c']))) c' (CodeO c' (X.env.qual ++ "<lambda>")) b = some o := fun {b o} e hb => by rw [upd_ne (ne_of_none e nC), upd_ne hb]; exact e
    have here : upd (upd H P (.tbl (ps ++ #[rawInt pos.line, rawInt pos.col, .ref c']))) c' (CodeO c' (X.env.qual ++ "<lambda>")) P = some (.tbl (ps ++ #[rawInt pos.line, rawInt pos.col, .ref c'])) := by rw [upd_ne (ne_of_none hP nC), upd_same]
    have hE : ExtN H (upd (upd H P (.tbl (ps ++ #[rawInt pos.line, rawInt pos.col, .ref c']))) c' (CodeO c' (X.env.qual ++ "<lambda>"))) := fun b o e n => oth e fun z => n ps (Option.some.inj (e.symm.trans (by rw [z]; exact hP)))
    have eL : (ps ++ #[rawInt pos.line, rawInt pos.col, .ref c']).toList = ps.toList ++ [rawInt pos.line, rawInt pos.col, .ref c'] := by simp
    refine h h'.objs.size c' ((X.mg "__name__").getD .none) ctv _ _ I1 ⟨hE, fun b qs e => ?_, fun p hp => ?_⟩ (Heap.get?_push_size _ rfl) ?_ (nofr _ hsz) upd_same
    · by_cases hb : b = P
      · exact ⟨_, by rw [hb]; exact here⟩
      · exact ⟨qs, oth e hb⟩
    · by_cases hb : p.1 = P
      · rw [hu p hp hb, hb]
        refine ⟨_, here, by rw [eL]; exact PySem.TriplesOk_snoc _ _ _ _ ht, fun p' cv hcv => ?_⟩
        rw [eL] at hcv
        rcases among_app _ ht hcv with z | z
        · exact (ha p' cv z).elim fun c0 y => ⟨c0, y.1, hE _ _ y.2 codeO_ne⟩
        · exact ⟨c', z, upd_same⟩
      · obtain ⟨ps', a1, a2, a3⟩ := hT p hp
        exact ⟨ps', oth a1 hb, a2, fun p' cv hcv => (a3 p' cv hcv).elim fun c0 y => ⟨c0, y.1, hE _ _ y.2 codeO_ne⟩⟩
    · rw [upd_ne (Nat.ne_of_gt hlt), upd_ne (Nat.ne_of_gt (Nat.lt_of_lt_of_le (Heap.lt_size hP') hsz))]
      exact I.hok.fresh hsz
end
def tLamZ (T : List (Addr × Str)) (TT : (XK → Hp → VK → Prop) → Hp → VK → Prop) (t : XK → TE) : TE := fun σ H Q => Tabs T H ∧ ∀ H1, TbG T H H1 → TT (fun E H' Q' => t E σ H' Q') H1 Q
theorem pe_lamZ {X : Cx} {T : List (Addr × Str)} {TT : (XK → Hp → VK → Prop) → Hp → VK → Prop} {x a : Str} {g c P : Addr} {k : Nat} {pg : Arguments} {bg : List Stmt} {sg : Scope} {dV kV doc pm cdv ct oc : Value} {an od : Option Addr} {osl : Array (Option Value)} {Ng : List Str}
    {params : Arguments} {body : Expr} {scope : Scope} {t : XK → TE} {p lpos pos : Pos} (hg : Gl X x) (hm : X.mg x = some (.ref g)) (hk : PySem.W.keepIn X.K (.ref g) = true)
    (lk : X.K.lookup g = some ⟨oc, od, .func (PySem.W.fnOf x x pg bg sg dV kV doc pm an cdv ct), osl⟩) (hcg : PySem.W.codeIn X.K cdv x = true) (hb : L2.Binds X.K (PySem.W.fnOf x x pg bg sg dV kV doc pm an cdv ct) [a] []) (Sg : FnScope Ng [a] sg) (hNg : Ng[0]? = some a) (hva : Vis sg a)
    (hG : GivesTo X Ng x sg g cdv bg a (X.env.qual ++ "<lambda>") TT)
    (TB : TabB X.base X.mg c P) (hcode : X.env.code = .ref c) (hmT : (P, X.env.qual ++ "<lambda>") ∈ T) (hu : ∀ p ∈ T, p.1 = P → p.2 = X.env.qual ++ "<lambda>") (hr : Room (k + 2) X.A) (L : LamS X.env.scope scope) (hdef : defaultsOf params X.env = ([], []))
    (hbind : ∀ (q : Str) (cl : List (Str × Addr)) (pm cv ctv : Value), bindArgs (PySem.W.kla_fn "<lambda>" q params body scope cl pm cv ctv) ⟨[], []⟩ = pure [])
    (hbody : ∀ (A : Around) (outer : List PySem.Env) (s : Shared) (H : Hp) (E : XK) (f c' : Addr), Room k (A.deeper (lamEnv X scope s.heap.objs.size f c')) → PE (lamCx X A outer s H E scope f c') body (t E))
    (hdb : (x == ("__debug__" : Str)) = false) (ha : okName a = true) :
    PE X (.Call (.Name x p) [.Lambda params body scope lpos] [] pos) (tLamZ T TT t) := by
  refine ⟨fun pins s σ H Q I h => ?_⟩
  obtain ⟨hT, h⟩ := h
  refine wpAny_Call_Name_kw (ld_glob I hg hm (PySem.W.callWith_K (h₀ := X.base) I.ok.mod.kin hk ?_ (by rfl) (by rfl)) hdb)
  show wpAny _ _ (spliced ((false, eval (.Lambda params body scope lpos) X.env) :: backTo pos (starEach [] X.env))) _ _ s
  refine Calls.spliced_cons (lam_make3 I TB hcode hmT hu hT hdef (L.has I.ok) fun f c' pm' ctv H1 s' I1 hG1 hf hfn hfr hco => Calls.spliced_nil ⟨I1.kIn, ?_⟩)
  have rc : codeAny (model X.prog X.w) X.A (.call (.ref g) ⟨[.ref f], []⟩) (CR C8.CX0 X.stack X.prog X.w H1 s' Q C8.E0) s' := by
    refine run_ofS (N := Ng) (ps := [a]) (us := [.ref f]) (vs := [.ref f]) lk hcg Sg hr I1.env0 (hb s' [.ref f] I1.kIn rfl) (.cons rfl .nil) rfl fun hr' => ?_
    obtain ⟨t', ht', hq'⟩ := hG f c' s' H1 Q (fun E H' Q' => t E σ H' Q') (fun W pn xe E p1 p2 tk hW => pe_act (i := 0) I1 L hf hfn hfr (hbind _ _ _ _ _) tk hW hr' (fun A outer s H hr2 => hbody A outer s H E f c' hr2) hNg hva (okName_of ha).1 (okName_of ha).2.1) hco (h H1 hG1)
    exact ⟨t', ht'.nox, hq'⟩
  refine wpAny_call (codeAny_mono rc fun r s2 hq => ?_)
  cases r with
  | error e => exact (show False from hq).elim
  | ok fl =>
    cases fl with
    | ret u => exact I1.after hq
    | next => exact False.elim hq
    | brk => exact False.elim hq
    | cont => exact False.elim hq
end Z

/-! ZG5: what the law's own try makes of a lambda -/
namespace Z
open PySem PySem.Spec PyProof.Rows L2 LamX
/-- the clause tells tag and field of what was caught -/
def WGot (K : PySem.W.Frag) (rows : List FR) (cs : List Value) (Q : VK) : XK := fun cls d H => PySem.W.exmAny K cls cs = some true ∧ ∀ a, H a = none → ∃ (C dd : Addr) (fs : List (Str × V)) (tag : Str), cls = .ref C ∧ d = some dd ∧ XfC K C ∧ PySem.W.findIn K (.ref C) "tag" = some none ∧
  H dd = some (.xd fs) ∧ fs.lookup ("tag" : Str) = some (V.str tag) ∧ (PyData.str tag).canLay0 = true ∧ FldQ K C fs H (fun v H' => ∀ p, H' p = none → Q (.ref p) (upd H' p (.tup [.str tag, v]))) (fieldOf rows tag)
def TTgot (K : PySem.W.Frag) (rows : List FR) (cs : List Value) : (XK → Hp → VK → Prop) → Hp → VK → Prop := fun tl H Q =>
  tl (WGot K rows cs Q) H (fun v H' => [V.str "value", v].length ≤ sizeLine ∧ ∀ p, H' p = none → Q (.ref p) (upd H' p (.tup [.str "value", v])))
section
variable {X : Cx} {p : Addr × Obj} {one fx : Str} {k : Nat} {f : Addr} {fd : FuncData} {rows : List FR} {e : Expr} {te : TE} {pf pc : Pos}
theorem pe_fq (F : FnQ X.prog X.w X.K X.mg X.base k f fd one rows) (hr : L2H.RoomH k X.A) (hp : p ∈ X.pn) (hg : Gl X fx) (hdb : (fx == ("__debug__" : Str)) = false) (hm : X.mg fx = some (.ref f)) (hk : PySem.W.keepIn X.K (.ref f) = true) (hb : Binds X.K fd [one] []) (he : PE X e te) (hs : starEach [e] X.env = (false, eval e X.env) :: starEach [] X.env) :
    PE X (.Call (.Name fx pf) [e] [] pc) (fun σ H Q => te σ H fun x H1 => x = .ref p.1 ∧ ∃ (C dd : Addr) (fs : List (Str × V)) (tag : Str), XqAt X.K p H1 C dd fs tag ∧ FldQ X.K C fs H1 Q (fieldOf rows tag)) := by
  refine ⟨fun pins s σ H Q I h => wpAny_Call_Name_kw (ld_glob I hg hm (PySem.W.callWith_K (h₀ := X.base) I.ok.mod.kin hk (thn ((pa_cons he pa_nil hs).run pc pins s σ H (fun vs H1 => match vs with
    | [x] => x = .ref p.1 ∧ ∃ (C dd : Addr) (fs : List (Str × V)) (tag : Str), XqAt X.K p H1 C dd fs tag ∧ FldQ X.K C fs H1 Q (fieldOf rows tag)
    | _ => False) I h) fun us s1 ⟨vs, H1, I1, r, q⟩ => ⟨I1.kIn, ?_⟩) hs (by rfl)) hdb)⟩
  match vs, r, q with
  | [x], r, q =>
    obtain ⟨rfl, C, dd, fs, tag, hx, hq⟩ := q
    cases r with
    | cons r1 r2 =>
      cases r2
      obtain rfl := r1
      have b := hb s1 [.ref p.1] I1.kIn rfl
      have P1 := I1.pin p (List.mem_append_left _ hp)
      have hpin : L2H.PinOk X.stack H1 s1 p := ⟨P1.1, P1.2.1, fun hm => (List.mem_cons.mp (I1.stkSub p.1 hm)).elim P1.2.2.1 P1.2.2.2.1, P1.2.2.2.2⟩
      refine wpAny_call (codeAny_mono (F.run X.A X.stack s1 H1 ⟨[.ref p.1], []⟩ Q p C dd fs tag hr hpin I1.env0 b hx hq) fun r s' hq' => ?_)
      cases r with
      | error e =>
        obtain ⟨_, _, _, _, _, _, _, _, _, _, _, _, z⟩ := hq'
        exact z.elim
      | ok fl =>
        cases fl with
        | ret u => exact I1.after hq'
        | next => exact False.elim hq'
        | brk => exact False.elim hq'
        | cont => exact False.elim hq'
end
/-! ### the def -/
/-- its body: try: return ("value", a()) / except (x1, x2, x3) as n: return (n.tag, fx(n)) -/
def gtB (a : Str) : List Stmt → Option (Str × Str × Str × Str × Str)
  | [.Try [.Return (some (.Tuple [.Constant (.str v) _ _, .Call (.Name a1 _) [] [] _] _ _)) _] [.ExceptHandler (some (.Tuple [.Name x1 _, .Name x2 _, .Name x3 _] _ _)) (some n) [.Return (some (.Tuple [.Attribute (.Name n1 _) t _, .Call (.Name fx _) [.Name n2 _] [] _] _ _)) _] _] [] [] _] =>
    if (v == "value" && a1 == a && n1 == n && t == "tag" && n2 == n) = true then some (x1, x2, x3, n, fx) else none
  | _ => none
/-- what is asked of its scope -/
structure GtS (Ng : List Str) (a : Str) (sg : Scope) (x1 x2 x3 n fx : Str) (i : Nat) : Prop where
  nd : Ng.Nodup
  n0 : Ng[0]? = some a
  va : Vis sg a
  oa : okName a = true
  ni : Ng[i]? = some n
  ln : sg.names.lookup n = some .local
  on : okName n = true
  g1 : sg.names.lookup x1 = some .globalImplicit
  g2 : sg.names.lookup x2 = some .globalImplicit
  g3 : sg.names.lookup x3 = some .globalImplicit
  gf : sg.names.lookup fx = some .globalImplicit
  o1 : okName x1 = true
  o2 : okName x2 = true
  o3 : okName x3 = true
  of_ : okName fx = true
theorem FldQ.imp {K : PySem.W.Frag} {C : Addr} {fs : List (Str × V)} {H : Hp} {Q Q' : VK} (i : ∀ v H', Q v H' → Q' v H') : ∀ {o : Option Str}, FldQ K C fs H Q o → FldQ K C fs H Q' o
  | none, h => fun H' g => i _ _ (h H' g)
  | some f, ⟨h1, v, h2, h3⟩ => ⟨h1, v, h2, fun H' g => i _ _ (h3 H' g)⟩
/-- the clause's suite -/
def tSuite (K : PySem.W.Frag) (rows : List FR) (i : Nat) (a : Addr) (cls : Value) (d : Option Addr) : TS := fun D σ H => (i < σ.length → σ[i]? = some (some (.ref a))) ∧ ∃ (C dd : Addr) (fs : List (Str × V)) (tag : Str), cls = .ref C ∧ d = some dd ∧ XfC K C ∧ PySem.W.findIn K (.ref C) "tag" = some none ∧
  H dd = some (.xd fs) ∧ fs.lookup ("tag" : Str) = some (V.str tag) ∧ (PyData.str tag).canLay0 = true ∧ FldQ K C fs H (fun v H' => ∀ p, H' p = none → D.rt (.ref p) (upd H' p (.tup [.str tag, v]))) (fieldOf rows tag)
theorem got_gives {X : Cx} {Ng : List Str} {x a q x1 x2 x3 n fx one : Str} {sg : Scope} {g f : Addr} {cdg c1 c2 c3 : Value} {bg : List Stmt} {i : Nat} {fd : FuncData} {rows : List FR} (h : gtB a bg = some (x1, x2, x3, n, fx)) (S : GtS Ng a sg x1 x2 x3 n fx i) (m1 : X.mg x1 = some c1) (m2 : X.mg x2 = some c2) (m3 : X.mg x3 = some c3)
    (mf : X.mg fx = some (.ref f)) (kf : PySem.W.keepIn X.K (.ref f) = true) (F : FnQ X.prog X.w X.K X.mg X.base 1 f fd one rows) (bf : Binds X.K fd [one] []) (hr : Room 2 X.A) : GivesTo X Ng x sg g cdg bg a q (TTgot X.K rows [c1, c2, c3]) := by
  unfold gtB at h
  split at h
  · rename_i v j1 pv a1 pa pc kt pt pr y1 p1 y2 p2 y3 p3 kk ptt n' n1 pn1 t ptg fx' pfx n2 pn2 pcall k2 pt2 pr2 ph ptry
    split at h
    · rename_i hc
      simp only [Bool.and_eq_true] at hc
      obtain ⟨⟨⟨⟨h1, h2⟩, h3⟩, h4⟩, h5⟩ := hc
      obtain rfl := eq_of_beq h1
      obtain rfl := eq_of_beq h2
      obtain rfl := eq_of_beq h3
      obtain rfl := eq_of_beq h4
      obtain rfl := eq_of_beq h5
      cases h
      intro fl c' s H Q tl act hc' hq
      have ilt : i < Ng.length := (List.getElem?_eq_some_iff.mp S.ni).1
      have hp := try_tup3 (X := (cxOf C8.CX0 X.prog X.w X.K X.mg X.base Ng x sg g cdg X.A X.stack s H C8.E0).nox) (body := [.Return (some (.Tuple [.Constant (.str "value") j1 pv, .Call (.Name a1 pa) [] [] pc] kt pt)) pr]) (b₀ := .Return (some (.Tuple [.Attribute (.Name n pn1) "tag" ptg, .Call (.Name fx pfx) [.Name n pn2] [] pcall] k2 pt2)) pr2) (suite := [])
        (p1 := p1) (p2 := p2) (p3 := p3) (kk := kk) (pt := ptt) (pos := ptry) (pos' := ph) (i := i) (c1 := c1) (c2 := c2) (c3 := c3)
        (tb := fun W D σ H => ∃ Ech : XK, (∀ cls d σ' H', Ech cls d H' → W cls d σ' H') ∧ σ[0]? = some (some (.ref fl)) ∧ H c' = some (CodeO c' q) ∧ tl Ech H (fun v H' => [V.str "value", v].length ≤ sizeLine ∧ ∀ p, H' p = none → D.rt (.ref p) (upd H' p (.tup [.str "value", v]))))
        (ts := tSuite X.K rows i) rfl rfl S.nd S.ni S.ln ⟨S.g1, S.o1, m1⟩ ⟨S.g2, S.o2, m2⟩ ⟨S.g3, S.o3, m3⟩ (fun W pn xe tk => ?_) (fun a oe cls d pn hz hf => ?_)
      · refine ⟨_, pss_one hp, WGot X.K rows [c1, c2, c3] Q, fun cls d σ' H' hw => ⟨hw.1, fun a na => ⟨fun hl => ?_, hw.2 a na⟩⟩, rfl, hc', hq⟩
        rw [List.length_set] at hl
        rw [List.getElem?_set_self hl]
      · refine ⟨fun pins s' σ H' D I h' => ?_⟩
        obtain ⟨Ech, hW, h1, h2, h3⟩ := h'
        exact (pss_one (ps_ret (pos := pr) (pe_tup (x1 := kt) (pos := pt) (pa_cons (pe_str (j := j1) (pos := pv)) (pa_cons (act W pn xe Ech pa pc tk hW) pa_nil))))).run pins s' σ H' D I ⟨h1, h2, h3⟩
      · refine ⟨fun pins s' σ H' D I h' => ?_⟩
        obtain ⟨hi, C, dd, fs, tag, rfl, rfl, e1, e2, e3, e4, e5, e6⟩ := h'
        have hi : σ[i]? = some (some (.ref a)) := hi (by rw [I.len]; exact ilt)
        have hv : PE (Cx.suite (cxOf C8.CX0 X.prog X.w X.K X.mg X.base Ng x sg g cdg X.A X.stack s H C8.E0).nox a ((a, oe) :: pn)) (.Name n pn1) (tVar i) := pe_var S.ni (.inl S.ln) (okName_of S.on).1 (okName_of S.on).2.1
        have hv2 : PE (Cx.suite (cxOf C8.CX0 X.prog X.w X.K X.mg X.base Ng x sg g cdg X.A X.stack s H C8.E0).nox a ((a, oe) :: pn)) (.Name n pn2) (tVar i) := pe_var S.ni (.inl S.ln) (okName_of S.on).1 (okName_of S.on).2.1
        have r1 := L2H.roomH_of (hr.deeper (envOfC x sg s.heap.objs.size g cdg))
        have ok : XqOk X.K (a, oe) C dd := ⟨e1, hz, hf⟩
        refine (pss_one (ps_ret (pos := pr2) (pe_tup (x1 := k2) (pos := pt2) (pa_cons (pe_xq (p := (a, oe)) (pos := ptg) (n := "tag") List.mem_cons_self hv (by rfl)) (pa_cons (pe_fq (p := (a, oe)) (pf := pfx) (pc := pcall) F ⟨r1.dp, r1.un⟩ List.mem_cons_self S.gf (okName_of S.of_).1 mf kf bf hv2 (by rfl)) pa_nil))))).run pins s' σ H' D I ?_
        refine ⟨.ref a, hi, rfl, C, dd, fs, .str tag, ok, e2, e3, e4, .ref a, hi, rfl, C, dd, fs, tag, ⟨ok, e2, e3, e4, e5⟩, e6.imp fun v H2 q => ⟨?_, q⟩⟩
        rw [sizeLine_eq]
        simp
    · cases h
  · cases h
end Z

/-! ZG6: the promise of the law's own try -/
namespace Z
open PySem PySem.Spec PyProof.Rows L2 LamX
theorem TbG.stp {K : Kx} {F : Fs} {H H1 : Hp} {ρ : List Addr} {S : Store} (w : Wf K H F ρ S) (g : TbG K.T H H1) : Stp K F H ρ H1 ρ S := by
  have ex : ∀ {b : Addr} {o : HO}, H b = some o → tbB o = false → H1 b = some o := fun {b o} e n => g.ext b o e fun ps z => by rw [z] at n; cases n
  have le : Le (del H F ρ) (del H1 F ρ) := fun c u e => del_same e fun n z => ⟨n, rfl, by
    obtain ⟨o, ho, hn⟩ := z
    rw [ho, ex ho hn]⟩
  refine ⟨fun a o e _ n => ex e n, g.tb, List.prefix_rfl, fun _ m => .inl m, w.len, w.nd, fun n a u e1 e2 => ?_, fun p m => ⟨fun z => ?_, (w.fd p m).2⟩, g.tabs⟩
  · obtain ⟨vs, hv⟩ := w.trL a (List.mem_of_getElem? e1)
    exact OB.le le List.prefix_rfl (by rw [hv, ex hv rfl]) (w.at_ n a u e1 e2)
  · cases hp : H p.1 with
    | none => exact (w.fd p m).1 hp
    | some o =>
      cases ho : tbB o with
      | false => rw [ex hp ho] at z; cases z
      | true =>
        cases o with
        | tbl ps =>
          obtain ⟨ps', e⟩ := g.tb _ _ hp
          rw [e] at z
          cases z
        | _ => cases ho
/-- the classes of errors that are known: each is caught, its fields are told rightly -/
structure XcM (K : PySem.W.Frag) (cs : List Value) (rows : List FR) (xc : Str → Option (Addr × Option Str)) : Prop where
  ok : ∀ (y : Str) (C : Addr) (fo : Option Str), xc y = some (C, fo) → PySem.W.exmAny K (.ref C) cs = some true ∧ XfC K C ∧ PySem.W.findIn K (.ref C) "tag" = some none ∧ y.length ≤ sizeLine ∧ PyData.strOk y = true ∧ fieldOf rows y = fo ∧ ∀ f, fo = some f → PySem.W.findIn K (.ref C) f = some none
theorem got_law {K : PySem.W.Frag} {Tt : List (Addr × Str)} {Ee : XK} {xc : Str → Option (Addr × Option Str)} {rows : List FR} {cs : List Value} (m : XcM K cs rows xc) {f : Env → M D} {σ : L2.St} {H : Hp} {Q : VK} (h : tE (Kx.mk K Tt Ee xc) (fun env S => gotSem false (f env S)) σ H Q) :
    tLamZ Tt (TTgot K rows cs) (fun E => tE (Kx.mk K Tt E xc) f) σ H Q := by
  obtain ⟨F, ρ, S, env, w, ev, p⟩ := h
  refine ⟨w.tabs, fun H1 g => ?_⟩
  have sx : Stp (Kx.mk K Tt Ee xc) F H ρ H1 ρ S := TbG.stp w g
  refine ⟨F, ρ, S, env, sx.wf.e, ev.le sx.le List.prefix_rfl, ?_⟩
  have p : Post (Kx.mk K Tt Ee xc) F H ρ Q (gotSem false (f env S)) := p
  cases hf : f env S with
  | stuck => rw [hf] at p; exact p.elim
  | ok d S' =>
    rw [hf] at p
    intro v H' ρ' st r
    refine ⟨by rw [sizeLine_eq]; simp, fun q nq => ?_⟩
    have st2 := sx.trans (st.e (E2 := Ee))
    have rr : RepA K (del H' F ρ') ρ' [V.str "value", v] [D.str "value", d] := .cons (.str (by rw [sizeLine_eq]; decide) (by decide +kernel)) (.cons r .nil)
    exact p (.ref q) _ ρ' (st2.trans (st2.wf.laid nq _)) (st2.wf.newTup nq rr (by rw [sizeLine_eq]; simp))
  | exc x S' =>
    rw [hf] at p
    intro c d H' ρ' st r
    obtain ⟨C, fo, dx, fs, e1, rfl, rfl, e4, e5, e6⟩ := r
    obtain ⟨m1, m2, m3, m4, m5, m6, m7⟩ := m.ok _ _ _ e1
    have st2 := sx.trans (st.e (E2 := Ee))
    have fin : ∀ {H2 : Hp} {v : V} {a : D}, Grow H' H2 → Rep K (del H2 F ρ') ρ' v a → x.arg.getD .non = a → ∀ q, H2 q = none → Q (.ref q) (upd H2 q (.tup [V.str x.cls, v])) := fun {H2 v a} gr ra ea q nq => by
      have st3 := st2.trans (gr.stp st2.wf)
      have rr : RepA K (del H2 F ρ') ρ' [V.str x.cls, v] [D.str x.cls, x.arg.getD .non] := .cons (.str m4 m5) (.cons (by rw [ea]; exact ra) .nil)
      exact p (.ref q) _ ρ' (st3.trans (st3.wf.laid nq _)) (st3.wf.newTup nq rr (by rw [sizeLine_eq]; simp))
    refine ⟨m1, fun a na => ⟨C, dx, fs, x.cls, rfl, rfl, m2, m3, e4, e5, m5, ?_⟩⟩
    rw [m6]
    cases fo with
    | none =>
      cases hx : x.arg with
      | none => exact fun H2 gr q nq => fin gr .non (by rw [hx]; rfl) q nq
      | some y => rw [hx] at e6; exact e6.elim
    | some fl =>
      cases hx : x.arg with
      | none => rw [hx] at e6; exact e6.elim
      | some y =>
        rw [hx] at e6
        obtain ⟨v, h1, h2⟩ := e6
        exact ⟨m7 fl rfl, v, h1, fun H2 gr q nq => fin gr ((gr.stp st2.wf).rep h2) (by rw [hx]; rfl) q nq⟩
theorem noPar_bind {params : Arguments} (h : noPar params = true) {body : Expr} {scope : Scope} (env : PySem.Env) (q : Str) (cl : List (Str × Addr)) (pm cv ctv : Value) : defaultsOf params env = ([], []) ∧ bindArgs (PySem.W.kla_fn "<lambda>" q params body scope cl pm cv ctv) ⟨[], []⟩ = pure [] := by
  unfold noPar at h
  split at h
  · exact ⟨rfl, rfl⟩
  · cases h
theorem gotM_of {K : PySem.W.Frag} {mg : Str → Option Value} {P : Program} {w : World} {xc : Str → Option (Addr × Option Str)} {x a x1 x2 x3 n fx one : Str} {g f : Addr} {pg : Arguments} {bg : List Stmt} {sg : Scope} {dV kV doc pm cdv ct oc : Value} {an od : Option Addr} {osl : Array (Option Value)} {Ng : List Str} {i : Nat} {c1 c2 c3 : Value} {rows : List FR} {fd : FuncData}
    (hm : mg x = some (.ref g)) (hk : PySem.W.keepIn K (.ref g) = true) (lk : K.lookup g = some ⟨oc, od, .func (PySem.W.fnOf x x pg bg sg dV kV doc pm an cdv ct), osl⟩) (hcg : PySem.W.codeIn K cdv x = true) (hb : L2.Binds K (PySem.W.fnOf x x pg bg sg dV kV doc pm an cdv ct) [a] []) (Sg : FnScope Ng [a] sg)
    (h : gtB a bg = some (x1, x2, x3, n, fx)) (S : GtS Ng a sg x1 x2 x3 n fx i) (m1 : mg x1 = some c1) (m2 : mg x2 = some c2) (m3 : mg x3 = some c3) (mf : mg fx = some (.ref f)) (kf : PySem.W.keepIn K (.ref f) = true) (F : ∀ base : Heap, FnQ P w K mg base 1 f fd one rows) (bf : Binds K fd [one] [])
    (m : XcM K [c1, c2, c3] rows xc) (hdb : okName x = true) : GotM K mg P w xc x false := by
  refine ⟨fun X Tt Ee rm e1 e2 e3 e4 hc hr hg {c P1 params body scope f1 p lpos pos} TB hcode hmT hu hnp L hbody => ?_⟩
  subst e1 e2 e3 e4
  refine PE.imp (pe_lamZ (k := rm) (t := fun E => tE (Kx.mk X.K Tt E xc) f1) (T := Tt) hg hm hk lk hcg hb Sg S.n0 S.va (got_gives h S m1 m2 m3 mf kf (F X.base) bf (hr.mono (by omega))) TB hcode hmT hu (hr.mono (by omega)) L (noPar_bind (body := body) (scope := scope) hnp X.env "" [] .none .none .none).1 (fun q cl pm cv ctv => (noPar_bind hnp X.env q cl pm cv ctv).2)
    (fun A outer s H E f2 c' hr2 => hbody A outer s H E f2 c' hr2) (okName_of hdb).1 S.oa) fun σ H Q q => got_law m q
end Z

/-! Z19: the module's facts; a law's end -/
namespace Z
open PySem PySem.Spec PyProof.Rows L2
/-- the facts that are asked of the head: built-ins are free, defs and constants stand -/
def gloFa : Str × D → He.Fa
  | (x, .int i) => .int x i
  | (x, .str z) => .str x z
  | (x, _) => .free x
/-- the law's own try: its def, the def that tells a field, the place of the caught error's name -/
structure GotD where
  got : Ent
  fld : Ent
  i : Nat
def GotD.a (g : GotD) : Str := g.got.N.headD ""
def GotD.one (g : GotD) : Str := g.fld.N.headD ""
def GotD.nm (g : GotD) : Str × Str × Str × Str × Str := (gtB g.a (defBody g.got.st)).getD ("", "", "", "", "")
def GotD.rows (g : GotD) : List FR := (flB g.one (defBody g.fld.st)).getD []
def gotOk (g : GotD) : Bool :=
  C8.scC g.got.N [g.a] (defScope g.got.st) && decide (g.got.N[0]? = some g.a) && visOf (defScope g.got.st) g.a && okName g.a && decide (g.got.N[g.i]? = some g.nm.2.2.2.1) && decide ((defScope g.got.st).names.lookup g.nm.2.2.2.1 = some .local) && okName g.nm.2.2.2.1 &&
  ([g.nm.1, g.nm.2.1, g.nm.2.2.1, g.fld.x].all fun y => gloOf (defScope g.got.st) y && okName y) && decide (gtB g.a (defBody g.got.st) = some g.nm) && decide (g.nm.2.2.2.2 = g.fld.x) && decide (g.got.ps = [g.a]) && decide (g.fld.ps = [g.one]) && okName g.got.x &&
  C8.scC g.fld.N [g.one] (defScope g.fld.st) && decide (g.fld.N[0]? = some g.one) && visOf (defScope g.fld.st) g.one && okName g.one && (flB g.one (defBody g.fld.st)).isSome
def GotD.cls (g : GotD) : List Str := [g.nm.1, g.nm.2.1, g.nm.2.2.1]
def faOf (ents : List Ent) (globs : List (Str × D)) (gd : List GotD) : List He.Fa := bltNames.map He.Fa.free ++ (ents.map (fun e => He.Fa.glo e.x) ++ (globs.map gloFa ++ gd.flatMap fun g => (g.got.x :: g.fld.x :: g.cls).map He.Fa.glo))
def dfOf (ents : List Ent) (gd : List GotD) : List He.DefD := ents.map Ent.dd ++ gd.flatMap fun g => [g.got.dd, g.fld.dd]
/-- a class of errors: made as ErC says, caught, its field told -/
def exB (file : Str) (gd : List GotD) (K : PySem.W.Frag) (p : Str × Option Str) : Bool := erB K file p.1 p.2 && !(p.1 == "__debug__") && xfB K (He.ga K p.1) && decide (p.1.length ≤ sizeLine) && PyData.strOk p.1 && gd.all fun g => decide (fieldOf g.rows p.1 = p.2) && decide (PySem.W.exmAny K (.ref (He.ga K p.1)) (g.cls.map fun y => .ref (He.ga K y)) = some true)
/-- the defs that hold lambdas, their tables apart -/
def tfOf (ents : List Ent) : List He.Defn := (ents.filter Ent.lm).map fun e => (e.x, none)
def apart (tf : List He.Defn) (K : PySem.W.Frag) : Bool := tf.all fun p => tf.all fun q => !((He.cT K p).2 == (He.cT K q).2) || decide (p = q)
def exOf (file : Str) (ents : List Ent) (gd : List GotD) (exs : List (Str × Option Str)) (K : PySem.W.Frag) : Bool := exs.all (exB file gd K) && apart (tfOf ents) K
def xcOf (exs : List (Str × Option Str)) (K : PySem.W.Frag) (x : Str) : Option (Addr × Option Str) := (exs.lookup x).map fun fo => (He.ga K x, fo)
def TtOf (ents : List Ent) (K : PySem.W.Frag) : List (Addr × Str) := (tfOf ents).map fun p => ((He.cT K p).2, p.1 ++ ".<locals>." ++ "<lambda>")
def globOk : Str × D → Bool
  | (_, .int _) => true
  | (_, .str z) => decide (z.length ≤ sizeLine) && PyData.strOk z
  | _ => false
abbrev Kws := List (Nat × Nat × List Str × List Nat)
def lmsOf (ents : List Ent) : List Nat := (List.range ents.length).filter fun i => ((ents[i]?).map Ent.lm).getD false
def cfOf (ents : List Ent) (globs : List (Str × D)) (kws : Kws) (gd : List GotD) (exs : List (Str × Option Str)) : Cfg := ⟨ents.mapIdx fun i e => (e.x, i), globs.mapIdx fun i p => (p.1, i), kws, gd.map fun g => (g.got.x, false), exs, lmsOf ents, false⟩
def glOf (globs : List (Str × D)) (g : Nat) : Option D := (globs[g]?).map (·.2)
theorem lookup_idx {α : Type} (f : α → Str) : ∀ (l : List α) (n : Nat) (x : Str) (i : Nat), (l.mapIdx fun i a => (f a, n + i)).lookup x = some i → ∃ a, n ≤ i ∧ l[i - n]? = some a ∧ f a = x
  | [], n, x, i, h => by cases h
  | a :: l, n, x, i, h => by
    rw [List.mapIdx_cons, List.lookup_cons] at h
    by_cases hx : (x == f a) = true
    · have hx' : (x == (f a, n + 0).1) = true := hx
      rw [hx'] at h
      have h := Option.some.inj h
      refine ⟨a, by show n ≤ i; have : n + 0 = i := h; omega, ?_, (eq_of_beq hx).symm⟩
      have : i - n = 0 := by have : n + 0 = i := h; omega
      rw [this]
      rfl
    · rw [Bool.not_eq_true] at hx
      have hx' : (x == (f a, n + 0).1) = false := hx
      rw [hx'] at h
      have e : (l.mapIdx fun i a => (f a, n + (i + 1))) = l.mapIdx fun i a => (f a, (n + 1) + i) := by
        congr 1
        funext i a
        congr 1
        omega
      have h : List.lookup x (l.mapIdx fun i a => (f a, n + (i + 1))) = some i := h
      rw [e] at h
      obtain ⟨b, h1, h2, h3⟩ := lookup_idx f l (n + 1) x i h
      refine ⟨b, by omega, ?_, h3⟩
      have : i - n = (i - (n + 1)) + 1 := by omega
      rw [this]
      exact h2
def BindP (e : Ent) : Prop := ∀ (kV doc pm : Value) (an : Option Addr) (cdv ct : Value) (us : List Value), us.length = e.ps.length → bindArgs (PySem.W.fnOf e.x e.x (defArgs e.st) (defBody e.st) (defScope e.st) .none kV doc pm an cdv ct) ⟨us, []⟩ = pure (e.ps.zip us)
def BindK (e : Ent) (n : Nat) (ks : List Str) (perm : List Nat) : Prop := 0 < e.ps.length ∧ ∀ (kV doc pm : Value) (an : Option Addr) (cdv ct : Value) (us ws : List Value), us.length = n → ws.length = ks.length →
  bindArgs (PySem.W.fnOf e.x e.x (defArgs e.st) (defBody e.st) (defScope e.st) .none kV doc pm an cdv ct) ⟨us, ks.zip ws⟩ = pure (e.ps.zip (us ++ perm.filterMap fun i => ws[i]?))
theorem vals_pick : ∀ {zs : List V} {ws : List Value} (perm : List Nat), Vals zs ws → Vals (perm.filterMap fun i => zs[i]?) (perm.filterMap fun i => ws[i]?)
  | _, _, [], _ => .nil
  | zs, ws, i :: perm, r => by
    have ih := vals_pick perm r
    rw [List.filterMap_cons, List.filterMap_cons]
    have hl := r.length
    cases hz : zs[i]? with
    | none =>
      have : ws[i]? = none := by
        rw [List.getElem?_eq_none_iff] at hz ⊢
        omega
      rw [this]
      exact ih
    | some v =>
      obtain ⟨u, h1, h2⟩ := r.get hz
      rw [h1]
      exact .cons h2 ih
theorem kbinds_of {K : PySem.W.Frag} {e : Ent} {fa : Addr} {fd : FuncData} (F : FunD K e.x e.x (defArgs e.st) (defBody e.st) (defScope e.st) [] [] fa fd) {n : Nat} {ks : List Str} {perm : List Nat} (h : BindK e n ks perm) : KBinds K fd e.ps ks (plc n ks.length perm) (plc n ks.length perm) := by
  obtain ⟨oc, od, dV, kV, doc, pm, an, cdv, ct, osl, rfl, lk, hcd, hD, hK⟩ := F.ex
  refine ⟨fun s us ws _ hl => ?_, fun {vs us zs ws} r1 r2 => ?_⟩
  · by_cases hc : us.length = n ∧ ws.length = ks.length
    · unfold plc
      rw [if_pos hc]
      rcases hD with ⟨_, rfl⟩ | ⟨e1, _⟩
      · exact .of_eq (h.2 kV doc pm an cdv ct us ws hc.1 hc.2)
      · exact absurd rfl e1
    · exfalso
      unfold plc at hl
      rw [if_neg hc] at hl
      have := h.1
      rw [← hl] at this
      exact Nat.lt_irrefl _ this
  · unfold plc
    rw [r1.length, r2.length]
    split
    · exact r1.append (vals_pick perm r2)
    · exact .nil
/-! ### the hook -/
def frZ (n : Nat) (g : Addr → Option Obj) : PySem.W.Frag := He.frT g (He.asD g n ++ [cStatics])
abbrev AlZ : Type := He.AlD × Bool
def obsZ (n : Nat) (fa : List He.Fa) (fn : List He.DefD) (tf : List He.Defn) (ex : PySem.W.Frag → Bool) (g : Addr → Option Obj) : AlZ := (He.obsD fa fn (frZ n g), ex (frZ n g) && He.tabsB g tf (frZ n g))
structure SaysZ (fa : List He.Fa) (fn : List He.DefD) (tf : List He.Defn) (ex : PySem.W.Frag → Bool) (h : Heap) (K : PySem.W.Frag) : Prop where
  t : He.SaysD fa fn K
  more : ex K = true
  hd : ∀ p ∈ tf, PySem.W.codeHdIn K (He.cT K p).1 (He.cT K p).2 = true
  out : ∀ p ∈ tf, K.lookup (He.cT K p).2 = none
  empty : ∀ p ∈ tf, h.get? (He.cT K p).2 = some { cls := .none, data := .fields #[] }
theorem saysZ_of {n : Nat} {fa : List He.Fa} {fn : List He.DefD} {tf : List He.Defn} {ex : PySem.W.Frag → Bool} {h : Heap} (e : obsZ n fa fn tf ex h.get? = (He.valD fn, true)) : SaysZ fa fn tf ex h (frZ n h.get?) := by
  have e1 : He.obsD fa fn (frZ n h.get?) = He.valD fn := congrArg (fun z : AlZ => z.1) e
  have e2 : (ex (frZ n h.get?) && He.tabsB h.get? tf (frZ n h.get?)) = true := congrArg (fun z : AlZ => z.2) e
  rw [Bool.and_eq_true] at e2
  have key : ∀ p ∈ tf, PySem.W.codeHdIn (frZ n h.get?) (He.cT (frZ n h.get?) p).1 (He.cT (frZ n h.get?) p).2 = true ∧ ∃ o, h.get? (He.cT (frZ n h.get?) p).2 = some o ∧ He.emptyTab o = true := fun p hp => by
    have q := List.all_eq_true.mp e2.2 p hp
    rw [Bool.and_eq_true] at q
    refine ⟨q.1, ?_⟩
    cases z : h.get? (He.cT (frZ n h.get?) p).2 with
    | none => rw [z] at q; cases q.2
    | some o => rw [z] at q; exact ⟨o, rfl, q.2⟩
  exact ⟨e1, e2.1, fun p hp => (key p hp).1, fun p hp => (key p hp).2.elim fun o q => He.frT_none q.1 q.2, fun p hp => (key p hp).2.elim fun o q => by rw [q.1, He.emptyTab_eq q.2]⟩
def hookZ (n : Nat) (fa : List He.Fa) (fn : List He.DefD) (tf : List He.Defn) (ex : PySem.W.Frag → Bool) : PySem.W.Hook where
  α := AlZ
  obs := fun s => obsZ n fa fn tf ex s.heap.get?
  val := fun _ => (He.valD fn, true)
  says := fun _ h => ∃ K : PySem.W.Frag, K.In h ∧ SaysZ fa fn tf ex h K
  of := fun _ _ e => ⟨_, He.frT_in, saysZ_of e⟩
  keeps := fun _ _ _ ⟨K, hK, c⟩ k => ⟨K, PySem.W.Frag.In.keeps hK k, ⟨c.t, c.more, c.hd, c.out, fun p hp => k _ _ (c.empty p hp)⟩⟩
theorem obsZ_eq {n : Nat} {fa : List He.Fa} {fn : List He.DefD} {tf : List He.Defn} {ex : PySem.W.Frag → Bool} {g : Addr → Option Obj} {s : Shared} (h : ∀ a, g a = s.heap.get? a) : obsZ n fa fn tf ex g = (hookZ n fa fn tf ex).obs s := by
  have e : g = s.heap.get? := funext h
  rw [e] <;> rfl
/-! ### the facts -/
section
variable {P : Program} {w : World} {K : PySem.W.Frag} {h : Heap} {mg : Str → Option Value} {base : Heap} {ents : List Ent} {globs : List (Str × D)} {kws : Kws} {gd : List GotD} {exs : List (Str × Option Str)}
theorem xc_ok (hex : exOf P.main.file ents gd exs K = true) {x : Str} {C : Addr} {fo : Option Str} (h : xcOf exs K x = some (C, fo)) : C = He.ga K x ∧ exs.lookup x = some fo ∧ exB P.main.file gd K (x, fo) = true := by
  unfold xcOf at h
  obtain ⟨fo', h1, h2⟩ := Option.map_eq_some_iff.mp h
  cases h2
  unfold exOf at hex
  rw [Bool.and_eq_true] at hex
  exact ⟨rfl, h1, List.all_eq_true.mp hex.1 _ (PySem.mem_of_lookup h1)⟩
theorem er_ga {file x : Str} {fo : Option Str} {C fI cc cda : Addr} {fd : FuncData} {params : Arguments} {ps : List Str} {body : List Stmt} (e : ErC K file x fo C fI cc cda fd params ps body) : C = He.ga K x := by
  unfold He.ga
  rw [e.glob]
theorem exm_ok (hex : exOf P.main.file ents gd exs K = true) (htop : (P.main.scope.names.lookup ("super" : Str)).isSome = false) (KX : K.In h) (G : h.Ns mainGlobals mg) {x : Str} {fo : Option Str} (hx : exs.lookup x = some fo) {X : Cx} (e1 : X.prog = P) (e3 : X.K = K) (e4 : X.mg = mg) (hr : Room 10 X.A) : ExcM X (xcOf exs K) x fo := by
  subst e1 e3 e4
  have hxc : xcOf exs X.K x = some (He.ga X.K x, fo) := by unfold xcOf; rw [hx]; rfl
  obtain ⟨_, _, hb⟩ := xc_ok hex hxc
  unfold exB at hb
  simp only [Bool.and_eq_true, Bool.not_eq_true'] at hb
  obtain ⟨⟨⟨⟨⟨b1, b2⟩, b3⟩, b4⟩, b5⟩, b6⟩ := hb
  obtain ⟨C, fI, cc, cda, fd, params, ps, body, er⟩ := er_of b1
  have eC := er_ga er
  refine excM_of er (by rw [eC]; exact hxc) (by simp) htop (hr.mono (by omega)) (PySem.W.mg_of KX G er.glob) b2
theorem got_ok (hex : exOf P.main.file ents gd exs K = true) (KX : K.In h) (G : h.Ns mainGlobals mg) (c : He.SaysD (faOf ents globs gd) (dfOf ents gd) K) {g : GotD} (hg : g ∈ gd) (ho : gotOk g = true) (b1 : BindP g.got) (b2 : BindP g.fld) : GotM K mg P w (xcOf exs K) g.got.x false := by
  unfold gotOk at ho
  simp only [Bool.and_eq_true, decide_eq_true_eq] at ho
  obtain ⟨⟨⟨⟨⟨⟨⟨⟨⟨⟨⟨⟨⟨⟨⟨⟨⟨o1, o2⟩, o3⟩, o4⟩, o5⟩, o6⟩, o7⟩, o8⟩, o9⟩, o10⟩, o11⟩, o12⟩, o13⟩, o14⟩, o15⟩, o16⟩, o17⟩, o18⟩ := ho
  have glo : ∀ y, y ∈ g.got.x :: g.fld.x :: g.cls → mg y = some (.ref (He.ga K y)) := fun y hy => He.glo_ok KX G (c.facts (by
    unfold faOf
    exact List.mem_append_right _ (List.mem_append_right _ (List.mem_append_right _ (List.mem_flatMap.mpr ⟨g, hg, List.mem_map.mpr ⟨y, hy, rfl⟩⟩)))))
  have df : ∀ d, d ∈ [g.got.dd, g.fld.dd] → d ∈ dfOf ents gd := fun d hd => List.mem_append_right _ (List.mem_flatMap.mpr ⟨g, hg, hd⟩)
  obtain ⟨f1, F1⟩ := c.defs (df g.got.dd (by simp))
  obtain ⟨f2, F2⟩ := c.defs (df g.fld.dd (by simp))
  have S1 := C8.fnScope_by o1
  have S2 := C8.fnScope_by o14
  have B1 := FunD.bindsN F1 b1
  have B2 := FunD.bindsN F2 b2
  have k1 := F1.kp
  have k2 := F2.kp
  obtain ⟨oc, od, dV, kV, doc, pm, an, cdv, ct, osl, rfl, lk, hcd, _, _⟩ := F1.ex
  obtain ⟨oc2, od2, dV2, kV2, doc2, pm2, an2, cdv2, ct2, osl2, rfl, lk2, hcd2, _, _⟩ := F2.ex
  obtain ⟨rows, hrows⟩ := Option.isSome_iff_exists.mp o18
  have er : g.rows = rows := by unfold GotD.rows; rw [hrows]; rfl
  have gl : ∀ y ∈ [g.nm.1, g.nm.2.1, g.nm.2.2.1, g.fld.x], (defScope g.got.st).names.lookup y = some .globalImplicit ∧ okName y = true := fun y hy => by
    have q := List.all_eq_true.mp o8 y hy
    rw [Bool.and_eq_true] at q
    exact ⟨of_decide_eq_true q.1, q.2⟩
  have B1' : L2.Binds K (PySem.W.fnOf g.got.x g.got.x (defArgs g.got.st) (defBody g.got.st) (defScope g.got.st) dV kV doc pm an cdv ct) [g.a] [] := by
    rw [← o11]
    exact B1
  have B2' : L2.Binds K (PySem.W.fnOf g.fld.x g.fld.x (defArgs g.fld.st) (defBody g.fld.st) (defScope g.fld.st) dV2 kV2 doc2 pm2 an2 cdv2 ct2) [g.one] [] := by
    rw [← o12]
    exact B2
  have hgt : gtB g.a (defBody g.got.st) = some (g.nm.1, g.nm.2.1, g.nm.2.2.1, g.nm.2.2.2.1, g.fld.x) := by
    rw [o9, ← o10]
  refine gotM_of (glo _ (by simp)) k1 lk hcd B1' S1 hgt ⟨S1.nd, o2, vis_of o3, o4, o5, o6, o7, (gl _ (by simp)).1, (gl _ (by simp)).1, (gl _ (by simp)).1, (gl _ (by simp)).1, (gl _ (by simp)).2, (gl _ (by simp)).2, (gl _ (by simp)).2, (gl _ (by simp)).2⟩
    (glo _ (by simp [GotD.cls])) (glo _ (by simp [GotD.cls])) (glo _ (by simp [GotD.cls])) (glo _ (by simp)) k2 (fun base => fnQ_of lk2 hcd2 S2 o15 (vis_of o16) o17 hrows) B2' ⟨fun y C fo hy => ?_⟩ o13
  obtain ⟨rfl, h2, hb⟩ := xc_ok hex hy
  unfold exB at hb
  simp only [Bool.and_eq_true, Bool.not_eq_true', decide_eq_true_eq, List.all_eq_true] at hb
  obtain ⟨⟨⟨⟨⟨b1, b2⟩, b3⟩, b4⟩, b5⟩, b6⟩ := hb
  obtain ⟨C', fI, cc, cda, fd, params, ps, body, e⟩ := er_of b1
  have eC := er_ga e
  subst eC
  refine ⟨(b6 g hg).2, xfB_ok b3, e.tag, b4, b5, ?_, e.fld⟩
  rw [← er]
  exact (b6 g hg).1
theorem lms_ok {f : Nat} {e : Ent} (h : ents[f]? = some e) : (lmsOf ents).contains f = e.lm := by
  have hl : f < ents.length := (List.getElem?_eq_some_iff.mp h).1
  have hm : f ∈ lmsOf ents ↔ e.lm = true := by
    unfold lmsOf
    rw [List.mem_filter, h]
    simp [hl]
  cases he : e.lm with
  | true => exact List.contains_iff_mem.mpr (hm.mpr he)
  | false =>
    cases hc : (lmsOf ents).contains f with
    | false => rfl
    | true => rw [hm.mp (List.contains_iff_mem.mp hc)] at he; cases he
theorem modOk_of (KX : K.In h) (G : h.Ns mainGlobals mg) (c : SaysZ (faOf ents globs gd) (dfOf ents gd) (tfOf ents) (exOf P.main.file ents gd exs) h K) (htop : (P.main.scope.names.lookup ("super" : Str)).isSome = false)
    (hb : ∀ (i : Nat) (e : Ent), ents[i]? = some e → BindP e) (hkb : ∀ f n ks perm, (f, n, ks, perm) ∈ kws → ∀ e, ents[f]? = some e → BindK e n ks perm) (ho : ents.all (Ent.ok (cfOf ents globs kws gd exs)) = true) (hg : globs.all globOk = true) (hgd : gd.all gotOk = true)
    (hgb : ∀ g ∈ gd, BindP g.got ∧ BindP g.fld) (hTB : ∀ p ∈ (tfOf ents).map (He.cT K), LamX.TabB base mg p.1 p.2) : ModOk P w base K mg (TtOf ents K) (xcOf exs K) (cfOf ents globs kws gd exs) (glOf globs) ents where
  defs := fun f e he => by
    obtain ⟨fd, F⟩ := c.t.defs (d := e.dd) (List.mem_append_left _ (List.mem_map.mpr ⟨e, List.mem_of_getElem? he, rfl⟩))
    have hm : mg e.x = some (.ref (He.ga K e.x)) := He.glo_ok KX G (c.t.facts (by
      unfold faOf
      exact List.mem_append_right _ (List.mem_append_left _ (List.mem_map.mpr ⟨e, List.mem_of_getElem? he, rfl⟩))))
    exact ⟨He.ga K e.x, fd, rfl, F, hm, FunD.bindsN F (hb f e he), fun n ks perm hin => kbinds_of F (hkb f n ks perm hin e he), List.all_eq_true.mp ho e (List.mem_of_getElem? he)⟩
  fns := fun x f hx => by
    have h : (ents.mapIdx fun i e => (e.x, 0 + i)).lookup x = some f := by
      rw [show (fun (i : Nat) (e : Ent) => (e.x, 0 + i)) = fun i e => (e.x, i) from by funext i e; rw [Nat.zero_add]]
      exact hx
    obtain ⟨e, _, h2, h3⟩ := lookup_idx Ent.x ents 0 x f h
    exact ⟨e, by simpa using h2, h3⟩
  blt := fun x hx => He.free_ok KX G (c.t.facts (List.mem_append_left _ (List.mem_map.mpr ⟨x, hx, rfl⟩)))
  glo := fun x g hx => by
    have h : (globs.mapIdx fun i p => (p.1, 0 + i)).lookup x = some g := by
      rw [show (fun (i : Nat) (p : Str × D) => (p.1, 0 + i)) = fun i p => (p.1, i) from by funext i e; rw [Nat.zero_add]]
      exact hx
    obtain ⟨p, _, h2, h3⟩ := lookup_idx (·.1) globs 0 x g h
    have h2 : globs[g]? = some p := by simpa using h2
    have hok := List.all_eq_true.mp hg p (List.mem_of_getElem? h2)
    have hf : (gloFa p).ok K = true := c.t.facts (by
      unfold faOf
      exact List.mem_append_right _ (List.mem_append_right _ (List.mem_append_left _ (List.mem_map.mpr ⟨p, List.mem_of_getElem? h2, rfl⟩))))
    obtain ⟨y, d⟩ := p
    have h3 : y = x := h3
    subst h3
    have hgl : glOf globs g = some d := by unfold glOf; rw [h2]; rfl
    cases d with
    | int i =>
      obtain ⟨t, e⟩ := He.int_ok KX G hf
      exact ⟨_, .int i, .int i, e, ⟨t, rfl⟩, hgl, fun _ _ => .int i⟩
    | str z =>
      obtain ⟨t, e⟩ := He.str_ok KX G hf
      simp only [globOk, Bool.and_eq_true, decide_eq_true_eq] at hok
      exact ⟨_, .str z, .str z, e, ⟨t, rfl⟩, hgl, fun _ _ => .str hok.1 hok.2⟩
    | _ => cases hok
  lms := fun f e he => lms_ok he
  tab := fun e he hl => by
    have hm : (e.x, (none : Option Str)) ∈ tfOf ents := List.mem_map.mpr ⟨e, List.mem_filter.mpr ⟨he, hl⟩, rfl⟩
    refine ⟨hTB _ (List.mem_map.mpr ⟨_, hm, rfl⟩), List.mem_map.mpr ⟨_, hm, rfl⟩, fun p hp heq => ?_⟩
    obtain ⟨q, hq, rfl⟩ := List.mem_map.mp hp
    have ha : apart (tfOf ents) K = true := by
      have := c.more
      unfold exOf at this
      rw [Bool.and_eq_true] at this
      exact this.2
    have h2 := List.all_eq_true.mp (List.all_eq_true.mp ha q hq) _ hm
    simp only [Bool.or_eq_true, Bool.not_eq_true', decide_eq_true_eq] at h2
    rcases h2 with z | z
    · have heq : (He.cT K q).2 = (He.cT K (e.x, none)).2 := heq
      rw [heq] at z
      simp at z
    · rw [z]
  gots := fun x why hx => by
    obtain ⟨g, hg, he⟩ := List.mem_map.mp (PySem.mem_of_lookup hx)
    cases he
    exact got_ok c.more KX G c.t hg (List.all_eq_true.mp hgd g hg) (hgb g hg).1 (hgb g hg).2
  exm := fun x fo hx X e1 _ e3 e4 _ _ hr => exm_ok c.more htop KX G hx e1 e3 e4 hr
end
/-! ### a law's end -/
theorem wf_nil {K : Kx} {H : Hp} (hT : LamX.Tabs K.T H) : Wf K H [] [] [] := ⟨rfl, List.nodup_nil, fun n a o h => by simp at h, fun p m => by (cases m), hT⟩
theorem sqL_nil {K : PySem.W.Frag} {H : Hp} {a : Addr} {xs : List V} (h : SqL K H a xs) : SqL K (del H [] []) a xs := by
  rcases h with (r | ⟨o, r⟩) | r
  · exact .inl (.inl (del_at (by simp) rfl r))
  · exact .inl (.inr ⟨o, del_at (by simp) rfl r⟩)
  · exact .inr r
theorem ints_repA {K : Kx} {G : Hp} {ρ : List Addr} : ∀ ns : List Int, RepA K.K G ρ (ns.map V.int) (ns.map D.int)
  | [] => .nil
  | n :: ns => .cons (.int n) (ints_repA ns)
/-- the script is given -/
theorem law_sp {K : Kx} {H : Hp} {a : Addr} {ns : List Int} {sem : List D → M D} {Q : VK} {E : XK} (hT : LamX.Tabs K.T H) (hl : ns.length ≤ sizeLine) (hS : SqL K.K H a (ns.map V.int)) (hp : ∃ S, sem [.scr (ns.map D.int)] [] = .ok (.bl true) S) (hQ : ∀ H', Q (.bl true) H') : spD K 1 sem [.ref a] H Q E := by
  obtain ⟨S, hS'⟩ := hp
  refine ⟨rfl, [], [], [], [.scr (ns.map D.int)], wf_nil hT, .cons (.scr (sqL_nil hS) (ints_repA (K := K) ns) (by rw [List.length_map]; exact hl)) .nil, ?_⟩
  rw [hS']
  intro v H' ρ' _ r
  cases r
  exact hQ H'
/-- all that is asked at the end of a law -/
theorem law_at {l : PySem.W.OpenLaw} {w : World} {K : PySem.W.Frag} {h : Heap} {mg : Str → Option Value} {fa : Addr} {ents : List Ent} {globs : List (Str × D)} {kws : Kws} {gd : List GotD} {exs : List (Str × Option Str)} {k n ix : Nat} {e : Ent} {x : Str}
    (KX : K.In h) (G : h.Ns mainGlobals mg) (hm : mg e.x = some (.ref fa)) (c : SaysZ (faOf ents globs gd) (dfOf ents gd) (tfOf ents) (exOf l.prog.main.file ents gd exs) h K) (htop : (l.prog.main.scope.names.lookup ("super" : Str)).isSome = false)
    (hb : ∀ (i : Nat) (e : Ent), ents[i]? = some e → BindP e) (hkb : ∀ f n ks perm, (f, n, ks, perm) ∈ kws → ∀ e, ents[f]? = some e → BindK e n ks perm) (ho : ents.all (Ent.ok (cfOf ents globs kws gd exs)) = true) (hg : globs.all globOk = true) (hgd : gd.all gotOk = true)
    (hgb : ∀ g ∈ gd, BindP g.got ∧ BindP g.fld) (he : ents[ix]? = some e) (hps : e.ps = [x]) (hnp : e.np = 1) (hn : n ≤ sizeLine)
    (pure_ : ∀ ns : List Int, ns.length ≤ n → ∃ S, run (glOf globs) (ents.map Ent.fn) k ix [.scr (ns.map D.int)] [] = .ok (.bl true) S) : LamX.LawAtS l w K (L2.CX l.prog w) (lvl k e.lm) n x mg fa h := by
  have hcs : ∀ p ∈ (tfOf ents).map (He.cT K), ∃ q ∈ tfOf ents, He.cT K q = p := fun p hp => List.mem_map.mp hp
  obtain ⟨fd, F⟩ := c.t.defs (d := e.dd) (List.mem_append_left _ (List.mem_map.mpr ⟨e, List.mem_of_getElem? he, rfl⟩))
  have hga : fa = He.ga K e.x := by
    have h2 : mg e.x = some (.ref (He.ga K e.x)) := He.glo_ok KX G (c.t.facts (by
      unfold faOf
      exact List.mem_append_right _ (List.mem_append_left _ (List.mem_map.mpr ⟨e, List.mem_of_getElem? he, rfl⟩))))
    rw [hm] at h2
    cases h2
    rfl
  have B := FunD.bindsA F (hb ix e he)
  refine ⟨fd, (tfOf ents).map (He.cT K), spD (Kx.mk K (TtOf ents K) Z.nx (xcOf exs K)) e.np (run (glOf globs) (ents.map Ent.fn) k ix), fun p hp => ?_, fun p hp => ?_, fun p hp => ?_, fun s u => ?_, fun H a ns hl _ hH hS => ?_, fun base KB GB hTB => ?_⟩
  · obtain ⟨q, hq, rfl⟩ := hcs p hp
    exact c.empty q hq
  · obtain ⟨q, hq, rfl⟩ := hcs p hp
    exact c.out q hq
  · obtain ⟨q, hq, rfl⟩ := hcs p hp
    exact PySem.W.codeHd_of_K KX (c.hd q hq)
  · have b := B s [u] (by rw [hps]; rfl)
    rw [hps] at b
    exact b
  · rw [hnp]
    refine law_sp (fun p hp => ?_) (Nat.le_trans hl hn) hS (pure_ ns hl) fun _ => rfl
    obtain ⟨q, hq, rfl⟩ := List.mem_map.mp hp
    exact LamX.TabS.nil (hH _ (List.mem_map.mpr ⟨q, hq, rfl⟩))
  · have m : ModOk l.prog w base K mg (TtOf ents K) (xcOf exs K) (cfOf ents globs kws gd exs) (glOf globs) ents := modOk_of (h := h) KX G c htop hb hkb ho hg hgd hgb hTB
    obtain ⟨fa', fd', d⟩ := m.defs ix e he
    have q := all_ok m k ix e fa' fd' he d
    have e1 : fa' = fa := d.at_.trans hga.symm
    subst e1
    have e2 : fd' = fd := by
      obtain ⟨o1, d1, _, _, _, _, _, _, _, sl1, r1, l1, _⟩ := d.F.ex
      obtain ⟨o2, d2, _, _, _, _, _, _, _, sl2, r2, l2, _⟩ := F.ex
      rw [hga] at l1
      have z := Option.some.inj (l1.symm.trans l2)
      injection z with _ _ z _
      injection z
    subst e2
    rw [hps] at q
    exact q
end Z

/-! ZP: what a run of the small language gives -/
namespace Z
open PySem
def wpR {α : Type} (r : Res α) (Q : α → Store → Prop) : Prop := match r with
  | .ok a S => Q a S
  | _ => False
/-- m runs from S and ends in Q -/
def wp {α : Type} (m : M α) (S : Store) (Q : α → Store → Prop) : Prop := wpR (m S) Q
section
variable {α β : Type} {m : M α} {f : α → M β} {S S' : Store} {Q Q' : α → Store → Prop} {R : β → Store → Prop} {a : α}
theorem wp_ok (h : wp m S Q) : ∃ a S', m S = .ok a S' ∧ Q a S' := by
  unfold wp wpR at h
  split at h
  · exact ⟨_, _, by assumption, h⟩
  · exact h.elim
theorem wp_mono (h : wp m S Q) (i : ∀ a S', Q a S' → Q' a S') : wp m S Q' := by
  unfold wp wpR at h ⊢
  split at h
  · rename_i e; exact i _ _ h
  · exact h.elim
theorem wp_eq (h : m S = .ok a S') : wp m S Q = Q a S' := by
  unfold wp wpR
  rw [h]
theorem wp_ret : wp (M.ret a) S Q = Q a S := (rfl)
theorem wp_bind : wp (M.bind m f) S R = wp m S fun a S' => wp (f a) S' R := by
  unfold wp M.bind
  cases m S <;> rfl
theorem M.ret_bind' : M.bind (M.ret a) f = f a := (rfl)
theorem wp_stk : wp (M.stk : M α) S Q = False := (rfl)
theorem wp_ite {c : Prop} [Decidable c] {m n : M α} : wp (if c then m else n) S Q = if c then wp m S Q else wp n S Q := by split <;> rfl
theorem wp_fun {g : Store → Res α} : wp (fun S => g S) S Q = wpR (g S) Q := (rfl)
theorem wpR_ok : wpR (.ok a S) Q = Q a S := (rfl)
theorem wpR_stuck : wpR (.stuck : Res α) Q = False := (rfl)
theorem wpR_ite {c : Prop} [Decidable c] {m n : Res α} : wpR (if c then m else n) Q = if c then wpR m Q else wpR n Q := by split <;> rfl
end
section
variable {gl : Nat → Option D} {cal : Nat → List D → M D} {S : Store} {Q : D → Store → Prop} {QL : List D → Store → Prop} {QO : Out → Store → Prop}
theorem wp_const {d : D} {env : Env} : wp (evalE gl cal (.const d) env) S Q = Q d S := by simp only [evalE, wp_ret]
theorem wp_var {i : Nat} {env : Env} {d : D} (h : env[i]? = some (some d)) : wp (evalE gl cal (.var i) env) S Q = Q d S := by simp only [evalE, h, wp_ret]
theorem wp_varM {i : Nat} {env : Env} : wp (evalE gl cal (.var i) env) S Q = match env[i]? with
    | some (some d) => Q d S
    | _ => False := by
  simp only [evalE]
  cases h : env[i]? with
  | none => rfl
  | some o => cases o <;> rfl
theorem wp_globM {g : Nat} {env : Env} : wp (evalE gl cal (.glob g) env) S Q = match gl g with
    | some d => Q d S
    | none => False := by
  simp only [evalE]
  cases h : gl g <;> rfl
theorem wp_glob {g : Nat} {env : Env} {d : D} (h : gl g = some d) : wp (evalE gl cal (.glob g) env) S Q = Q d S := by simp only [evalE, h, wp_ret]
theorem wp_noX {α : Type} {m : M α} {Q : α → Store → Prop} : wp (M.noX m) S Q = wp m S Q := by
  unfold wp M.noX
  cases m S <;> rfl
theorem wp_argX {h : Hd} {m : M (List D)} : wp (argX h m) S QL = wp m S QL := by
  unfold argX
  split <;> first | exact wp_noX | rfl
theorem wpR_fitX {α : Type} {m : Bool} {r : Res α} {Q : α → Store → Prop} : wpR (fitX m r) Q = wpR r Q := by
  cases r with
  | exc x S =>
    unfold fitX
    simp only []
    split <;> rfl
  | _ => rfl
theorem wp_op {h : Hd} {es : List E} {env : Env} : wp (evalE gl cal (.op h es) env) S Q = wp (evalEs gl cal es env) S fun ds S => wp (opSem h ds) S Q := by simp only [evalE, wp_bind, wp_argX]
theorem wp_call {f : Nat} {es : List E} {env : Env} : wp (evalE gl cal (.call f es) env) S Q = wp (evalEs gl cal es env) S fun ds S => wp (cal f ds) S Q := by simp only [evalE, wp_bind]
theorem wp_nil {env : Env} : wp (evalEs gl cal [] env) S QL = QL [] S := by simp only [evalEs, wp_ret]
theorem wp_cons {e : E} {es : List E} {env : Env} : wp (evalEs gl cal (e :: es) env) S QL = wp (evalE gl cal e env) S fun d S => wp (evalEs gl cal es env) S fun ds S => QL (d :: ds) S := by simp only [evalEs, wp_bind, wp_ret]
theorem wp_truth {d : D} {QB : Bool → Store → Prop} : wp (truth d) S QB = match d with
    | .bl b => QB b S
    | _ => False := by cases d <;> rfl
theorem wp_truthB {b : Bool} {QB : Bool → Store → Prop} : wp (truth (.bl b)) S QB = QB b S := (rfl)
theorem wp_okB {b : Bool} : wp (okB b) S Q = Q (.bl b) S := (rfl)
theorem wp_not {a : E} {env : Env} : wp (evalE gl cal (.not a) env) S Q = wp (evalE gl cal a env) S fun d S => wp (truth d) S fun b S => Q (.bl (!b)) S := by simp only [evalE, wp_bind, wp_okB]
theorem wp_boolE {c : Bool} {es : List E} {env : Env} : wp (evalE gl cal (.bool c es) env) S Q = wp (evalBool gl cal c es env) S Q := by simp only [evalE]
theorem wp_bool1 {c : Bool} {e : E} {env : Env} : wp (evalBool gl cal c [e] env) S Q = wp (evalE gl cal e env) S fun d S => wp (truth d) S fun b S => Q (.bl b) S := by simp only [evalBool, wp_bind, wp_okB]
theorem wp_bool2 {c : Bool} {e e2 : E} {es : List E} {env : Env} : wp (evalBool gl cal c (e :: e2 :: es) env) S Q = wp (evalE gl cal e env) S fun d S => wp (truth d) S fun b S => if b = c then wp (evalBool gl cal c (e2 :: es) env) S Q else Q (.bl b) S := by
  simp only [evalBool, wp_bind, wp_ite, wp_okB]
theorem wp_chain {o1 o2 : CmpOp} {a b c : E} {env : Env} : wp (evalE gl cal (.chain o1 o2 a b c) env) S Q = wp (evalE gl cal a env) S fun x S => wp (evalE gl cal b env) S fun y S => wp (cmpSem o1 x y) S fun k S => wp (truth k) S fun k S => if k = true then wp (evalE gl cal c env) S fun z S => wp (cmpSem o2 y z) S Q else Q (.bl false) S := by
  simp only [evalE, wp_bind, wp_ite, wp_okB]
theorem wp_ife {t a b : E} {env : Env} : wp (evalE gl cal (.ife t a b) env) S Q = wp (evalE gl cal t env) S fun d S => wp (truth d) S fun c S => if c = true then wp (evalE gl cal a env) S Q else wp (evalE gl cal b env) S Q := by
  simp only [evalE, wp_bind, wp_ite]
theorem wp_alloc {es : List E} {env : Env} : wp (evalE gl cal (.alloc es) env) S Q = wp (evalEs gl cal es env) S fun ds S => if ds.length ≤ sizeLine ∧ D.clns ds = true then Q (.loc S.length) (S ++ [.lst ds]) else False := by
  simp only [evalE, wp_bind]
  congr 1
  funext ds S
  show wpR (if ds.length ≤ sizeLine ∧ D.clns ds = true then Res.ok (D.loc S.length) (S ++ [.lst ds]) else .stuck) Q = _
  rw [wpR_ite]
  rfl
/-- statements -/
theorem wp_read {m : Bool} {e : E} {fr : Fr} : wp (readE gl cal m e fr) S Q = wp (evalE gl cal e (fr.env m)) S fun d S => wp (fitM m d) S Q := by
  unfold readE
  rw [wp_fun, wpR_fitX]
  exact wp_bind
theorem wp_fitF {d : D} : wp (fitM false d) S Q = Q d S := by simp [fitM, wp_ret]
theorem wp_fitT {d : D} (h : d.cln = true) : wp (fitM true d) S Q = Q d S := by simp [fitM, wp_ret, h]
theorem wp_x0 {fr : Fr} : wp (execs gl cal [] fr) S QO = QO (.nx fr) S := by simp only [execs, wp_ret]
theorem wp_xret {m : Bool} {e : E} {cs : List Cmd} {fr : Fr} : wp (execs gl cal (.ret m e :: cs) fr) S QO = wp (readE gl cal m e fr) S fun d S => QO (.ret d) S := by
  simp only [execs, exec, wp_bind, wp_ret]
theorem wp_xasg {m : Bool} {tg : Tg} {e : E} {cs : List Cmd} {fr : Fr} : wp (execs gl cal (.asg m tg e :: cs) fr) S QO = wp (readE gl cal m e fr) S fun d S => match storeT tg d fr with
    | some fr' => wp (execs gl cal cs fr') S QO
    | none => False := by
  simp only [execs, exec, wp_bind]
  congr 1
  funext d S
  cases storeT tg d fr <;> simp only [wp_ret, wp_stk]
theorem wp_xasgN {m : Bool} {i : Nat} {e : E} {cs : List Cmd} {fr : Fr} : wp (execs gl cal (.asg m (.name i) e :: cs) fr) S QO = wp (readE gl cal m e fr) S fun d S => wp (execs gl cal cs (fr.set i (.val d))) S QO := by
  rw [wp_xasg]
  congr 1
theorem wp_xpar {m : Bool} {is : List Nat} {es : List E} {cs : List Cmd} {fr : Fr} : wp (execs gl cal (.par m is es :: cs) fr) S QO = wp (readEs gl cal m es fr) S fun ds S => if ds.length = is.length then wp (execs gl cal cs (setAll fr (is.zip (ds.map Slot.val)))) S QO else False := by
  simp only [execs, exec, wp_bind]
  congr 1
  funext d S
  split <;> simp only [wp_ret, wp_stk]
theorem wp_readsF {es : List E} {fr : Fr} : wp (readEs gl cal false es fr) S QL = wp (evalEs gl cal es (fr.env false)) S QL := by
  unfold readEs
  rw [wp_fun, wpR_fitX]
  refine Eq.trans wp_bind ?_
  congr 1
theorem wp_xif {m : Bool} {t : E} {a b cs : List Cmd} {fr : Fr} : wp (execs gl cal (.ifs m t a b :: cs) fr) S QO = wp (readE gl cal m t fr) S fun d S => wp (truth d) S fun c S => if c = true then wp (execs gl cal a fr) S fun o S => (match o with
      | .nx fr' => wp (execs gl cal cs fr') S QO
      | o => QO o S) else wp (execs gl cal b fr) S fun o S => (match o with
      | .nx fr' => wp (execs gl cal cs fr') S QO
      | o => QO o S) := by
  simp only [execs, exec, wp_bind, wp_ite]
  congr 1
  funext d S
  congr 1
  funext c S
  split
  all_goals
    congr 1
    funext o S
    cases o <;> simp only [wp_ret]
theorem wp_xif0 {m : Bool} {t : E} {a cs : List Cmd} {fr : Fr} : wp (execs gl cal (.ifs m t a [] :: cs) fr) S QO = wp (readE gl cal m t fr) S fun d S => wp (truth d) S fun c S => if c = true then wp (execs gl cal a fr) S fun o S => (match o with
      | .nx fr' => wp (execs gl cal cs fr') S QO
      | o => QO o S) else wp (execs gl cal cs fr) S QO := by
  rw [wp_xif]
  simp only [wp_x0]
theorem wp_xown {i : Nat} {es : List E} {cs : List Cmd} {fr : Fr} : wp (execs gl cal (.own i es :: cs) fr) S QO = wp (readEs gl cal true es fr) S fun ds S => if ds.length ≤ sizeLine then wp (execs gl cal cs (fr.set i (.own ds))) S QO else False := by
  simp only [execs, exec, wp_bind]
  congr 1
  funext ds S
  split <;> simp only [wp_ret, wp_stk]
theorem wp_xapp {m : Bool} {i : Nat} {e : E} {cs : List Cmd} {fr : Fr} {xs : List D} (h : fr[i]? = some (.own xs)) : wp (execs gl cal (.app m i e :: cs) fr) S QO = wp (readE gl cal m e fr) S fun d S => if xs.length < sizeLine then wp (execs gl cal cs (fr.set i (.own (xs ++ [d])))) S QO else False := by
  simp only [execs, exec, wp_bind, h]
  congr 1
  funext ds S
  split <;> simp only [wp_ret, wp_stk]
theorem wp_xfrz {i : Nat} {cs : List Cmd} {fr : Fr} {xs : List D} (h : fr[i]? = some (.own xs)) : wp (execs gl cal (.frz i :: cs) fr) S QO = wp (execs gl cal cs (fr.set i (.val (.lst xs)))) S QO := by
  simp only [execs, exec, wp_bind, h, wp_ret]
theorem wp_xexpr {m : Bool} {e : E} {cs : List Cmd} {fr : Fr} : wp (execs gl cal (.expr m e :: cs) fr) S QO = wp (readE gl cal m e fr) S fun _ S => wp (execs gl cal cs fr) S QO := by
  simp only [execs, exec, wp_bind, wp_ret]
theorem wp_xpass {cs : List Cmd} {fr : Fr} : wp (execs gl cal (.pass :: cs) fr) S QO = wp (execs gl cal cs fr) S QO := by simp only [execs, exec, wp_bind, wp_ret]
/-- o[i] = v, o a thing of the store -/
def setStep (a j d : D) (S : Store) (k : Store → Prop) : Prop := match a, j with
    | .loc n, .int j => (match S[n]? with
      | some (.lst xs) => (match L2.ixN xs.length j with
        | some q => k (S.set n (.lst (xs.set q d)))
        | none => False)
      | _ => False)
    | _, _ => False
theorem wp_xset {o i v : E} {cs : List Cmd} {fr : Fr} : wp (execs gl cal (.setIx o i v :: cs) fr) S QO = wp (readE gl cal true v fr) S fun d S => wp (readE gl cal true o fr) S fun a S => wp (readE gl cal true i fr) S fun j S => setStep a j d S fun S => wp (execs gl cal cs fr) S QO := by
  simp only [execs, exec, wp_bind]
  congr 1
  funext d S
  congr 1
  funext a S
  congr 1
  funext j S
  unfold wp setStep
  cases a <;> first | rfl | skip
  cases j <;> first | rfl | skip
  simp only []
  rename_i n j
  cases hS : S[n]? with
  | none => rfl
  | some o =>
    cases o with
    | lst xs =>
      simp only []
      cases L2.ixN xs.length j <;> rfl
/-- for -/
theorem wp_xfor {tg : Tg} {k : SK} {es : List E} {body cs : List Cmd} {fr : Fr} : wp (execs gl cal (.for_ tg k es body :: cs) fr) S QO = wp (evalEs gl cal es (fr.env false)) S fun ds S => wp (srcItems k ds) S fun items S => wp (forLoop (fun x fr => match storeT tg x fr with
    | some fr' => execs gl cal body fr'
    | none => M.stk) items fr) S fun o S => (match o with
      | .nx fr' => wp (execs gl cal cs fr') S QO
      | o => QO o S) := by
  simp only [execs, exec, wp_bind]
  congr 1
  funext d S
  congr 1
  funext a S
  congr 1
  funext o S
  cases o <;> simp only [wp_ret]
/-- a loop by an invariant -/
theorem wp_loop {f : D → Fr → M Out} (I : Nat → Fr → Store → Prop) {QO : Out → Store → Prop} : ∀ (items : List D) (n : Nat) (fr : Fr) (S : Store), I n fr S →
    (∀ j x fr S, items[j]? = some x → I (n + j) fr S → wp (f x fr) S fun o S => match o with
      | .nx fr' => I (n + j + 1) fr' S
      | .ct fr' => I (n + j + 1) fr' S
      | .bk fr' => QO (.nx fr') S
      | .ret d => QO (.ret d) S) → (∀ fr S, I (n + items.length) fr S → QO (.nx fr) S) → wp (forLoop f items fr) S QO
  | [], n, fr, S, h, _, he => by
    simp only [forLoop, wp_ret]
    exact he fr S h
  | x :: xs, n, fr, S, h, hs, he => by
    simp only [forLoop, wp_bind]
    have next : ∀ fr' S', I (n + 1) fr' S' → wp (forLoop f xs fr') S' QO := fun fr' S' h' => by
      refine wp_loop I xs (n + 1) fr' S' h' (fun j y fr S hy hI => ?_) fun fr S hI => he fr S ?_
      · have := hs (j + 1) y fr S (by simpa using hy) (by rw [show n + (j + 1) = n + 1 + j by omega]; exact hI)
        rw [show n + (j + 1) + 1 = n + 1 + j + 1 by omega] at this
        exact this
      · rw [List.length_cons, show n + (xs.length + 1) = n + 1 + xs.length by omega]
        exact hI
    refine wp_mono (hs 0 x fr S rfl h) fun o S' q => ?_
    cases o with
    | nx fr' => exact next fr' S' q
    | ct fr' => exact next fr' S' q
    | bk fr' => exact q
    | ret d => exact q
/-- a comprehension whose turns leave the store alone -/
theorem wp_comp_map {f : D → M (Option D)} {g : D → Option D} : ∀ {items : List D} {QL : List D → Store → Prop}, (∀ x ∈ items, f x S = .ok (g x) S) → wp (compLoop f items) S QL = QL (items.filterMap g) S
  | [], QL, _ => by simp only [compLoop, wp_ret, List.filterMap_nil]
  | x :: xs, QL, h => by
    simp only [compLoop, wp_bind]
    rw [wp_noX, wp_eq (h x List.mem_cons_self), wp_comp_map fun y m => h y (List.mem_cons_of_mem _ m)]
    simp only [wp_ret, List.filterMap_cons]
    cases g x <;> rfl
/-- .. by a relation -/
theorem wp_comp_all {f : D → M (Option D)} (I : Store → Prop) (P : D → D → Prop) : ∀ {items : List D} {S : Store} {QL : List D → Store → Prop}, I S → (∀ x ∈ items, ∀ S, I S → wp (f x) S fun o S' => I S' ∧ ∃ y, o = some y ∧ P x y) →
    (∀ ys S', I S' → ys.length = items.length → (∀ (i : Nat) x y, items[i]? = some x → ys[i]? = some y → P x y) → QL ys S') → wp (compLoop f items) S QL
  | [], S, QL, hI, _, he => by
    simp only [compLoop, wp_ret]
    exact he [] S hI rfl fun i x y h => by simp at h
  | x :: xs, S, QL, hI, hs, he => by
    simp only [compLoop, wp_bind]
    rw [wp_noX]
    refine wp_mono (hs x List.mem_cons_self S hI) fun o S1 ⟨hI1, y, ho, hp⟩ => ?_
    subst ho
    refine wp_comp_all I P hI1 (fun z m => hs z (List.mem_cons_of_mem _ m)) fun ys S2 hI2 hl hys => ?_
    simp only [wp_ret]
    refine he (y :: ys) S2 hI2 (by rw [List.length_cons, List.length_cons, hl]) fun i u v hu hv => ?_
    cases i with
    | zero => cases hu; cases hv; exact hp
    | succ i => exact hys i u v (by simpa using hu) (by simpa using hv)
/-- a turn of a comprehension -/
def compT (gl : Nat → Option D) (cal : Nat → List D → M D) (own : List Nat) (elt : E) (tg : Tg) (ifs : List E) (env : Env) (x : D) : M (Option D) := match bindT tg x (wipe env own) with
    | some env' => M.bind (evalIfs gl cal ifs env') fun c => if c = true then M.bind (evalE gl cal elt env') fun y => M.ret (some y) else M.ret none
    | none => M.stk
theorem wp_compT0 {own : List Nat} {elt : E} {tg : Tg} {env : Env} {x : D} {QP : Option D → Store → Prop} : wp (compT gl cal own elt tg [] env x) S QP = match bindT tg x (wipe env own) with
    | some env' => wp (evalE gl cal elt env') S fun y S => QP (some y) S
    | none => False := by
  unfold compT
  cases bindT tg x (wipe env own) with
  | none => rfl
  | some env' =>
    simp only [evalIfs, M.ret_bind']
    rw [if_pos trivial, wp_bind]
    rfl
theorem wp_compT1 {own : List Nat} {elt c : E} {tg : Tg} {env : Env} {x : D} {QP : Option D → Store → Prop} : wp (compT gl cal own elt tg [c] env x) S QP = match bindT tg x (wipe env own) with
    | some env' => wp (evalE gl cal c env') S fun d S => wp (truth d) S fun b S => if b = true then wp (evalE gl cal elt env') S fun y S => QP (some y) S else QP none S
    | none => False := by
  unfold compT
  cases bindT tg x (wipe env own) with
  | none => rfl
  | some env' =>
    simp only [evalIfs, wp_bind, wp_ite, wp_ret, if_true, Bool.false_eq_true, if_false]
theorem wp_comp_sub {f : D → M (Option D)} (I : Store → Prop) (P : D → Prop) : ∀ {items : List D} {S : Store} {QL : List D → Store → Prop}, I S → (∀ x ∈ items, ∀ S, I S → wp (f x) S fun o S' => I S' ∧ ∀ y, o = some y → P y) →
    (∀ ys S', I S' → ys.length ≤ items.length → (∀ y ∈ ys, P y) → QL ys S') → wp (compLoop f items) S QL
  | [], S, QL, hI, _, he => by
    simp only [compLoop, wp_ret]
    exact he [] S hI (Nat.le_refl _) fun y m => by cases m
  | x :: xs, S, QL, hI, hs, he => by
    simp only [compLoop, wp_bind]
    rw [wp_noX]
    refine wp_mono (hs x List.mem_cons_self S hI) fun o S1 ⟨hI1, hp⟩ => ?_
    refine wp_comp_sub I P hI1 (fun z m => hs z (List.mem_cons_of_mem _ m)) fun ys S2 hI2 hl hys => ?_
    simp only [wp_ret]
    cases o with
    | none => exact he ys S2 hI2 (by rw [List.length_cons]; omega) hys
    | some y =>
      refine he (y :: ys) S2 hI2 (by rw [List.length_cons, List.length_cons]; omega) fun z m => ?_
      rcases List.mem_cons.mp m with rfl | m
      · exact hp _ rfl
      · exact hys z m
theorem wp_compE {own : List Nat} {elt : E} {tg : Tg} {k : SK} {es ifs : List E} {env : Env} : wp (evalE gl cal (.comp own elt tg k es ifs) env) S Q = wp (evalEs gl cal es env) S fun ds S => wp (srcItems k ds) S fun items S => wp (compLoop (compT gl cal own elt tg ifs env) items) S fun ys S => Q (.lst ys) S := by
  simp only [evalE, wp_bind, wp_ret]
  rfl
end
/-- a call of a def by its body -/
theorem wp_run {gl : Nat → Option D} {prog : List Fn} {k f : Nat} {fn : Fn} {ds : List D} {S : Store} {Q : D → Store → Prop} (h : prog[f]? = some fn) (hl : ds.length = fn.np) : wp (run gl prog (k + 1) f ds) S Q = wp (execs gl (run gl prog k) fn.body (startF fn.ns ds)) S fun o S => (match o with
    | .ret d => Q d S
    | .nx _ => Q .non S
    | _ => False) := by
  conv => lhs; unfold run
  rw [h]
  show wp (if ds.length = fn.np then _ else M.stk) S Q = _
  rw [if_pos hl, wp_bind]
  congr 1
  funext o S
  cases o <;> rfl
end Z

/-! ZP2: operations, by what they give -/
namespace Z
open PySem
section
variable {S : Store} {Q : D → Store → Prop} {QL : List D → Store → Prop}
def isD (t : BT) (v : D) : Bool := isT [] t v
theorem okT_dat {v : D} (h : v.dat = true) : okT S v = true := by cases v <;> first | rfl | cases h
theorem isT_dat {v : D} {t : BT} (h : v.dat = true) : isT S t v = isD t v := by cases v <;> cases t <;> first | rfl | cases h
theorem wp_isi {v : D} {t : BT} (h : v.dat = true) : wp (opSem (.isi t) [v]) S Q = Q (.bl (isD t v)) S := by
  show wpR (if okT S v = true then Res.ok (D.bl (isT S t v)) S else .stuck) Q = _
  rw [if_pos (okT_dat h), isT_dat h]
  rfl
theorem wp_isis {v : D} {ts : List BT} (h : v.dat = true) : wp (opSem (.isis ts) [v]) S Q = Q (.bl (ts.any fun t => isD t v)) S := by
  show wpR (if okT S v = true then Res.ok (D.bl (ts.any fun t => isT S t v)) S else .stuck) Q = _
  have e : (fun t => isT S t v) = fun t => isD t v := funext fun t => isT_dat h
  rw [if_pos (okT_dat h), e]
  rfl
def eqD (a b : D) : Bool := PyData.eqv a.py b.py
def okD (a b : D) : Bool := a.dat && b.dat && decide (min a.dep b.dep ≤ many)
theorem wp_eq_ {a b : D} (h : okD a b = true) : wp (cmpSem .Eq a b) S Q = Q (.bl (eqD a b)) S := by
  have e : cmpSem .Eq a b = toB (dEq a b) := by simp only [cmpSem]
  have e2 : dEq a b = some (PyData.eqv a.py b.py) := if_pos h
  rw [e, e2]
  rfl
theorem wp_ne_ {a b : D} (h : okD a b = true) : wp (cmpSem .NotEq a b) S Q = Q (.bl (!eqD a b)) S := by
  have e : cmpSem .NotEq a b = toB ((dEq a b).map (!·)) := by simp only [cmpSem]
  have e2 : dEq a b = some (PyData.eqv a.py b.py) := if_pos h
  rw [e, e2]
  rfl
theorem okD_int {a : D} {i : Int} (h : a.dat = true) : okD a (.int i) = true := by
  unfold okD
  rw [h]
  simp [D.dat, D.dep]
theorem eqD_int {i j : Int} : eqD (.int i) (.int j) = decide (i = j) := by
  show PyData.eqv (.int i) (.int j) = _
  simp only [PyData.eqv]
  rw [Bool.beq_eq_decide_eq]
theorem wp_eqI {i j : Int} : wp (cmpSem .Eq (.int i) (.int j)) S Q = Q (.bl (decide (i = j))) S := by rw [wp_eq_ rfl, eqD_int]
theorem wp_neI {i j : Int} : wp (cmpSem .NotEq (.int i) (.int j)) S Q = Q (.bl (!decide (i = j))) S := by rw [wp_ne_ rfl, eqD_int]
theorem wp_ltI {i j : Int} : wp (cmpSem .Lt (.int i) (.int j)) S Q = Q (.bl (decide (i < j))) S := (rfl)
theorem wp_leI {i j : Int} : wp (cmpSem .LtE (.int i) (.int j)) S Q = Q (.bl (decide (i ≤ j))) S := (rfl)
theorem wp_gtI {i j : Int} : wp (cmpSem .Gt (.int i) (.int j)) S Q = Q (.bl (decide (j < i))) S := (rfl)
theorem wp_geI {i j : Int} : wp (cmpSem .GtE (.int i) (.int j)) S Q = Q (.bl (decide (j ≤ i))) S := (rfl)
theorem wp_isB {a b : Bool} : wp (cmpSem .Is (.bl a) (.bl b)) S Q = Q (.bl (decide (a = b))) S := (rfl)
theorem wp_isN {a : D} : wp (cmpSem .Is a .non) S Q = Q (.bl (match a with
    | .non => true
    | _ => false)) S := by cases a <;> rfl
def ltD (a b : D) : Bool := PySem.W.dataLt a.py b.py
theorem leD_eq (a b : D) : leD a b = !ltD b a := (rfl)
def okC (a b : D) : Bool := a.dat && b.dat && alk a b && decide (min a.dep b.dep ≤ many)
def notI : D → Bool
  | .int _ => false
  | _ => true
theorem wp_lt_ {a b : D} (n : notI a = true) (h : okC a b = true) : wp (cmpSem .Lt a b) S Q = Q (.bl (ltD a b)) S := by
  have e : cmpSem .Lt a b = toB (dLt a b) := by cases a <;> first | exact absurd n Bool.false_ne_true | (simp only [cmpSem])
  have e2 : dLt a b = some (PySem.W.dataLt a.py b.py) := if_pos h
  rw [e, e2]
  rfl
theorem wp_le_ {a b : D} (n : notI a = true) (h : okC a b = true) : wp (cmpSem .LtE a b) S Q = Q (.bl (leD a b)) S := by
  have e : cmpSem .LtE a b = toB (dLe a b) := by cases a <;> first | exact absurd n Bool.false_ne_true | (simp only [cmpSem])
  have e2 : dLe a b = some (!PySem.W.dataLt b.py a.py) := if_pos h
  rw [e, e2]
  rfl
theorem wp_add {i j : Int} : wp (opSem (.bin .Add) [.int i, .int j]) S Q = Q (.int (i + j)) S := (rfl)
theorem wp_sub {i j : Int} : wp (opSem (.bin .Sub) [.int i, .int j]) S Q = Q (.int (i - j)) S := (rfl)
theorem wp_mul {i j : Int} (h : i.natAbs < 2 ^ 64 ∨ j.natAbs < 2 ^ 64) : wp (opSem (.bin .Mult) [.int i, .int j]) S Q = Q (.int (i * j)) S := by
  show wp (if i.natAbs < 2 ^ 64 ∨ j.natAbs < 2 ^ 64 then M.ret (.int (i * j)) else M.stk) S Q = _
  rw [if_pos h]
  rfl
theorem wp_mod {i j : Int} (h : 0 < j) : wp (opSem (.bin .Mod) [.int i, .int j]) S Q = Q (.int (i % j)) S := by
  show wp (if 0 < j then M.ret (.int (i % j)) else M.stk) S Q = _
  rw [if_pos h]
  rfl
theorem wp_fdiv {i j : Int} (h : 0 < j ∧ j < 1073741824) : wp (opSem (.bin .FloorDiv) [.int i, .int j]) S Q = Q (.int (i / j)) S := by
  show wp (if 0 < j ∧ j < 1073741824 then M.ret (.int (i / j)) else M.stk) S Q = _
  rw [if_pos h]
  rfl
theorem wp_addS {a b : Str} (h : a.length + b.length ≤ sizeLine) : wp (opSem (.bin .Add) [.str a, .str b]) S Q = Q (.str (a ++ b)) S := by
  show wp (if a.length + b.length ≤ sizeLine then M.ret (.str (a ++ b)) else M.stk) S Q = _
  rw [if_pos h]
  rfl
theorem wp_addT {a b : List D} (h : a.length + b.length ≤ sizeLine) : wp (opSem (.bin .Add) [.tup a, .tup b]) S Q = Q (.tup (a ++ b)) S := by
  show wp (if a.length + b.length ≤ sizeLine then M.ret (.tup (a ++ b)) else M.stk) S Q = _
  rw [if_pos h]
  rfl
theorem wp_tup {ds : List D} (h : ds.length ≤ sizeLine) : wp (opSem .tup ds) S Q = Q (.tup ds) S := by
  have e : opSem .tup ds = (if ds.length ≤ sizeLine then M.ret (.tup ds) else M.stk) := by
    rcases ds with _ | ⟨a, _ | ⟨b, _ | ⟨c, r⟩⟩⟩ <;> rfl
  rw [e, if_pos h]
  rfl
theorem wp_lst {ds : List D} (h : ds.length ≤ sizeLine) : wp (opSem .lst ds) S Q = Q (.lst ds) S := by
  have e : opSem .lst ds = (if ds.length ≤ sizeLine then M.ret (.lst ds) else M.stk) := by
    rcases ds with _ | ⟨a, _ | ⟨b, _ | ⟨c, r⟩⟩⟩ <;> rfl
  rw [e, if_pos h]
  rfl
theorem wp_neg {i : Int} : wp (opSem .neg [.int i]) S Q = Q (.int (-i)) S := (rfl)
theorem wp_cmp {o : CmpOp} {a b : D} : wp (opSem (.cmp o) [a, b]) S Q = wp (cmpSem o a b) S Q := (rfl)
theorem wp_lenT {xs : List D} : wp (opSem (.bi .len) [.tup xs]) S Q = Q (.int xs.length) S := (rfl)
theorem wp_lenL {xs : List D} : wp (opSem (.bi .len) [.lst xs]) S Q = Q (.int xs.length) S := (rfl)
theorem wp_lenR {xs : List D} : wp (opSem (.bi .len) [.scr xs]) S Q = Q (.int xs.length) S := (rfl)
theorem wp_lenS {z : Str} : wp (opSem (.bi .len) [.str z]) S Q = Q (.int z.length) S := (rfl)
theorem allB_map {α : Type} {g : α → Bool} : ∀ xs : List α, allB (xs.map fun x => D.bl (g x)) = some (xs.map g)
  | [] => rfl
  | x :: xs => by
    simp only [List.map_cons, allB, allB_map xs]
    rfl
theorem wp_allM {α : Type} {g : α → Bool} {xs : List α} : wp (opSem (.bi .all) [.lst (xs.map fun x => D.bl (g x))]) S Q = Q (.bl (xs.all g)) S := by
  show wp (match allB (xs.map fun x => D.bl (g x)) with
    | some bs => okB (bs.all id)
    | none => M.stk) S Q = _
  rw [allB_map]
  show Q (.bl ((xs.map g).all id)) S = _
  rw [List.all_map]
  rfl
theorem wp_anyM {α : Type} {g : α → Bool} {xs : List α} : wp (opSem (.bi .any) [.lst (xs.map fun x => D.bl (g x))]) S Q = Q (.bl (xs.any g)) S := by
  show wp (match allB (xs.map fun x => D.bl (g x)) with
    | some bs => okB (bs.any id)
    | none => M.stk) S Q = _
  rw [allB_map]
  show Q (.bl ((xs.map g).any id)) S = _
  rw [List.any_map]
  rfl
theorem atI_nat {α : Type} {xs : List α} {i : Int} (h0 : 0 ≤ i) (h : i.toNat < xs.length) : L2.atI xs i = some xs[i.toNat] := by
  unfold L2.atI L2.ixN
  rw [if_pos h0, if_pos (by omega)]
  show xs[i.toNat]? = _
  exact List.getElem?_eq_getElem h
theorem wp_ixT {xs : List D} {i : Int} {d : D} (h : L2.atI xs i = some d) : wp (opSem .ix [.tup xs, .int i]) S Q = Q d S := by
  show wpR (at? xs i S) Q = _
  unfold at?
  rw [h]
  rfl
theorem wp_ixL {xs : List D} {i : Int} {d : D} (h : L2.atI xs i = some d) : wp (opSem .ix [.lst xs, .int i]) S Q = Q d S := by
  show wpR (at? xs i S) Q = _
  unfold at?
  rw [h]
  rfl
theorem wp_ixR {xs : List D} {i : Int} {d : D} (h : L2.atI xs i = some d) : wp (opSem .ix [.scr xs, .int i]) S Q = Q d S := by
  show wpR (at? xs i S) Q = _
  unfold at?
  rw [h]
  rfl
theorem wp_ixS {z : Str} {i : Int} {c : Nat} (h : L2.atI z.cps.toList i = some c) : wp (opSem .ix [.str z, .int i]) S Q = Q (.str ⟨#[c]⟩) S := by
  show wpR (match L2.atI z.cps.toList i with
      | some c => .ok (.str ⟨#[c]⟩) S
      | none => .stuck) Q = _
  rw [h]
  rfl
theorem wp_ixB {n : Nat} {xs : List D} {i : Int} {d : D} (hS : S[n]? = some (.lst xs)) (h : L2.atI xs i = some d) : wp (opSem .ix [.loc n, .int i]) S Q = Q d S := by
  show wpR (match seqOf S (.loc n) with
      | some xs => at? xs i S
      | none => .stuck) Q = _
  have e : seqOf S (.loc n) = some xs := by
    show (match S[n]? with
    | some (.lst xs) => some xs
    | _ => none) = _
    rw [hS]
  rw [e]
  show wpR (at? xs i S) Q = _
  unfold at?
  rw [h]
  rfl
theorem py_map : ∀ xs : List D, D.pys xs = xs.map D.py
  | [] => rfl
  | x :: xs => by rw [D.pys, py_map xs, List.map_cons]
theorem dats_all : ∀ xs : List D, D.dats xs = xs.all D.dat
  | [] => rfl
  | x :: xs => by rw [D.dats, dats_all xs, List.all_cons]
theorem dats_mem {xs : List D} : D.dats xs = true ↔ ∀ x ∈ xs, x.dat = true := by rw [dats_all, List.all_eq_true]
theorem deps_le : ∀ {xs : List D} {n : Nat}, D.deps xs ≤ n ↔ ∀ x ∈ xs, x.dep ≤ n
  | [], n => by simp [D.deps]
  | x :: xs, n => by
    rw [D.deps, Nat.max_le, deps_le]
    simp
/-! ### the order -/
theorem leD_trans (a b c : D) (h1 : leD a b = true) (h2 : leD b c = true) : leD a c = true := (PySem.W.sortLe_total _ false _).trans a b c h1 h2
theorem leD_total (a b : D) : (leD a b || leD b a) = true := by
  have := (PySem.W.sortLe_total (PyProof.Rows.listOrd PyProof.Rows.itemOrd) false fun b : D => PySem.W.keyToks b.py).total a b
  rw [Bool.or_eq_true]
  exact this
def adjLe : List D → Bool
  | a :: b :: r => leD a b && adjLe (b :: r)
  | _ => true
theorem adj_pair : ∀ {xs : List D}, adjLe xs = true → xs.Pairwise (fun a b => leD a b = true)
  | [], _ => .nil
  | [a], _ => List.pairwise_singleton _ _
  | a :: b :: r, h => by
    simp only [adjLe, Bool.and_eq_true] at h
    have p := adj_pair h.2
    refine .cons (fun c m => ?_) p
    rcases List.mem_cons.mp m with rfl | m
    · exact h.1
    · exact leD_trans _ _ _ h.1 ((List.pairwise_cons.mp p).1 c m)
theorem pair_adj : ∀ {xs : List D}, xs.Pairwise (fun a b => leD a b = true) → adjLe xs = true
  | [], _ => rfl
  | [a], _ => rfl
  | a :: b :: r, h => by
    simp only [adjLe, Bool.and_eq_true]
    exact ⟨(List.pairwise_cons.mp h).1 b List.mem_cons_self, pair_adj (List.pairwise_cons.mp h).2⟩
theorem sortD_adj (xs : List D) : adjLe (sortD xs) = true := pair_adj (List.pairwise_mergeSort leD_trans leD_total xs)
theorem sortD_of {xs : List D} (h : adjLe xs = true) : sortD xs = xs := List.mergeSort_of_pairwise (adj_pair h)
theorem eqvAll_cons {a b : PyData} {as bs : List PyData} : PyData.eqvAll (a :: as) (b :: bs) = (PyData.eqv a b && PyData.eqvAll as bs) := by rw [PyData.eqvAll]
/-- equal rows are ordered alike -/
theorem adj_eqv : ∀ {xs ys : List D}, (∀ x ∈ xs, ∀ y ∈ ys, PySem.W.alike x.py y.py = true) → PyData.eqvAll (xs.map D.py) (ys.map D.py) = true → adjLe ys = adjLe xs
  | [], [], _, _ => rfl
  | [], _ :: _, _, h => by simp [PyData.eqvAll] at h
  | _ :: _, [], _, h => by simp [PyData.eqvAll] at h
  | [a], [b], _, _ => rfl
  | [a], b :: c :: r, _, h => by simp [PyData.eqvAll] at h
  | a :: b :: r, [c], _, h => by simp [PyData.eqvAll] at h
  | a :: b :: r, c :: d :: t, hl, h => by
    rw [List.map_cons (a := a), List.map_cons (a := c), eqvAll_cons, Bool.and_eq_true] at h
    have ih := adj_eqv (xs := b :: r) (ys := d :: t) (fun x m y m' => hl x (List.mem_cons_of_mem _ m) y (List.mem_cons_of_mem _ m')) h.2
    have h2 := h.2
    rw [List.map_cons, List.map_cons, eqvAll_cons, Bool.and_eq_true] at h2
    have e1 := (PySem.W.toks_eqv a.py c.py (hl a (by simp) c (by simp))).1 h.1
    have e2 := (PySem.W.toks_eqv b.py d.py (hl b (by simp) d (by simp))).1 h2.1
    simp only [adjLe]
    rw [ih]
    have e : leD c d = leD a b := by
      rw [leD_eq, leD_eq]
      unfold ltD PySem.W.dataLt
      rw [e1, e2]
    rw [e]
/-- a row is its sorted self just if it rises -/
theorem eqv_sorted {xs : List D} (hl : ∀ x ∈ xs, ∀ y ∈ xs, PySem.W.alike x.py y.py = true) : eqD (.lst xs) (.lst (sortD xs)) = adjLe xs := by
  have e : eqD (.lst xs) (.lst (sortD xs)) = PyData.eqvAll (xs.map D.py) ((sortD xs).map D.py) := by
    show PyData.eqv (.list (D.pys xs)) (.list (D.pys (sortD xs))) = _
    rw [PyData.eqv, py_map, py_map]
  rw [e]
  cases q : adjLe xs with
  | true =>
    rw [sortD_of q]
    clear q e
    induction xs with
    | nil => rfl
    | cons a r ih =>
      rw [List.map_cons, eqvAll_cons, Bool.and_eq_true]
      exact ⟨PySem.W.eqv_refl_alike _ (hl a (by simp) a (by simp)), ih fun x m y m' => hl x (List.mem_cons_of_mem _ m) y (List.mem_cons_of_mem _ m')⟩
  | false =>
    cases z : PyData.eqvAll (xs.map D.py) ((sortD xs).map D.py) with
    | false => rfl
    | true =>
      have := adj_eqv (fun x m y m' => hl x m y (List.mem_mergeSort.mp m')) z
      have s := sortD_adj xs
      unfold sortD at s
      rw [s, q] at this
      cases this
theorem of_wp {α : Type} {m : M α} {a : α} {S S' : Store} (h : wp m S fun a' S'' => a' = a ∧ S'' = S') : m S = .ok a S' := by
  obtain ⟨a', S'', e, rfl, rfl⟩ := wp_ok h
  exact e
end
end Z

/-! ZP3: the drawing helpers that all laws share -/
namespace Z
open PySem
section
variable {S T : Store} {Q : D → Store → Prop} {x0 x1 x2 x3 d : D} {k : Store → Prop}
theorem bag_0 : wp (opSem .ix [.loc 0, .int 0]) (.lst [x0, x1, x2, x3] :: T) Q = Q x0 (.lst [x0, x1, x2, x3] :: T) := (rfl)
theorem bag_1 : wp (opSem .ix [.loc 0, .int 1]) (.lst [x0, x1, x2, x3] :: T) Q = Q x1 (.lst [x0, x1, x2, x3] :: T) := (rfl)
theorem bag_2 : wp (opSem .ix [.loc 0, .int 2]) (.lst [x0, x1, x2, x3] :: T) Q = Q x2 (.lst [x0, x1, x2, x3] :: T) := (rfl)
theorem bag_3 : wp (opSem .ix [.loc 0, .int 3]) (.lst [x0, x1, x2, x3] :: T) Q = Q x3 (.lst [x0, x1, x2, x3] :: T) := (rfl)
theorem set_1 : setStep (.loc 0) (.int 1) d (.lst [x0, x1, x2, x3] :: T) k = k (.lst [x0, d, x2, x3] :: T) := (rfl)
theorem set_2 : setStep (.loc 0) (.int 2) d (.lst [x0, x1, x2, x3] :: T) k = k (.lst [x0, x1, d, x3] :: T) := (rfl)
theorem set_3 : setStep (.loc 0) (.int 3) d (.lst [x0, x1, x2, x3] :: T) k = k (.lst [x0, x1, x2, d] :: T) := (rfl)
theorem wp_fitTI {i : Int} : wp (fitM true (.int i)) S Q = Q (.int i) S := wp_fitT rfl
theorem wp_fitTL {n : Nat} : wp (fitM true (.loc n)) S Q = Q (.loc n) S := wp_fitT rfl
theorem wp_fitTB {b : Bool} : wp (fitM true (.bl b)) S Q = Q (.bl b) S := wp_fitT rfl
theorem wp_int {i : Int} : wp (opSem (.bi .int) [.int i]) S Q = Q (.int i) S := (rfl)
theorem wp_abs {i : Int} : wp (opSem (.bi .abs) [.int i]) S Q = Q (.int (if i < 0 then -i else i)) S := (rfl)
theorem wp_pow18 : wp (opSem (.bin .Pow) [.int 10, .int 18]) S Q = Q (.int 1000000000000000000) S := (rfl)
end
/-- the bag: the script's numbers, where it stands, what is left of a great number, the last number made -/
def Bag (T S : Store) : Prop := ∃ (cells : List Int) (a b c : Int), S = .lst [.lst (cells.map D.int), .int a, .int b, .int c] :: T ∧ 0 ≤ a ∧ 0 ≤ b ∧ 0 ≤ c ∧ c < 2147483647
def pull0 : Cmd :=
  .ifs false (.bool true [(.op (.cmp .Eq) [(.op .ix [(.var 0), (.const (.int 2))]), (.const (.int 0))]), (.op (.cmp .Lt) [(.op .ix [(.var 0), (.const (.int 1))]), (.op (.bi .len) [(.op .ix [(.var 0), (.const (.int 0))])])])]) [.asg false (.name 3) (.op .ix [(.op .ix [(.var 0), (.const (.int 0))]), (.op .ix [(.var 0), (.const (.int 1))])]), .setIx (.var 0) (.const (.int 1)) (.op (.bin .Add) [(.op .ix [(.var 0), (.const (.int 1))]), (.const (.int 1))]), .ifs false (.op (.cmp .GtE) [(.op (.bi .abs) [(.var 3)]), (.op (.bin .Pow) [(.const (.int 10)), (.const (.int 18))])]) [.setIx (.var 0) (.const (.int 2)) (.op (.bi .abs) [(.var 3)])] [.setIx (.var 0) (.const (.int 3)) (.op (.bin .Mod) [(.op (.bi .int) [(.op (.bin .Add) [(.op (.bin .Add) [(.op (.bin .Mult) [(.op .ix [(.var 0), (.const (.int 3))]), (.const (.int 48271))]), (.op (.bin .Mult) [(.op (.bin .Mod) [(.op (.bi .int) [(.var 3)]), (.const (.int 1000003))]), (.const (.int 911))])]), (.const (.int 7))])]), (.const (.int 2147483647))])]] []
def pull1 : List Cmd := [
  .ifs false (.op (.cmp .Gt) [(.op .ix [(.var 0), (.const (.int 2))]), (.const (.int 0))]) [.asg false (.name 4) (.op (.bin .Mod) [(.op (.bi .int) [(.op .ix [(.var 0), (.const (.int 2))])]), (.var 1)]), .setIx (.var 0) (.const (.int 2)) (.op (.bin .FloorDiv) [(.op .ix [(.var 0), (.const (.int 2))]), (.var 1)]), .ret false (.var 4)] [],
  .asg false (.name 2) (.op (.bin .Mod) [(.op (.bi .int) [(.op (.bin .Mult) [(.op .ix [(.var 0), (.const (.int 3))]), (.op .ix [(.var 0), (.const (.int 3))])])]), (.const (.int 2147483629))]),
  .setIx (.var 0) (.const (.int 3)) (.op (.bin .Mod) [(.op (.bi .int) [(.op (.bin .Add) [(.op (.bin .Add) [(.op (.bin .Mult) [(.var 2), (.const (.int 16807))]), (.op (.bin .Mult) [(.op .ix [(.var 0), (.const (.int 3))]), (.const (.int 40692))])]), (.const (.int 12345))])]), (.const (.int 2147483647))]),
  .ret false (.op (.bin .Mod) [(.op (.bi .int) [(.op (.bin .FloorDiv) [(.op .ix [(.var 0), (.const (.int 3))]), (.const (.int 64))])]), (.var 1)])]
def pullB : List Cmd := pull0 :: pull1
section
variable {gl : Nat → Option D} {prog : List Fn} {S T : Store} {Q : D → Store → Prop}
/-- the second half of a draw -/
theorem pull_end {cal : Nat → List D → M D} {n : Int} (h0 : 0 < n) (hn : n < 1073741824) (hB : Bag T S) (q : ∀ r S', Bag T S' → 0 ≤ r → r < n → Q (.int r) S') {s3 s4 : Slot} :
    wp (execs gl cal pull1 [.val (.loc 0), .val (.int n), .no, s3, s4]) S fun o S => (match o with
    | .ret d => Q d S
    | .nx _ => Q .non S
    | _ => False) := by
  obtain ⟨cells, a, b, c, rfl, ha, hb, hc, hc2⟩ := hB
  simp only [pull1, wp_xif0, wp_read, wp_fitF, wp_op, wp_cons, wp_nil, wp_varM, wp_const, Fr.env, Bool.false_eq_true, if_false, List.map_cons, List.map_nil, List.getElem?_cons_zero, List.getElem?_cons_succ, Slot.str, bag_2, wp_cmp, wp_gtI, wp_truthB]
  by_cases hb0 : 0 < b
  · rw [if_pos (decide_eq_true hb0)]
    simp only [wp_xasgN, wp_xret, wp_xset, wp_read, wp_fitF, wp_fitTI, wp_fitTL, wp_op, wp_cons, wp_nil, wp_varM, wp_const, Fr.env, Bool.false_eq_true, if_false, if_true, List.map_cons, List.map_nil, List.set_cons_zero, List.set_cons_succ, List.getElem?_cons_zero, List.getElem?_cons_succ, Slot.str, Slot.brw, bag_2, wp_int, wp_mod h0, wp_fdiv ⟨h0, hn⟩, set_2]
    exact q _ _ ⟨cells, a, b / n, c, rfl, ha, Int.ediv_nonneg hb (by omega), hc, hc2⟩ (Int.emod_nonneg _ (by omega)) (Int.emod_lt_of_pos _ h0)
  · rw [if_neg (by simpa using hb0)]
    have m1 : c.natAbs < 2 ^ 64 ∨ c.natAbs < 2 ^ 64 := .inl (by omega)
    simp only [wp_xasgN, wp_xret, wp_xset, wp_read, wp_fitF, wp_fitTI, wp_fitTL, wp_op, wp_cons, wp_nil, wp_varM, wp_const, Fr.env, Bool.false_eq_true, if_false, if_true, List.map_cons, List.map_nil, List.set_cons_zero, List.set_cons_succ, List.getElem?_cons_zero, List.getElem?_cons_succ, Slot.str, Slot.brw, bag_3, wp_int, wp_mul m1, wp_mod (show (0 : Int) < 2147483629 by omega), wp_mod (show (0 : Int) < 2147483647 by omega), wp_mod h0, wp_mul (j := 16807) (.inr (by omega)), wp_mul (j := 40692) (.inr (by omega)), wp_add, wp_fdiv (show (0 : Int) < 64 ∧ (64 : Int) < 1073741824 by omega), set_3]
    exact q _ _ ⟨cells, a, b, _, rfl, ha, hb, Int.emod_nonneg _ (by omega), Int.emod_lt_of_pos _ (by omega)⟩ (Int.emod_nonneg _ (by omega)) (Int.emod_lt_of_pos _ h0)
theorem wp_pull {k i : Nat} (h : prog[i]? = some ⟨2, 5, pullB⟩) {n : Int} (h0 : 0 < n) (hn : n < 1073741824) (hB : Bag T S) (q : ∀ r S', Bag T S' → 0 ≤ r → r < n → Q (.int r) S') :
    wp (run gl prog (k + 1) i [.loc 0, .int n]) S Q := by
  rw [wp_run h rfl]
  show wp (execs gl _ pullB [.val (.loc 0), .val (.int n), .no, .no, .no]) S _
  obtain ⟨cells, a, b, c, rfl, ha, hb, hc, hc2⟩ := hB
  have fin : ∀ {s3 s4 : Slot} {S'}, Bag T S' → wp (execs gl (run gl prog k) pull1 [.val (.loc 0), .val (.int n), .no, s3, s4]) S' fun o S => (match o with
    | .ret d => Q d S
    | .nx _ => Q .non S
    | _ => False) := fun hB => pull_end h0 hn hB q
  simp only [pullB, pull0, wp_xif0, wp_read, wp_fitF, wp_op, wp_cons, wp_nil, wp_varM, wp_const, wp_boolE, wp_bool2, wp_bool1, Fr.env, Bool.false_eq_true, if_false, List.map_cons, List.map_nil, List.getElem?_cons_zero, List.getElem?_cons_succ, Slot.str, bag_0, bag_1, bag_2, wp_cmp, wp_eqI, wp_ltI, wp_truthB, wp_lenL, List.length_map]
  by_cases hb0 : b = 0
  · rw [if_pos (decide_eq_true hb0)]
    by_cases hl : a < cells.length
    · rw [if_pos (decide_eq_true hl)]
      have hat : L2.atI (cells.map D.int) a = some (.int (cells[a.toNat]'(by omega))) := by
        rw [atI_nat ha (by rw [List.length_map]; omega)]
        simp
      generalize cells[a.toNat]'(by omega) = ce at hat
      simp only [wp_xasgN, wp_x0, wp_xif, wp_xset, wp_read, wp_fitF, wp_fitTI, wp_fitTL, wp_op, wp_cons, wp_nil, wp_varM, wp_const, Fr.env, Bool.false_eq_true, if_false, if_true, List.map_cons, List.map_nil, List.set_cons_zero, List.set_cons_succ, List.getElem?_cons_zero, List.getElem?_cons_succ, Slot.str, Slot.brw, bag_0, bag_1, wp_ixL hat, wp_add, set_1, wp_abs, wp_pow18, wp_cmp, wp_geI, wp_truthB, bag_3, wp_int, wp_mul (j := 48271) (.inr (by omega)), wp_mod (show (0 : Int) < 1000003 by omega), wp_mul (j := 911) (.inr (by omega)), wp_mod (show (0 : Int) < 2147483647 by omega), set_2, set_3]
      have hu : 0 ≤ (if ce < 0 then -ce else ce) := by split <;> omega
      generalize (if ce < 0 then -ce else ce) = u at hu
      split
      · exact fin ⟨cells, a + 1, u, c, rfl, by omega, hu, hc, hc2⟩
      · exact fin ⟨cells, a + 1, b, _, rfl, by omega, hb, Int.emod_nonneg _ (by omega), Int.emod_lt_of_pos _ (by omega)⟩
    · rw [if_neg (by simpa using hl)]
      exact fin ⟨cells, a, b, c, rfl, ha, hb, hc, hc2⟩
  · rw [if_neg (by simpa using hb0), if_neg (by simpa using hb0)]
    exact fin ⟨cells, a, b, c, rfl, ha, hb, hc, hc2⟩
/-- one of some -/
theorem wp_ofL {k i j : Nat} (h : prog[i]? = some ⟨2, 2, [.ret false (.op .ix [(.var 1), (.call j [(.var 0), (.op (.bi .len) [(.var 1)])])])]⟩) (hp : prog[j]? = some ⟨2, 5, pullB⟩) {xs : List D} (h0 : 0 < xs.length) (hn : xs.length < 1073741824) (hB : Bag T S)
    (q : ∀ x S', Bag T S' → x ∈ xs → Q x S') : wp (run gl prog (k + 2) i [.loc 0, .lst xs]) S Q := by
  rw [wp_run h rfl]
  show wp (execs gl _ _ [.val (.loc 0), .val (.lst xs)]) S _
  simp only [wp_xret, wp_read, wp_fitF, wp_op, wp_call, wp_cons, wp_nil, wp_varM, Fr.env, Bool.false_eq_true, if_false, List.map_cons, List.map_nil, List.getElem?_cons_zero, List.getElem?_cons_succ, Slot.str, wp_lenL]
  refine wp_pull hp (by omega) (by omega) hB fun r S' hB' h1 h2 => ?_
  rw [wp_ixL (atI_nat h1 (by omega))]
  exact q _ _ hB' (List.getElem_mem _)
theorem wp_ofT {k i j : Nat} (h : prog[i]? = some ⟨2, 2, [.ret false (.op .ix [(.var 1), (.call j [(.var 0), (.op (.bi .len) [(.var 1)])])])]⟩) (hp : prog[j]? = some ⟨2, 5, pullB⟩) {xs : List D} (h0 : 0 < xs.length) (hn : xs.length < 1073741824) (hB : Bag T S)
    (q : ∀ x S', Bag T S' → x ∈ xs → Q x S') : wp (run gl prog (k + 2) i [.loc 0, .tup xs]) S Q := by
  rw [wp_run h rfl]
  show wp (execs gl _ _ [.val (.loc 0), .val (.tup xs)]) S _
  simp only [wp_xret, wp_read, wp_fitF, wp_op, wp_call, wp_cons, wp_nil, wp_varM, Fr.env, Bool.false_eq_true, if_false, List.map_cons, List.map_nil, List.getElem?_cons_zero, List.getElem?_cons_succ, Slot.str, wp_lenT]
  refine wp_pull hp (by omega) (by omega) hB fun r S' hB' h1 h2 => ?_
  rw [wp_ixT (atI_nat h1 (by omega))]
  exact q _ _ hB' (List.getElem_mem _)
theorem wp_ofS {k i j : Nat} (h : prog[i]? = some ⟨2, 2, [.ret false (.op .ix [(.var 1), (.call j [(.var 0), (.op (.bi .len) [(.var 1)])])])]⟩) (hp : prog[j]? = some ⟨2, 5, pullB⟩) {z : Str} (h0 : 0 < z.length) (hn : z.length < 1073741824) (hB : Bag T S)
    (q : ∀ c S', Bag T S' → c ∈ z.cps.toList → Q (.str ⟨#[c]⟩) S') : wp (run gl prog (k + 2) i [.loc 0, .str z]) S Q := by
  rw [wp_run h rfl]
  show wp (execs gl _ _ [.val (.loc 0), .val (.str z)]) S _
  have hl : z.cps.toList.length = z.length := by rw [Array.length_toList]; rfl
  simp only [wp_xret, wp_read, wp_fitF, wp_op, wp_call, wp_cons, wp_nil, wp_varM, Fr.env, Bool.false_eq_true, if_false, List.map_cons, List.map_nil, List.getElem?_cons_zero, List.getElem?_cons_succ, Slot.str, wp_lenS]
  refine wp_pull hp (by omega) (by omega) hB fun r S' hB' h1 h2 => ?_
  rw [wp_ixS (atI_nat h1 (by omega))]
  exact q _ _ hB' (List.getElem_mem _)
end
end Z

/-! ZP4: rows: all(..) of comprehensions, slices, sizes -/
namespace Z
open PySem
theorem cut_from {α : Type} (xs : List α) {i : Int} (h : 0 ≤ i) : cut xs (some i) none = xs.drop i.toNat := by
  unfold cut
  obtain ⟨k, rfl⟩ := Int.eq_ofNat_of_zero_le h
  rw [HT.sIx_nat, HT.sIx_none, Int.toNat_natCast]
  by_cases hk : k ≤ xs.length
  · rw [Nat.min_eq_left hk, List.take_of_length_le (by rw [List.length_drop]; omega)]
  · rw [Nat.min_eq_right (by omega), List.drop_length, List.drop_of_length_le (by omega)]
    simp
theorem cut_to {α : Type} (xs : List α) {i : Int} (h : 0 ≤ i) : cut xs none (some i) = xs.take i.toNat := by
  unfold cut
  obtain ⟨k, rfl⟩ := Int.eq_ofNat_of_zero_le h
  rw [HT.sIx_nat, HT.sIx_none, Int.toNat_natCast, List.drop_zero, Nat.sub_zero]
  by_cases hk : k ≤ xs.length
  · rw [Nat.min_eq_left hk]
  · rw [Nat.min_eq_right (by omega), List.take_length, List.take_of_length_le (by omega)]
section
variable {gl : Nat → Option D} {cal : Nat → List D → M D} {S : Store} {Q : D → Store → Prop} {env rest : Env}
theorem wp_slFT {xs : List D} {i : Int} (h : 0 ≤ i) : wp (opSem (.slice true false) [.tup xs, .int i]) S Q = Q (.tup (xs.drop i.toNat)) S := by
  rw [← cut_from xs h]
  rfl
theorem wp_slTT {xs : List D} {i : Int} (h : 0 ≤ i) : wp (opSem (.slice false true) [.tup xs, .int i]) S Q = Q (.tup (xs.take i.toNat)) S := by
  rw [← cut_to xs h]
  rfl
theorem wp_slTR {xs : List D} {i : Int} (h : 0 ≤ i) : wp (opSem (.slice false true) [.scr xs, .int i]) S Q = Q (.lst (xs.take i.toNat)) S := by
  rw [← cut_to xs h]
  rfl
theorem wp_slFS {z : Str} {i : Int} : wp (opSem (.slice true false) [.str z, .int i]) S Q = Q (.str (L2.cutS z (some i) none)) S := (rfl)
theorem wp_listT {xs : List D} : wp (opSem (.bi .list) [.tup xs]) S Q = Q (.lst xs) S := (rfl)
theorem wp_listL {xs : List D} : wp (opSem (.bi .list) [.lst xs]) S Q = Q (.lst xs) S := (rfl)
theorem wp_tupL {xs : List D} : wp (opSem (.bi .tuple) [.lst xs]) S Q = Q (.tup xs) S := (rfl)
theorem wp_sortT {xs : List D} (h : sortOk xs = true) : wp (opSem (.bi .sorted) [.tup xs]) S Q = Q (.lst (sortD xs)) S := by
  show wp (if sortOk xs = true then M.ret (.lst (sortD xs)) else M.stk) S Q = _
  rw [if_pos h]
  rfl
theorem wp_sortL {xs : List D} (h : sortOk xs = true) : wp (opSem (.bi .sorted) [.lst xs]) S Q = Q (.lst (sortD xs)) S := by
  show wp (if sortOk xs = true then M.ret (.lst (sortD xs)) else M.stk) S Q = _
  rw [if_pos h]
  rfl
theorem wp_sortS {z : Str} : wp (opSem (.bi .sorted) [.str z]) S Q = Q (.lst (sortD (signs z))) S := (rfl)
theorem wp_rev {xs : List D} : wp (opSem .rev [.tup xs]) S Q = Q (.tup xs.reverse) S := (rfl)
theorem wp_srcT {xs : List D} {QL : List D → Store → Prop} : wp (srcItems .val [.tup xs]) S QL = QL xs S := (rfl)
theorem wp_srcL {xs : List D} {QL : List D → Store → Prop} : wp (srcItems .val [.lst xs]) S QL = QL xs S := (rfl)
theorem wp_srcS {z : Str} {QL : List D → Store → Prop} : wp (srcItems .val [.str z]) S QL = QL (signs z) S := (rfl)
theorem wp_srcN {n : Int} {QL : List D → Store → Prop} (h : -(2 ^ 62) ≤ n ∧ n ≤ 16777216) : wp (srcItems .range1 [.int n]) S QL = QL ((List.range n.toNat).map fun i => D.int (i : Nat)) S := by
  show wp (if -(2 ^ 62) ≤ n ∧ n ≤ 16777216 then M.ret ((List.range n.toNat).map fun i => D.int (i : Nat)) else M.stk) S QL = _
  rw [if_pos h]
  rfl
theorem wp_srcE {xs : List D} {QL : List D → Store → Prop} : wp (srcItems .enum [.lst xs]) S QL = QL (xs.mapIdx fun i x => .tup [.int i, x]) S := (rfl)
theorem wp_srcZ {a b : D} {xs ys : List D} {QL : List D → Store → Prop} (h1 : sideOf a = some xs) (h2 : sideOf b = some ys) : wp (srcItems .zip [a, b]) S QL = QL ((xs.zip ys).map fun p => .tup [p.1, p.2]) S := by
  show wp (match sideOf a, sideOf b with
    | some xs, some ys => M.ret ((xs.zip ys).map fun p => D.tup [p.1, p.2])
    | _, _ => M.stk) S QL = _
  rw [h1, h2]
  rfl
theorem filterMap_some {α β : Type} (g : α → β) (xs : List α) : xs.filterMap (fun x => some (g x)) = xs.map g := by
  induction xs with
  | nil => rfl
  | cons x xs ih => rw [List.filterMap_cons, List.map_cons, ih]
/-- all([f(x) for x in v]) -/
theorem wp_allCall {f j : Nat} {e : E} {v : D} {xs : List D} {g : D → Bool} (hj : j < env.length) (he : ∀ Q : D → Store → Prop, wp (evalE gl cal e env) S Q = Q v S) (hs : ∀ QL : List D → Store → Prop, wp (srcItems .val [v]) S QL = QL xs S)
    (hg : ∀ x ∈ xs, cal f [x] S = .ok (.bl (g x)) S) : wp (evalE gl cal (.op (.bi .all) [.comp [j] (.call f [.var j]) (.name j) .val [e] []]) env) S Q = Q (.bl (xs.all g)) S := by
  rw [wp_op, wp_cons, wp_compE, wp_cons, he]
  simp only [wp_nil]
  rw [hs, wp_comp_map (g := fun x => some (.bl (g x))) fun x m => ?_, filterMap_some, wp_allM]
  refine of_wp ?_
  rw [wp_compT0]
  have hb : bindT (.name j) x (wipe env [j]) = some ((wipe env [j]).set j (some x)) := rfl
  rw [hb]
  simp only [wp_call, wp_cons, wp_nil, wp_varM]
  have hl : ((wipe env [j]).set j (some x))[j]? = some (some x) := by
    rw [List.getElem?_set_self]
    show j < (List.set _ _ _).length
    rw [List.length_set]
    exact hj
  rw [hl]
  simp only []
  rw [wp_eq (hg x m)]
  exact ⟨rfl, rfl⟩
/-- all([a op b for a, b in zip(v, v[1:])]) -/
def zE (o : CmpOp) : E := .op (.bi .all) [.comp [1, 2] (.op (.cmp o) [.var 1, .var 2]) (.tup [.name 1, .name 2]) .zip [.var 0, .op (.slice true false) [.var 0, .const (.int 1)]] []]
theorem wp_zipAll {o : CmpOp} {v v' : D} {xs xs' : List D} {g : D → D → Bool} (h1 : sideOf v = some xs) (h2 : ∀ Q : D → Store → Prop, wp (opSem (.slice true false) [v, .int 1]) S Q = Q v' S) (h3 : sideOf v' = some xs')
    (hc : ∀ a ∈ xs, ∀ b ∈ xs', cmpSem o a b S = .ok (.bl (g a b)) S) : wp (evalE gl cal (zE o) (some v :: none :: none :: rest)) S Q = Q (.bl ((xs.zip xs').all fun p => g p.1 p.2)) S := by
  unfold zE
  rw [wp_op, wp_cons, wp_compE]
  simp only [wp_cons, wp_nil, wp_varM, wp_op, wp_const, List.getElem?_cons_zero]
  rw [h2, wp_srcZ h1 h3, wp_comp_map (g := fun x => some (match x with
    | .tup [a, b] => .bl (g a b)
    | _ => .bl true)) fun x m => ?_, filterMap_some, List.map_map]
  · have e : ((fun x => (match x with
      | .tup [a, b] => D.bl (g a b)
      | _ => .bl true)) ∘ fun p : D × D => D.tup [p.1, p.2]) = fun p : D × D => D.bl (g p.1 p.2) := rfl
    rw [e, wp_allM]
  · obtain ⟨p, mp, rfl⟩ := List.mem_map.mp m
    obtain ⟨a, b⟩ := p
    have mm := List.of_mem_zip mp
    refine of_wp ?_
    rw [wp_compT0]
    have hb : bindT (.tup [.name 1, .name 2]) (.tup [a, b]) (wipe (some v :: none :: none :: rest) [1, 2]) = some (some v :: some a :: some b :: rest) := rfl
    rw [hb]
    simp only [wp_op, wp_cons, wp_nil, wp_varM, List.getElem?_cons_zero, List.getElem?_cons_succ, wp_cmp]
    rw [wp_eq (hc a mm.1 b mm.2)]
    exact ⟨rfl, rfl⟩
end
theorem adj_zip : ∀ xs : List D, ((xs.zip (xs.drop 1)).all fun p => leD p.1 p.2) = adjLe xs
  | [] => rfl
  | [a] => rfl
  | a :: b :: r => by
    have ih := adj_zip (b :: r)
    simp only [List.drop_succ_cons, List.drop_zero] at ih ⊢
    simp only [List.zip_cons_cons, List.all_cons, adjLe]
    rw [ih]
theorem signs_str {z : Str} {x : D} (h : x ∈ signs z) : ∃ c, x = .str ⟨#[c]⟩ ∧ c ∈ z.cps.toList := by
  unfold signs at h
  obtain ⟨c, hc, rfl⟩ := List.mem_map.mp h
  exact ⟨c, rfl, hc⟩
theorem cmp_of {o : CmpOp} {a b : D} {S : Store} {g : Bool} (h : ∀ Q : D → Store → Prop, wp (cmpSem o a b) S Q = Q (.bl g) S) : cmpSem o a b S = .ok (.bl g) S := of_wp (by rw [h]; exact ⟨rfl, rfl⟩)
theorem run_of {m : M D} {S : Store} {g : D} (h : ∀ Q : D → Store → Prop, wp m S Q = Q g S) : m S = .ok g S := of_wp (by rw [h]; exact ⟨rfl, rfl⟩)
theorem okC_str {a b : Str} : okC (.str a) (.str b) = true := by
  unfold okC alk
  simp [D.dat, D.py, PySem.W.alike, D.dep]
end Z

/-! ZP5: how big data are -/
namespace Z
open PySem
mutual
def D.wid : D → Nat
  | .tup xs => max xs.length (D.wids xs)
  | .lst xs => D.wids xs
  | _ => 0
def D.wids : List D → Nat
  | [] => 0
  | x :: xs => max (D.wid x) (D.wids xs)
end
theorem wids_le : ∀ {xs : List D} {n : Nat}, D.wids xs ≤ n ↔ ∀ x ∈ xs, x.wid ≤ n
  | [], n => by simp [D.wids]
  | x :: xs, n => by
    rw [D.wids, Nat.max_le, wids_le]
    simp
/-- plain data: tuples at most w wide, at most n deep -/
structure Fit (w n : Nat) (v : D) : Prop where
  dat : v.dat = true
  dep : v.dep ≤ n
  wid : v.wid ≤ w
theorem Fit.mono {w n w' n' : Nat} {v : D} (h : Fit w n v) (hw : w ≤ w') (hn : n ≤ n') : Fit w' n' v := ⟨h.dat, Nat.le_trans h.dep hn, Nat.le_trans h.wid hw⟩
theorem Fit.tup {w n : Nat} {xs : List D} (hl : xs.length ≤ w) (h : ∀ x ∈ xs, Fit w n x) : Fit w (n + 1) (.tup xs) :=
  ⟨by rw [D.dat]; exact dats_mem.mpr fun x m => (h x m).dat, by rw [D.dep]; exact Nat.succ_le_succ (deps_le.mpr fun x m => (h x m).dep), by rw [D.wid]; exact Nat.max_le.mpr ⟨hl, wids_le.mpr fun x m => (h x m).wid⟩⟩
theorem Fit.lst {w n : Nat} {xs : List D} (h : ∀ x ∈ xs, Fit w n x) : Fit w (n + 1) (.lst xs) :=
  ⟨by rw [D.dat]; exact dats_mem.mpr fun x m => (h x m).dat, by rw [D.dep]; exact Nat.succ_le_succ (deps_le.mpr fun x m => (h x m).dep), by rw [D.wid]; exact wids_le.mpr fun x m => (h x m).wid⟩
theorem Fit.len {w n : Nat} {xs : List D} (h : Fit w n (.tup xs)) : xs.length ≤ w := by
  have := h.wid
  rw [D.wid] at this
  omega
theorem Fit.pos {w n : Nat} {xs : List D} (h : Fit w n (.tup xs)) : 1 ≤ n := by
  have := h.dep
  rw [D.dep] at this
  omega
theorem Fit.mem {w n : Nat} {xs : List D} (h : Fit w (n + 1) (.tup xs)) {x : D} (m : x ∈ xs) : Fit w n x := by
  refine ⟨?_, ?_, ?_⟩
  · have := h.dat
    rw [D.dat] at this
    exact dats_mem.mp this x m
  · have := h.dep
    rw [D.dep] at this
    exact deps_le.mp (by omega) x m
  · have := h.wid
    rw [D.wid] at this
    exact wids_le.mp (by omega) x m
theorem Fit.int {w n : Nat} (i : Int) : Fit w n (.int i) := ⟨rfl, Nat.zero_le _, Nat.zero_le _⟩
theorem Fit.str {w n : Nat} (z : Str) : Fit w n (.str z) := ⟨rfl, Nat.zero_le _, Nat.zero_le _⟩
def fitB (w n : Nat) (v : D) : Bool := v.dat && decide (v.dep ≤ n) && decide (v.wid ≤ w)
theorem fit_by {w n : Nat} {v : D} (h : fitB w n v = true) : Fit w n v := by
  unfold fitB at h
  simp only [Bool.and_eq_true, decide_eq_true_eq] at h
  exact ⟨h.1.1, h.1.2, h.2⟩
theorem sizeL : (16777216 : Nat) = sizeLine := rfl
end Z

/-! ZP6: a run that may raise -/
namespace Z
open PySem
def wpx {α : Type} (m : M α) (S : Store) (Q : α → Store → Prop) (E : Ex → Store → Prop) : Prop := match m S with
  | .ok a S' => Q a S'
  | .exc x S' => E x S'
  | .stuck => False
section
variable {α β : Type} {m : M α} {f : α → M β} {S S' : Store} {Q Q' : α → Store → Prop} {R : β → Store → Prop} {a : α} {E : Ex → Store → Prop}
theorem wpx_of (h : wp m S Q) : wpx m S Q E := by
  unfold wp wpR at h
  unfold wpx
  split at h
  · rename_i e
    rw [e]
    exact h
  · exact h.elim
theorem wpx_eq (h : m S = .ok a S') : wpx m S Q E = Q a S' := by
  unfold wpx
  rw [h]
/-- m is known to end in a -/
theorem wpx_is (h : ∀ Q : α → Store → Prop, wp m S Q = Q a S') : wpx m S Q E = Q a S' := wpx_eq (by
  have h2 : wp m S fun b T => b = a ∧ T = S' := by
    rw [h]
    exact ⟨rfl, rfl⟩
  obtain ⟨b, T, e, rfl, rfl⟩ := wp_ok h2
  exact e)
theorem wpx_bind : wpx (M.bind m f) S R E = wpx m S (fun a S' => wpx (f a) S' R E) E := by
  unfold wpx M.bind
  cases m S <;> rfl
theorem wpx_ret : wpx (M.ret a) S Q E = Q a S := (rfl)
theorem wpx_stk : wpx (M.stk : M α) S Q E = False := (rfl)
theorem wpx_ite {c : Prop} [Decidable c] {m n : M α} : wpx (if c then m else n) S Q E = if c then wpx m S Q E else wpx n S Q E := by split <;> rfl
theorem wpx_mono {E' : Ex → Store → Prop} (h : wpx m S Q E) (i : ∀ a S', Q a S' → Q' a S') (j : ∀ x S', E x S' → E' x S') : wpx m S Q' E' := by
  unfold wpx at h ⊢
  cases e : m S with
  | ok a S' => rw [e] at h; exact i _ _ h
  | exc x S' => rw [e] at h; exact j _ _ h
  | stuck => rw [e] at h; exact h
end
section
variable {gl : Nat → Option D} {cal : Nat → List D → M D} {S : Store} {Q : D → Store → Prop} {QL : List D → Store → Prop} {QO : Out → Store → Prop} {E : Ex → Store → Prop}
theorem readF {e : Z.E} {fr : Fr} : readE gl cal false e fr = evalE gl cal e (fr.env false) := by
  funext S
  unfold readE M.bind
  cases evalE gl cal e (fr.env false) S <;> simp [fitX, fitM, M.ret]
theorem readsF {es : List Z.E} {fr : Fr} : readEs gl cal false es fr = evalEs gl cal es (fr.env false) := by
  funext S
  unfold readEs M.bind
  cases evalEs gl cal es (fr.env false) S <;> simp [fitX, M.ret]
theorem wpx_xexpr {e : Z.E} {cs : List Cmd} {fr : Fr} : wpx (execs gl cal (.expr false e :: cs) fr) S QO E = wpx (evalE gl cal e (fr.env false)) S (fun _ S => wpx (execs gl cal cs fr) S QO E) E := by
  simp only [execs, exec, wpx_bind, wpx_ret, readF]
theorem wpx_x0 {fr : Fr} : wpx (execs gl cal [] fr) S QO E = QO (.nx fr) S := by simp only [execs, wpx_ret]
theorem wpx_xret {e : Z.E} {cs : List Cmd} {fr : Fr} : wpx (execs gl cal (.ret false e :: cs) fr) S QO E = wpx (evalE gl cal e (fr.env false)) S (fun d S => QO (.ret d) S) E := by
  simp only [execs, exec, wpx_bind, wpx_ret, readF]
theorem wpx_xasgN {i : Nat} {e : Z.E} {cs : List Cmd} {fr : Fr} : wpx (execs gl cal (.asg false (.name i) e :: cs) fr) S QO E = wpx (evalE gl cal e (fr.env false)) S (fun d S => wpx (execs gl cal cs (fr.set i (.val d))) S QO E) E := by
  simp only [execs, exec, wpx_bind, readF]
  congr 1
theorem wpx_xif0 {t : Z.E} {a cs : List Cmd} {fr : Fr} : wpx (execs gl cal (.ifs false t a [] :: cs) fr) S QO E = wpx (evalE gl cal t (fr.env false)) S (fun d S => wpx (truth d) S (fun c S => if c = true then wpx (execs gl cal a fr) S (fun o S => (match o with
      | .nx fr' => wpx (execs gl cal cs fr') S QO E
      | o => QO o S)) E else wpx (execs gl cal cs fr) S QO E) E) E := by
  simp only [execs, exec, wpx_bind, wpx_ite, readF, wpx_ret]
  congr 1
  funext d S
  congr 1
  funext c S
  split
  · congr 1
    funext o S
    cases o <;> simp only [wpx_ret]
  · rfl
theorem wpx_xraise {x : Str} {es : List Z.E} {cs : List Cmd} {fr : Fr} : wpx (execs gl cal (.raise false x es :: cs) fr) S QO E = wpx (evalEs gl cal es (fr.env false)) S (fun ds S => if ds.length = es.length ∧ ds.length ≤ 1 then E ⟨x, ds[0]?⟩ S else False) E := by
  simp only [execs, exec, wpx_bind, readsF]
  congr 1
  funext ds S
  by_cases h : ds.length = es.length ∧ ds.length ≤ 1
  · rw [if_pos h]
    unfold wpx
    simp only [if_pos h]
  · rw [if_neg h]
    unfold wpx
    simp only [if_neg h]
theorem wpx_call {f : Nat} {es : List Z.E} {env : Env} : wpx (evalE gl cal (.call f es) env) S Q E = wpx (evalEs gl cal es env) S (fun ds S => wpx (cal f ds) S Q E) E := by simp only [evalE, wpx_bind]
theorem wpx_truthB {b : Bool} {QB : Bool → Store → Prop} : wpx (truth (.bl b)) S QB E = QB b S := (rfl)
/-- the law's own try -/
theorem wp_got {e : Z.E} {env : Env} (h : wpx (evalE gl cal e env) S (fun d S => Q (.tup [.str "value", d]) S) (fun x S => Q (.tup [.str x.cls, x.arg.getD .non]) S)) : wp (evalE gl cal (.got false e) env) S Q := by
  unfold wpx at h
  simp only [evalE]
  rw [wp_fun]
  cases q : evalE gl cal e env S with
  | ok d S' => rw [q] at h; exact h
  | exc x S' => rw [q] at h; exact h
  | stuck => rw [q] at h; exact h.elim
end
theorem wpx_run {gl : Nat → Option D} {prog : List Fn} {k f : Nat} {fn : Fn} {ds : List D} {S : Store} {Q : D → Store → Prop} {E : Ex → Store → Prop} (h : prog[f]? = some fn) (hl : ds.length = fn.np) : wpx (run gl prog (k + 1) f ds) S Q E = wpx (execs gl (run gl prog k) fn.body (startF fn.ns ds)) S (fun o S => (match o with
    | .ret d => Q d S
    | .nx _ => Q .non S
    | _ => False)) E := by
  conv => lhs; unfold run
  rw [h]
  show wpx (if ds.length = fn.np then _ else M.stk) S Q E = _
  rw [if_pos hl, wpx_bind]
  congr 1
  funext o S
  cases o <;> rfl
/-- min, max of lists -/
theorem allI_map : ∀ ns : List Int, allI (ns.map D.int) = some ns
  | [] => rfl
  | n :: ns => by
    rw [List.map_cons]
    unfold allI
    rw [allI_map ns]
    rfl
section
variable {S : Store} {Q : D → Store → Prop}
theorem wp_mnd {mx : Bool} {ns : List Int} {d : D} : wp (opSem (.mnd mx) [.lst (ns.map D.int), d]) S Q = Q (match ns with
    | [] => d
    | n :: ns => .int (pickI mx n ns)) S := by
  show wp (match allI (ns.map D.int) with
    | some (n :: ns) => M.ret (D.int (pickI mx n ns))
    | some [] => M.ret d
    | none => M.stk) S Q = _
  rw [allI_map]
  cases ns <;> rfl
theorem wp_minL {n : Int} {ns : List Int} : wp (opSem (.bi .min) [.lst ((n :: ns).map D.int)]) S Q = Q (.int (pickI false n ns)) S := by
  show wp (match allI ((n :: ns).map D.int) with
    | some (n :: ns) => M.ret (D.int (pickI false n ns))
    | _ => M.stk) S Q = _
  rw [allI_map]
  rfl
theorem wp_maxL {n : Int} {ns : List Int} : wp (opSem (.bi .max) [.lst ((n :: ns).map D.int)]) S Q = Q (.int (pickI true n ns)) S := by
  show wp (match allI ((n :: ns).map D.int) with
    | some (n :: ns) => M.ret (D.int (pickI true n ns))
    | _ => M.stk) S Q = _
  rw [allI_map]
  rfl
end
end Z

/-! ZH: letters, parts, heaps; the drawing of heaps (the helpers of most laws), for any places of the defs -/
namespace Z
open PySem
section
variable {gl : Nat → Option D} {prog : List Fn} {S T : Store} {Q : D → Store → Prop} {k : Nat}
def abc : Str := "abcdefghijklmnopqrstuvwxyz"
def letB : D → Bool
  | .str z => (match z.cps.toList with
    | [c] => decide (c ∈ abc.cps.toList)
    | _ => false)
  | _ => false
def witB (lo hi : Int) : D → Bool
  | .int i => decide (lo ≤ i) && decide (i ≤ hi)
  | _ => false
def withinC : List Cmd := [
  .ret false (.bool true [(.op (.isi .int) [(.var 0)]), (.not (.op (.isi .bool) [(.var 0)])), (.chain .LtE .LtE (.var 1) (.var 0) (.var 2))])]
def letterC (e : E) : List Cmd := [.ret false (.bool true [(.op (.isi .str) [(.var 0)]), (.op (.cmp .Eq) [(.op (.bi .len) [(.var 0)]), (.const (.int 1))]), (.op (.cmp .In) [(.var 0), e])])]
def partC (w l h : Nat) (e : E) : List Cmd := [
          .ifs false (.bool false [(.not (.op (.isi .tuple) [(.var 0)])), (.op (.cmp .NotEq) [(.op (.bi .len) [(.var 0)]), (.const (.int 3))])]) [.ret false (.const (.bl false))] [],
          .ret false (.bool true [(.call w [(.op .ix [(.var 0), (.const (.int 0))]), (.const (.int 1)), e]), (.call l [(.op .ix [(.var 0), (.const (.int 1))])]), (.call h [(.op .ix [(.var 0), (.const (.int 2))])])])]
def heapC0 (p j : Nat) : Cmd := .ifs false (.bool false [(.not (.op (.isi .tuple) [(.var 0)])), (.not (.op (.bi .all) [(.comp [j] (.call p [(.var j)]) (.name j) .val [(.var 0)] [])]))]) [.ret false (.const (.bl false))] []
def heapCA (p : Nat) : List Cmd := [heapC0 p 3, .ret false (zE .LtE)]
def heapCB (p : Nat) : List Cmd := [heapC0 p 1, .ret false (.op (.cmp .Eq) [(.op (.bi .list) [(.var 0)]), (.op (.bi .sorted) [(.var 0)])])]
def IsConst (gl : Nat → Option D) (e : E) (d : D) : Prop := ∀ (cal : Nat → List D → M D) (env : Env) (S : Store) (Q : D → Store → Prop), wp (evalE gl cal e env) S Q = Q d S
theorem isConst {d : D} : IsConst gl (.const d) d := fun _ _ _ _ => wp_const
theorem isGlob {g : Nat} {d : D} (h : gl g = some d) : IsConst gl (.glob g) d := fun _ _ _ _ => wp_glob h
/-- is_within, is_letter, is_part, is_heap, where they stand -/
structure HeapF (gl : Nat → Option D) (prog : List Fn) (w l p h : Nat) (el es : E) (A : Bool) : Prop where
  atW : prog[w]? = some ⟨3, 3, withinC⟩
  atL : prog[l]? = some ⟨1, 1, letterC el⟩
  atP : prog[p]? = some ⟨1, 1, partC w l h es⟩
  atH : prog[h]? = some (if A = true then ⟨1, 4, heapCA p⟩ else ⟨1, 2, heapCB p⟩)
  isL : IsConst gl el (.str abc)
  isS : IsConst gl es (.int 3)
theorem wp_within {f : Nat} (e : prog[f]? = some ⟨3, 3, withinC⟩) {v : D} {lo hi : Int} (h : v.dat = true) : wp (run gl prog (k + 1) f [v, .int lo, .int hi]) S Q = Q (.bl (witB lo hi v)) S := by
  rw [wp_run e rfl]
  show wp (execs _ _ withinC [.val v, .val (.int lo), .val (.int hi)]) S _ = _
  simp only [withinC, wp_xret, wp_read, wp_fitF, wp_boolE, wp_bool2, wp_bool1, wp_op, wp_cons, wp_nil, wp_varM, wp_not, wp_chain, Fr.env, Bool.false_eq_true, if_false, List.map_cons, List.map_nil, List.getElem?_cons_zero, List.getElem?_cons_succ, Slot.str, wp_isi h, wp_truthB]
  cases v with
  | int i =>
    simp only [isD, isT, if_true, Bool.not_false, wp_leI, wp_truthB]
    unfold witB
    by_cases h1 : lo ≤ i
    · simp [h1]
    · simp [h1]
  | bl b => rfl
  | loc _ => cases h
  | scr _ => cases h
  | _ => rfl
theorem in_abc {z w : Str} : z.length = 1 → wp (cmpSem .In (.str z) (.str w)) S Q = Q (.bl (match z.cps.toList with
    | [c] => decide (c ∈ w.cps.toList)
    | _ => false)) S := by
  intro hl
  have hl2 : z.cps.toList.length = 1 := by rw [Array.length_toList]; exact hl
  match hz : z.cps.toList, hl2 with
  | [c], _ =>
    have e : cmpSem .In (.str z) (.str w) = okB (decide (c ∈ w.cps.toList)) := by
      simp only [cmpSem, hz]
    rw [e]
    rfl
theorem let_len {z : Str} (h : z.length ≠ 1) : letB (.str z) = false := by
  have hl : z.cps.toList.length = z.length := by rw [Array.length_toList]; rfl
  match hz : z.cps.toList with
  | [] => simp only [letB, hz]
  | [c] => rw [hz] at hl; exact absurd hl.symm h
  | a :: b :: r => simp only [letB, hz]
theorem wp_letter {f : Nat} {e : E} (hf : prog[f]? = some ⟨1, 1, letterC e⟩) (he : IsConst gl e (.str abc)) {v : D} (h : v.dat = true) : wp (run gl prog (k + 1) f [v]) S Q = Q (.bl (letB v)) S := by
  rw [wp_run hf rfl]
  show wp (execs _ _ (letterC e) [.val v]) S _ = _
  have he : ∀ (Q : D → Store → Prop) S, wp (evalE gl (run gl prog k) e [some v]) S Q = Q (.str abc) S := fun Q S => he _ _ _ _
  simp only [letterC, wp_xret, wp_read, wp_fitF, wp_boolE, wp_bool2, wp_bool1, wp_op, wp_cons, wp_nil, wp_varM, wp_const, wp_not, wp_chain, Fr.env, Bool.false_eq_true, if_false, List.map_cons, List.map_nil, List.getElem?_cons_zero, List.getElem?_cons_succ, Slot.str, wp_isi h, wp_truthB]
  cases v with
  | str z =>
    simp only [isD, isT, if_true, wp_lenS, wp_cmp, wp_eqI, wp_truthB, he]
    by_cases hl : z.length = 1
    · have hl2 : (z.length : Int) = 1 := by omega
      rw [if_pos (decide_eq_true hl2), in_abc hl]
      rfl
    · have hl2 : ¬ (z.length : Int) = 1 := by omega
      rw [if_neg (by simpa using hl2), let_len hl, decide_eq_false hl2]
  | loc _ => cases h
  | scr _ => cases h
  | _ => rfl
/-! ### heaps -/
mutual
def partB : D → Bool
  | .tup xs => part3 xs
  | _ => false
def part3 : List D → Bool
  | a :: xs => witB 1 3 a && part2 xs
  | [] => false
def part2 : List D → Bool
  | b :: xs => letB b && part1 xs
  | [] => false
def part1 : List D → Bool
  | c :: xs => heapB c && xs.isEmpty
  | [] => false
def heapB : D → Bool
  | .tup xs => partsB xs && adjLe xs
  | _ => false
def partsB : List D → Bool
  | [] => true
  | x :: xs => partB x && partsB xs
end
theorem parts_all : ∀ xs : List D, partsB xs = xs.all partB
  | [] => by simp [partsB]
  | x :: xs => by rw [partsB, parts_all xs, List.all_cons]
theorem part_of {v : D} (h : partB v = true) : ∃ (i : Int) (z : Str) (c : D), v = .tup [.int i, .str z, c] ∧ heapB c = true := by
  cases v with
  | tup xs =>
    simp only [partB] at h
    match xs, h with
    | a :: xs, h =>
      simp only [part3, Bool.and_eq_true] at h
      match xs, h with
      | b :: xs, h =>
        simp only [part2, Bool.and_eq_true] at h
        match xs, h with
        | c :: xs, h =>
          simp only [part1, Bool.and_eq_true] at h
          obtain ⟨h1, h2, h3, h4⟩ := h
          match xs, h4 with
          | [], _ =>
            cases a with
            | int i =>
              cases b with
              | str z => exact ⟨i, z, c, rfl, h3⟩
              | _ => cases h2
            | _ => cases h1
        | [], h => simp [part1] at h
      | [], h => simp [part2] at h
    | [], h => simp [part3] at h
  | _ => simp [partB] at h
theorem alike_tup {xs ys : List D} : PySem.W.alike (D.tup xs).py (D.tup ys).py = PySem.W.alikeAll (D.pys xs) (D.pys ys) := by
  show PySem.W.alike (.tuple (D.pys xs)) (.tuple (D.pys ys)) = _
  rw [PySem.W.alike]
theorem al_cons {x y : D} {xs ys : List D} : PySem.W.alikeAll (D.pys (x :: xs)) (D.pys (y :: ys)) = (PySem.W.alike x.py y.py && PySem.W.alikeAll (D.pys xs) (D.pys ys)) := by
  rw [D.pys, D.pys, PySem.W.alikeAll]
/-- heaps, parts are alike -/
theorem heap_alike : ∀ (n : Nat) (a b : D), a.dep ≤ n → (heapB a = true → heapB b = true → PySem.W.alike a.py b.py = true) ∧ (partB a = true → partB b = true → PySem.W.alike a.py b.py = true)
  | n, a, b, hn => by
    have parts : ∀ (m : Nat), (∀ a b : D, a.dep ≤ m → partB a = true → partB b = true → PySem.W.alike a.py b.py = true) → ∀ xs ys : List D, D.deps xs ≤ m → partsB xs = true → partsB ys = true → PySem.W.alikeAll (D.pys xs) (D.pys ys) = true := by
      intro m ih xs
      induction xs with
      | nil => intro ys _ _ _; rw [D.pys]; cases D.pys ys <;> rw [PySem.W.alikeAll]
      | cons x xs ihx =>
        intro ys hd h1 h2
        cases ys with
        | nil => rw [D.pys, D.pys, PySem.W.alikeAll]
        | cons y ys =>
          rw [al_cons, Bool.and_eq_true]
          simp only [partsB, Bool.and_eq_true] at h1 h2
          have hd := deps_le.mp hd
          exact ⟨ih x y (hd x (by simp)) h1.1 h2.1, ihx ys (deps_le.mpr fun z m => hd z (by simp [m])) h1.2 h2.2⟩
    refine ⟨fun h1 h2 => ?_, fun h1 h2 => ?_⟩
    · cases a with
      | tup xs =>
        cases b with
        | tup ys =>
          simp only [heapB, Bool.and_eq_true] at h1 h2
          rw [alike_tup]
          rw [D.dep] at hn
          cases n with
          | zero => omega
          | succ n => exact parts n (fun a b h => (heap_alike n a b h).2) xs ys (by omega) h1.1 h2.1
        | _ => simp [heapB] at h2
      | _ => simp [heapB] at h1
    · obtain ⟨i, z, c, rfl, hc⟩ := part_of h1
      obtain ⟨j, w, d, rfl, hd⟩ := part_of h2
      have hdep : c.dep + 1 ≤ n := by
        rw [D.dep] at hn
        have := deps_le.mp (Nat.le_refl (D.deps [D.int i, .str z, c])) c (by simp)
        omega
      rw [alike_tup, al_cons, al_cons, al_cons]
      have e1 : PySem.W.alike (D.int i).py (D.int j).py = true := by
        show PySem.W.alike (.int i) (.int j) = true
        rw [PySem.W.alike]
      have e2 : PySem.W.alike (D.str z).py (D.str w).py = true := by
        show PySem.W.alike (.str z) (.str w) = true
        rw [PySem.W.alike]
      have e3 : PySem.W.alikeAll (D.pys []) (D.pys []) = true := by rw [D.pys, PySem.W.alikeAll]
      cases n with
      | zero => omega
      | succ n => rw [e1, e2, (heap_alike n c d (by omega)).1 hc hd, e3]; rfl
termination_by n => n
theorem heap_notI {x : D} (h : partB x = true) : notI x = true := by
  obtain ⟨i, z, c, rfl, _⟩ := part_of h
  rfl
theorem part_okC {x y : D} (h1 : partB x = true) (h2 : partB y = true) (d1 : x.dat = true) (d2 : y.dat = true) (hd : x.dep ≤ many) : okC x y = true := by
  unfold okC alk
  rw [d1, d2, (heap_alike x.dep x y (Nat.le_refl _)).2 h1 h2]
  obtain ⟨i, z, c, rfl, _⟩ := part_of h1
  simp only [Bool.true_and, Bool.and_true, decide_eq_true_eq]
  omega
theorem if_not {b c : Bool} {P : D → Store → Prop} : (if b = true then P (.bl false) S else P (.bl c) S) = P (.bl (!b && c)) S := by cases b <;> rfl
/-- is_part, is_heap -/
theorem wp_heap {w l p h : Nat} {el es : E} {A : Bool} (F : HeapF gl prog w l p h el es A) : ∀ (n k : Nat) (v : D), v.dat = true → v.dep ≤ n → n ≤ many →
    (∀ (S : Store) (Q : D → Store → Prop), wp (run gl prog (2 * n + 3 + k) h [v]) S Q = Q (.bl (heapB v)) S) ∧ ∀ (S : Store) (Q : D → Store → Prop), wp (run gl prog (2 * n + 2 + k) p [v]) S Q = Q (.bl (partB v)) S
  | n, k, v, hd, hn, hm => by
    have hpart : ∀ (S : Store) (Q : D → Store → Prop), wp (run gl prog (2 * n + 2 + k) p [v]) S Q = Q (.bl (partB v)) S := by
      intro S Q
      have hx : ∀ {ex : E} {fi : Nat → List D → M D}, (∀ (Q : D → Store → Prop) S, wp (evalE gl (run gl prog (2 * n + 1 + k)) ex [some v]) S Q = Q (.int 3) S) → wp (execs gl (run gl prog (2 * n + 1 + k)) (partC w l h ex) [.val v]) S (fun o S => (match o with
          | .ret d => Q d S
          | .nx _ => Q .non S
          | _ => False)) = Q (.bl (partB v)) S := by
        intro ex fi he
        simp only [partC, wp_xif0, wp_xret, wp_read, wp_fitF, wp_boolE, wp_bool2, wp_bool1, wp_op, wp_cons, wp_nil, wp_varM, wp_const, wp_not, Fr.env, Bool.false_eq_true, if_false, List.map_cons, List.map_nil, List.getElem?_cons_zero, List.getElem?_cons_succ, Slot.str, wp_isi hd, wp_truthB]
        cases v with
        | tup xs =>
          simp only [isD, isT, Bool.not_true, if_true, wp_lenT, wp_cmp, wp_neI, wp_truthB]
          by_cases hl : xs.length = 3
          · have hl2 : (xs.length : Int) = 3 := by omega
            simp only [decide_eq_true hl2, Bool.not_true, Bool.false_eq_true, if_false, wp_call, wp_cons, wp_nil, wp_op, wp_varM, wp_const, List.getElem?_cons_zero, he]
            match xs, hl with
            | [a, b, c], _ =>
              have hdd : a.dat = true ∧ b.dat = true ∧ c.dat = true := by
                simp only [D.dat, D.dats, Bool.and_eq_true] at hd
                exact ⟨hd.1, hd.2.1, hd.2.2.1⟩
              rw [wp_ixT (xs := [a, b, c]) (i := 0) (d := a) rfl]
              have ew : (run gl prog (2 * n + 1 + k)) = run gl prog (2 * n + k + 1) := by rw [show 2 * n + 1 + k = 2 * n + k + 1 by omega]
              rw [ew, wp_within F.atW hdd.1]
              simp only [wp_truthB]
              have hb : partB (.tup [a, b, c]) = (witB 1 3 a && (letB b && heapB c)) := by
                simp [partB, part3, part2, part1]
              rw [hb]
              by_cases h1 : witB 1 3 a = true
              · rw [if_pos h1, wp_ixT (xs := [a, b, c]) (i := 1) (d := b) rfl, wp_letter F.atL F.isL hdd.2.1]
                simp only [wp_truthB]
                by_cases h2 : letB b = true
                · rw [if_pos h2, wp_ixT (xs := [a, b, c]) (i := 2) (d := c) rfl]
                  have hdep : c.dep + 1 ≤ n := by
                    rw [D.dep] at hn
                    have := deps_le.mp (Nat.le_refl (D.deps [a, b, c])) c (by simp)
                    omega
                  cases n with
                  | zero => omega
                  | succ m =>
                    have := (wp_heap F m k c hdd.2.2 (by omega) (by omega)).1 S fun d S => wp (truth d) S fun b S => Q (.bl b) S
                    rw [show 2 * (m + 1) + k + 1 = 2 * m + 3 + k by omega, this, h1, h2]
                    rfl
                · rw [if_neg h2, h1, Bool.eq_false_iff.mpr h2]
                  rfl
              · rw [if_neg h1, Bool.eq_false_iff.mpr h1]
                rfl
          · have hl2 : ¬ (xs.length : Int) = 3 := by omega
            have hb : partB (.tup xs) = false := by
              rcases xs with _ | ⟨a, _ | ⟨b, _ | ⟨c, _ | ⟨d, r⟩⟩⟩⟩ <;> first | (exact absurd rfl hl) | simp [partB, part3, part2, part1]
            rw [hb, decide_eq_false hl2]
            rfl
        | loc _ => cases hd
        | scr _ => cases hd
        | _ => simp only [partB]; rfl
      rw [show 2 * n + 2 + k = (2 * n + 1 + k) + 1 by omega, wp_run F.atP rfl]
      exact hx (fi := run gl prog 0) fun Q S => F.isS _ _ _ _
    refine ⟨?_, hpart⟩
    intro S Q
    -- the first half: all parts are parts
    have hx : ∀ {j : Nat} {cs : List Cmd} {fr : Fr} {QO : Out → Store → Prop}, j < (fr.env false).length → (fr.env false)[0]? = some (some v) → (∀ xs, v = .tup xs → partsB xs = true → wp (execs gl (run gl prog (2 * n + 2 + k)) cs fr) S QO = QO (.ret (.bl (adjLe xs))) S) →
        wp (execs gl (run gl prog (2 * n + 2 + k)) (.ifs false (.bool false [(.not (.op (.isi .tuple) [(.var 0)])), (.not (.op (.bi .all) [(.comp [j] (.call p [(.var j)]) (.name j) .val [(.var 0)] [])]))]) [.ret false (.const (.bl false))] [] :: cs) fr) S QO = QO (.ret (.bl (heapB v))) S := by
      intro j cs fr QO hj h0 hcs
      have e1 : ∀ S (Q : D → Store → Prop), wp (evalE gl (run gl prog (2 * n + 2 + k)) (.op (.isi .tuple) [(.var 0)]) (fr.env false)) S Q = Q (.bl (isD .tuple v)) S := fun S Q => by
        simp only [wp_op, wp_cons, wp_nil, wp_varM, h0, wp_isi hd]
      rw [wp_xif0]
      simp only [wp_read, wp_fitF, wp_boolE, wp_bool2, wp_bool1, wp_not, e1, wp_truthB]
      have ret : ∀ S, (wp (execs gl (run gl prog (2 * n + 2 + k)) [.ret false (.const (.bl false))] fr) S fun o S => (match o with
          | .nx fr' => wp (execs gl (run gl prog (2 * n + 2 + k)) cs fr') S QO
          | o => QO o S)) = QO (.ret (.bl false)) S := fun S => by
        simp only [wp_xret, wp_read, wp_fitF, wp_const]
      cases v with
      | tup xs =>
        simp only [isD, isT, Bool.not_true, if_true]
        rw [wp_allCall (v := .tup xs) (xs := xs) (g := partB) hj (fun Q => by rw [wp_varM, h0]) (fun QL => wp_srcT) fun x m => ?_]
        · simp only [wp_truthB]
          have hb : heapB (.tup xs) = (xs.all partB && adjLe xs) := by rw [heapB, parts_all]
          rw [hb]
          by_cases hp : xs.all partB = true
          · rw [hp, hcs xs rfl (by rw [parts_all]; exact hp)]
            rfl
          · rw [Bool.eq_false_iff.mpr hp]
            simp only [Bool.not_false, if_true, ret]
            rfl
        · have hdx : x.dat = true := dats_mem.mp (by simpa [D.dat] using hd) x m
          have hdep : x.dep + 1 ≤ n := by
            rw [D.dep] at hn
            have := deps_le.mp (Nat.le_refl (D.deps xs)) x m
            omega
          cases n with
          | zero => omega
          | succ n =>
            have z := (wp_heap F n (k + 2) x hdx (by omega) (by omega)).2 S
            rw [show 2 * n + 2 + (k + 2) = 2 * (n + 1) + 2 + k by omega] at z
            exact run_of z
      | loc _ => cases hd
      | scr _ => cases hd
      | _ =>
        simp only [heapB]
        exact ret S
    have facts : ∀ xs, v = .tup xs → partsB xs = true → (∀ x ∈ xs, x.dat = true) ∧ (∀ x ∈ xs, partB x = true) ∧ ∀ x ∈ xs, x.dep ≤ many := by
      rintro xs rfl hp
      refine ⟨dats_mem.mp (by simpa [D.dat] using hd), fun x m => ?_, fun x m => ?_⟩
      · rw [parts_all] at hp
        exact List.all_eq_true.mp hp x m
      · rw [D.dep] at hn
        have := deps_le.mp (Nat.le_refl (D.deps xs)) x m
        omega
    rw [show 2 * n + 3 + k = (2 * n + 2 + k) + 1 by omega]
    have hh := F.atH
    cases A with
    | true =>
      rw [if_pos rfl] at hh
      rw [wp_run hh rfl]
      refine (hx (j := 3) (cs := [.ret false (zE .LtE)]) (fr := [.val v, .no, .no, .no]) (by show 3 < 4; omega) rfl fun xs hv hp => ?_).trans rfl
      obtain ⟨f1, f2, f3⟩ := facts xs hv hp
      subst hv
      rw [wp_xret, wp_read]
      show wp (evalE _ _ (zE .LtE) [some (.tup xs), none, none, none]) S _ = _
      rw [wp_zipAll (xs := xs) (v' := .tup (xs.drop 1)) (xs' := xs.drop 1) (g := leD) rfl (fun Q => wp_slFT (by omega)) rfl fun a ma b mb => ?_]
      · rw [wp_fitF, adj_zip]
      · have mb := List.mem_of_mem_drop mb
        exact cmp_of fun Q => wp_le_ (heap_notI (f2 a ma)) (part_okC (f2 a ma) (f2 b mb) (f1 a ma) (f1 b mb) (f3 a ma))
    | false =>
      rw [if_neg (by decide)] at hh
      rw [wp_run hh rfl]
      refine (hx (j := 1) (cs := [.ret false (.op (.cmp .Eq) [(.op (.bi .list) [(.var 0)]), (.op (.bi .sorted) [(.var 0)])])]) (fr := [.val v, .no]) (by show 1 < 2; omega) rfl fun xs hv hp => ?_).trans rfl
      obtain ⟨f1, f2, f3⟩ := facts xs hv hp
      subst hv
      have al : ∀ x ∈ xs, ∀ y ∈ xs, PySem.W.alike x.py y.py = true := fun x m y m' => (heap_alike x.dep x y (Nat.le_refl _)).2 (f2 x m) (f2 y m')
      have so : sortOk xs = true := by
        unfold sortOk
        simp only [Bool.and_eq_true, decide_eq_true_eq]
        refine ⟨dats_mem.mpr f1, ?_, ?_, deps_le.mpr f3⟩
        · unfold alikeD
          simp only [List.all_eq_true]
          exact al
        · unfold sortable
          rw [Bool.or_eq_true]
          refine .inl (List.all_eq_true.mpr fun x m => ?_)
          obtain ⟨i, z, c, rfl, _⟩ := part_of (f2 x m)
          rfl
      simp only [wp_xret, wp_read, wp_fitF, wp_op, wp_cons, wp_nil, wp_varM, Fr.env, Bool.false_eq_true, if_false, List.map_cons, List.map_nil, List.getElem?_cons_zero, Slot.str, wp_listT, wp_sortT so, wp_cmp]
      have ok : okD (.lst xs) (.lst (sortD xs)) = true := by
        unfold okD
        simp only [D.dat, D.dep, Bool.and_eq_true, decide_eq_true_eq]
        have e1 : ∀ x, x ∈ sortD xs ↔ x ∈ xs := fun x => List.mem_mergeSort
        refine ⟨⟨dats_mem.mpr f1, dats_mem.mpr fun x m => f1 x ((e1 x).mp m)⟩, ?_⟩
        have : D.deps xs + 1 ≤ many := by
          rw [D.dep] at hn
          omega
        exact decide_eq_true (Nat.le_trans (Nat.min_le_left _ _) this)
      rw [wp_eq_ ok, eqv_sorted al]
termination_by n => n
end
end Z

/-! ZH2: heaps drawn; things bent -/
namespace Z
open PySem
section
variable {gl : Nat → Option D} {prog : List Fn} {S T : Store} {Q : D → Store → Prop} {k : Nat}
def ofC (pl : Nat) : List Cmd := [.ret false (.op .ix [(.var 1), (.call pl [(.var 0), (.op (.bi .len) [(.var 1)])])])]
def oddC (ol : Nat) : List Cmd := [
  .ret false (.call ol [(.var 0), (.op .lst [(.const .non), (.const (.bl true)), (.const (.bl false)), (.const (.int 0)), (.const (.int 1)), (.const (.int 2)), (.const (.int 3)), (.const (.int 4)), (.op .neg [(.const (.int 1))]), (.const (.int 7)), (.const (.str "")), (.const (.str "a")), (.const (.str "b")), (.const (.str "A")), (.const (.str "ab")), (.const (.str "1")), (.op .tup []), (.op .lst []), (.op .tup [(.const (.int 1)), (.const (.str "a"))]), (.op .lst [(.const (.int 1))]), (.op .tup [(.const (.int 0))]), (.op .tup [(.const (.int 1))]), (.const (.str "z")), (.op .tup [(.const (.int 2)), (.const (.int 1))]), (.op .tup [(.const (.int 1)), (.const (.int 1))]), (.op .tup [(.const .non)])])])]
def bentC (pl dl tl : Nat) : List Cmd := [
  .ifs false (.bool false [(.not (.op (.isi .tuple) [(.var 1)])), (.op (.cmp .Eq) [(.var 1), (.op .tup [])]), (.op (.cmp .Eq) [(.call pl [(.var 0), (.const (.int 3))]), (.const (.int 0))])]) [.ret false (.call dl [(.var 0)])] [],
  .par false [2, 3] [(.call pl [(.var 0), (.op (.bi .len) [(.var 1)])]), (.call pl [(.var 0), (.const (.int 5))])],
  .ifs false (.op (.cmp .Eq) [(.var 3), (.const (.int 0))]) [.ret false (.op (.bin .Add) [(.op (.slice false true) [(.var 1), (.var 2)]), (.op (.slice true false) [(.var 1), (.op (.bin .Add) [(.var 2), (.const (.int 1))])])])] [],
  .ifs false (.op (.cmp .Eq) [(.var 3), (.const (.int 1))]) [.ret false (.op (.bin .Add) [(.op (.bin .Add) [(.op (.slice false true) [(.var 1), (.var 2)]), (.op .tup [(.op .ix [(.var 1), (.var 2)])])]), (.op (.slice true false) [(.var 1), (.var 2)])])] [],
  .ifs false (.op (.cmp .Eq) [(.var 3), (.const (.int 2))]) [.ret false (.op (.bi .list) [(.var 1)])] [],
  .ifs false (.op (.cmp .Eq) [(.var 3), (.const (.int 3))]) [.ret false (.op .rev [(.var 1)])] [],
  .ret false (.op (.bin .Add) [(.op (.bin .Add) [(.op (.slice false true) [(.var 1), (.var 2)]), (.op .tup [(.call tl [(.var 0), (.op .ix [(.var 1), (.var 2)])])])]), (.op (.slice true false) [(.var 1), (.op (.bin .Add) [(.var 2), (.const (.int 1))])])])]
def builtC (bl : Nat) : List Cmd := [
  .ret false (.op (.bi .tuple) [(.op (.bi .sorted) [(.comp [2, 3] (.op .tup [(.op .ix [(.var 3), (.const (.int 1))]), (.op .ix [(.var 3), (.const (.int 2))]), (.call bl [(.var 0), (.var 2)])]) (.tup [(.name 2), (.name 3)]) .enum [(.var 0)] [(.op (.cmp .Eq) [(.op .ix [(.var 3), (.const (.int 0))]), (.var 1)])])])])]
def drawC (pl ol bl : Nat) : List Cmd := [
  .own 5 [],
  .for_ (.name 6) .range1 [(.var 3)] [.asg false (.name 7) (.op (.bin .Sub) [(.call pl [(.var 0), (.op (.bin .Add) [(.var 6), (.const (.int 1))])]), (.const (.int 1))]), .asg true (.name 8) (.ife (.op (.cmp .Lt) [(.var 7), (.const (.int 0))]) (.const (.int 0)) (.op (.bin .Add) [(.op .ix [(.op .ix [(.var 5), (.var 7)]), (.const (.int 3))]), (.const (.int 1))])), .ifs false (.op (.cmp .GtE) [(.var 8), (.var 4)]) [.asg false (.tup [(.name 7), (.name 8)]) (.op .tup [(.op .neg [(.const (.int 1))]), (.const (.int 0))])] [], .app false 5 (.op .lst [(.var 7), (.op (.bin .Add) [(.const (.int 1)), (.call pl [(.var 0), (.var 2)])]), (.call ol [(.var 0), (.var 1)]), (.var 8)])],
  .frz 5,
  .ret false (.call bl [(.var 5), (.op .neg [(.const (.int 1))])])]
def anyC (pl ol hl : Nat) : List Cmd := [
  .asg false (.name 4) (.call hl [(.var 0), (.var 1), (.var 2), (.call pl [(.var 0), (.op (.bin .Add) [(.var 3), (.const (.int 1))])]), (.op (.bin .Add) [(.const (.int 1)), (.call pl [(.var 0), (.const (.int 5))])])]),
  .ifs false (.bool true [(.op (.cmp .NotEq) [(.var 4), (.op .tup [])]), (.op (.cmp .Eq) [(.call pl [(.var 0), (.const (.int 3))]), (.const (.int 0))])]) [.asg false (.name 4) (.op (.bi .tuple) [(.op (.bi .sorted) [(.op (.bin .Add) [(.var 4), (.op .tup [(.call ol [(.var 0), (.var 4)])])])])])] [],
  .ret false (.var 4)]
def odds : List D := [.non, .bl true, .bl false, .int 0, .int 1, .int 2, .int 3, .int 4, .int (-1), .int 7, .str "", .str "a", .str "b", .str "A", .str "ab", .str "1", .tup [], .lst [], .tup [.int 1, .str "a"], .lst [.int 1], .tup [.int 0], .tup [.int 1], .str "z", .tup [.int 2, .int 1], .tup [.int 1, .int 1], .tup [.non]]
theorem odds_fit : odds.all (fitB 2 2) = true := by decide +kernel
theorem wp_odd {pl ol dl : Nat} (hp : prog[pl]? = some ⟨2, 5, pullB⟩) (ho : prog[ol]? = some ⟨2, 2, ofC pl⟩) (hd : prog[dl]? = some ⟨1, 1, oddC ol⟩) (hB : Bag T S) (q : ∀ x S', Bag T S' → Fit 2 2 x → Q x S') : wp (run gl prog (k + 3) dl [.loc 0]) S Q := by
  rw [wp_run hd rfl]
  show wp (execs _ _ (oddC ol) [.val (.loc 0)]) S _
  have t0 : ∀ {S : Store} {Q : D → Store → Prop}, wp (opSem .tup []) S Q = Q (.tup []) S := wp_tup (Nat.zero_le _)
  have t1 : ∀ {S : Store} {Q : D → Store → Prop} {a : D}, wp (opSem .tup [a]) S Q = Q (.tup [a]) S := wp_tup (by show 1 ≤ 16777216; omega)
  have t2 : ∀ {S : Store} {Q : D → Store → Prop} {a b : D}, wp (opSem .tup [a, b]) S Q = Q (.tup [a, b]) S := wp_tup (by show 2 ≤ 16777216; omega)
  have l0 : ∀ {S : Store} {Q : D → Store → Prop}, wp (opSem .lst []) S Q = Q (.lst []) S := wp_lst (Nat.zero_le _)
  have l1 : ∀ {S : Store} {Q : D → Store → Prop} {a : D}, wp (opSem .lst [a]) S Q = Q (.lst [a]) S := wp_lst (by show 1 ≤ 16777216; omega)
  have ll : ∀ {S : Store} {Q : D → Store → Prop}, wp (opSem .lst odds) S Q = Q (.lst odds) S := wp_lst (by show 26 ≤ 16777216; omega)
  have ol : ∀ (d : D), D.lst [.non, .bl true, .bl false, .int 0, .int 1, .int 2, .int 3, .int 4, .int (-1), .int 7, .str "", .str "a", .str "b", .str "A", .str "ab", .str "1", .tup [], .lst [], .tup [.int 1, .str "a"], .lst [.int 1], .tup [.int 0], .tup [.int 1], .str "z", .tup [.int 2, .int 1], .tup [.int 1, .int 1], .tup [.non]] = .lst odds := fun _ => rfl
  unfold odds at ll
  simp only [oddC, wp_xret, wp_read, wp_fitF, wp_call, wp_op, wp_cons, wp_nil, wp_varM, wp_const, Fr.env, Bool.false_eq_true, if_false, List.map_cons, List.map_nil, List.getElem?_cons_zero, Slot.str, wp_neg, t0, t1, t2, l0, l1, ll]
  refine wp_ofL (xs := odds) ho hp (by show 0 < 26; omega) (by show 26 < 1073741824; omega) hB fun x S' hB' m => q x S' hB' ?_
  exact fit_by (List.all_eq_true.mp odds_fit x m)
theorem eq_unit {v : D} (h : v.dat = true) : wp (cmpSem .Eq v (.tup [])) S Q = Q (.bl (eqD v (.tup []))) S := wp_eq_ (by
  unfold okD
  rw [h]
  show (true && true && decide (min v.dep 1 ≤ many)) = true
  simp only [Bool.and_true, Bool.true_and]
  exact decide_eq_true (Nat.le_trans (Nat.min_le_right _ _) (by show 1 ≤ 200; omega)))
theorem eqD_unit {xs : List D} : eqD (.tup xs) (.tup []) = xs.isEmpty := by
  show PyData.eqv (.tuple (D.pys xs)) (.tuple (D.pys [])) = _
  rw [PyData.eqv, D.pys]
  cases xs with
  | nil => rw [D.pys, PyData.eqvAll]; rfl
  | cons x xs => rw [D.pys, PyData.eqvAll]; rfl
theorem wp_bent {pl ol dl tl : Nat} (hp : prog[pl]? = some ⟨2, 5, pullB⟩) (ho : prog[ol]? = some ⟨2, 2, ofC pl⟩) (hd : prog[dl]? = some ⟨1, 1, oddC ol⟩) (ht : prog[tl]? = some ⟨2, 4, bentC pl dl tl⟩) {w : Nat} (hw : 2 ≤ w) (hw2 : w < 1000) : ∀ (n k : Nat) (v : D) (S : Store) (Q : D → Store → Prop), Fit w n v → Bag T S → (∀ x S', Bag T S' → Fit (w + 1) (n + 2) x → Q x S') → wp (run gl prog (n + 4 + k) tl [.loc 0, v]) S Q
  | n, k, v, S, Q, hv, hB, q => by
    rw [show n + 4 + k = (n + 3 + k) + 1 by omega, wp_run ht rfl]
    show wp (execs _ (run gl prog (n + 3 + k)) (bentC pl dl tl) [.val (.loc 0), .val v, .no, .no]) S _
    have odd : ∀ S, Bag T S → wp (run gl prog (n + 3 + k) dl [.loc 0]) S (fun d S => Q d S) := fun S hB => by
      rw [show n + 3 + k = (n + k) + 3 by omega]
      exact wp_odd hp ho hd hB fun x S' hB' hx => q x S' hB' (hx.mono (by omega) (by omega))
    have t0 : ∀ {S : Store} {Q : D → Store → Prop}, wp (opSem .tup []) S Q = Q (.tup []) S := wp_tup (Nat.zero_le _)
    have t1 : ∀ {S : Store} {Q : D → Store → Prop} {a : D}, wp (opSem .tup [a]) S Q = Q (.tup [a]) S := wp_tup (by show 1 ≤ 16777216; omega)
    simp only [bentC, wp_xif0, wp_xret, wp_read, wp_fitF, wp_boolE, wp_bool2, wp_bool1, wp_not, wp_call, wp_op, wp_cons, wp_nil, wp_varM, wp_const, Fr.env, Bool.false_eq_true, if_false, List.map_cons, List.map_nil, List.getElem?_cons_zero, List.getElem?_cons_succ, Slot.str, wp_isi hv.dat, wp_truthB, t0, wp_cmp, eq_unit hv.dat]
    by_cases htt : isD .tuple v = true
    · simp only [htt, Bool.not_true, Bool.false_eq_true, if_false, if_true]
      cases v with
      | tup xs =>
        simp only [eqD_unit]
        have hl := hv.len
        cases hx : xs.isEmpty with
        | true =>
          simp only [Bool.true_eq_false, if_false, if_true]
          exact odd S hB
        | false =>
          have hpos : 0 < xs.length := by cases xs with
            | nil => cases hx
            | cons _ _ => exact Nat.succ_pos _
          simp only [if_true]
          rw [show n + 3 + k = (n + 2 + k) + 1 by omega] at odd ⊢
          refine wp_pull hp (by omega) (by omega) hB fun r S1 hB1 h1 h2 => ?_
          simp only [wp_eqI, wp_truthB]
          by_cases hr : r = 0
          · rw [if_pos (decide_eq_true hr)]
            exact odd S1 hB1
          · rw [if_neg (by simpa using hr)]
            simp only [wp_xpar, wp_readsF, wp_cons, wp_nil, wp_call, wp_op, wp_varM, wp_const, Fr.env, Bool.false_eq_true, if_false, List.map_cons, List.map_nil, List.getElem?_cons_zero, List.getElem?_cons_succ, Slot.str, wp_lenT]
            refine wp_pull hp (by omega) (by omega) hB1 fun at_ S2 hB2 a1 a2 => ?_
            refine wp_pull hp (by omega) (by omega) hB2 fun way S3 hB3 w1 w2 => ?_
            have e2 : ([D.int at_, D.int way] : List D).length = [2, 3].length := rfl
            rw [if_pos e2]
            have hfr : setAll [Slot.val (.loc 0), .val (.tup xs), .no, .no] ([2, 3].zip [Slot.val (.int at_), .val (.int way)]) = [.val (.loc 0), .val (.tup xs), .val (.int at_), .val (.int way)] := rfl
            rw [hfr]
            have hn := hv.pos
            obtain ⟨n', rfl⟩ : ∃ n', n = n' + 1 := ⟨n - 1, by omega⟩
            have hat : L2.atI xs at_ = some (xs[at_.toNat]'(by omega)) := atI_nat a1 (by omega)
            have hmem : xs[at_.toNat]'(by omega) ∈ xs := List.getElem_mem _
            generalize xs[at_.toNat]'(by omega) = y at hat hmem
            have hall : ∀ x ∈ xs, Fit (w + 1) (n' + 1) x := fun x m => (hv.mem m).mono (by omega) (by omega)
            simp only [wp_xif0, wp_xret, wp_read, wp_fitF, wp_call, wp_op, wp_cons, wp_nil, wp_varM, wp_const, Fr.env, Bool.false_eq_true, if_false, List.map_cons, List.map_nil, List.getElem?_cons_zero, List.getElem?_cons_succ, Slot.str, wp_cmp, wp_eqI, wp_truthB, wp_slTT a1, wp_add, wp_slFT (show (0 : Int) ≤ at_ + 1 by omega), wp_slFT a1, wp_ixT hat, t1, wp_listT, wp_rev]
            have hz : sizeLine = 16777216 := rfl
            have l1 : (xs.take at_.toNat).length ≤ w := by rw [List.length_take]; omega
            have l2 : (xs.drop (at_ + 1).toNat).length + at_.toNat + 1 = xs.length := by rw [List.length_drop]; omega
            have l3 : (xs.drop at_.toNat).length + at_.toNat = xs.length := by rw [List.length_drop]; omega
            have l4 : (xs.take at_.toNat).length = at_.toNat := by rw [List.length_take]; omega
            have m1 : ∀ x ∈ xs.take at_.toNat, x ∈ xs := fun x m => List.mem_of_mem_take m
            have m2 : ∀ x ∈ xs.drop (at_ + 1).toNat, x ∈ xs := fun x m => List.mem_of_mem_drop m
            have m3 : ∀ x ∈ xs.drop at_.toNat, x ∈ xs := fun x m => List.mem_of_mem_drop m
            split
            · rw [wp_addT (by omega)]
              refine q _ _ hB3 (Fit.mono (Fit.tup (w := w + 1) (n := n' + 1) (by rw [List.length_append]; omega) fun x m => ?_) (by omega) (by omega))
              rcases List.mem_append.mp m with m | m
              · exact hall x (m1 x m)
              · exact hall x (m2 x m)
            · split
              · rw [wp_addT (by rw [List.length_singleton]; omega), wp_addT (by rw [List.length_append, List.length_singleton]; omega)]
                refine q _ _ hB3 (Fit.mono (Fit.tup (w := w + 1) (n := n' + 1) (by rw [List.length_append, List.length_append, List.length_singleton]; omega) fun x m => ?_) (by omega) (by omega))
                rcases List.mem_append.mp m with m | m
                · rcases List.mem_append.mp m with m | m
                  · exact hall x (m1 x m)
                  · rw [List.mem_singleton.mp m]; exact hall y hmem
                · exact hall x (m3 x m)
              · split
                · exact q _ _ hB3 (Fit.mono (Fit.lst (w := w + 1) (n := n' + 1) hall) (by omega) (by omega))
                · split
                  · exact q _ _ hB3 (Fit.mono (Fit.tup (w := w + 1) (n := n' + 1) (by rw [List.length_reverse]; omega) fun x m => hall x (List.mem_reverse.mp m)) (by omega) (by omega))
                  · have ih := wp_bent hp ho hd ht hw hw2 n' (k) y S3
                    rw [show n' + 1 + 2 + k + 1 = n' + 4 + k by omega]
                    refine ih _ (hv.mem hmem) hB3 fun z S4 hB4 hz4 => ?_
                    rw [wp_addT (by rw [List.length_singleton]; omega), wp_addT (by rw [List.length_append, List.length_singleton]; omega)]
                    refine q _ _ hB4 (Fit.mono (Fit.tup (w := w + 1) (n := n' + 2) (by rw [List.length_append, List.length_append, List.length_singleton]; omega) fun x m => ?_) (by omega) (by omega))
                    rcases List.mem_append.mp m with m | m
                    · rcases List.mem_append.mp m with m | m
                      · exact (hall x (m1 x m)).mono (by omega) (by omega)
                      · rw [List.mem_singleton.mp m]; exact hz4
                    · exact (hall x (m2 x m)).mono (by omega) (by omega)
      | _ => cases htt
    · simp only [Bool.eq_false_iff.mpr htt, Bool.not_false, Bool.true_eq_false, if_false, if_true]
      exact odd S hB
def RowOk (i : Nat) (p : D) : Prop := ∃ (u j : Int) (c : Nat) (l : Int), p = .lst [.int u, .int j, .str ⟨#[c]⟩, .int l] ∧ -1 ≤ u ∧ u < i ∧ 1 ≤ j ∧ j ≤ 3 ∧ c ∈ abc.cps.toList
def RowsOk (ps : List D) : Prop := ∀ (i : Nat) (p : D), ps[i]? = some p → RowOk i p
theorem part_mk {j : Int} {c : Nat} {h : D} (h1 : 1 ≤ j) (h2 : j ≤ 3) (hc : c ∈ abc.cps.toList) (hh : heapB h = true) : partB (.tup [.int j, .str ⟨#[c]⟩, h]) = true := by
  have e : letB (.str ⟨#[c]⟩) = true := by
    show decide (c ∈ abc.cps.toList) = true
    exact decide_eq_true hc
  simp only [partB, part3, part2, part1, hh, e, witB, decide_eq_true h1, decide_eq_true h2, List.isEmpty_nil, Bool.and_true, Bool.true_and]
/-- parts put in order are a heap -/
theorem heap_sort {ys : List D} (h : ∀ y ∈ ys, partB y = true) : heapB (.tup (sortD ys)) = true := by
  rw [heapB, parts_all, Bool.and_eq_true]
  exact ⟨List.all_eq_true.mpr fun y m => h y (List.mem_mergeSort.mp m), sortD_adj ys⟩
theorem parts_sortOk {ys : List D} (h : ∀ y ∈ ys, partB y = true) {w n : Nat} (hf : ∀ y ∈ ys, Fit w n y) (hn : n ≤ many) : sortOk ys = true := by
  unfold sortOk
  simp only [Bool.and_eq_true, decide_eq_true_eq]
  refine ⟨dats_mem.mpr fun y m => (hf y m).dat, ?_, ?_, deps_le.mpr fun y m => Nat.le_trans (hf y m).dep hn⟩
  · unfold alikeD
    simp only [List.all_eq_true]
    exact fun x m y m' => (heap_alike x.dep x y (Nat.le_refl _)).2 (h x m) (h y m')
  · unfold sortable
    rw [Bool.or_eq_true]
    refine .inl (List.all_eq_true.mpr fun x m => ?_)
    obtain ⟨i, z, c, rfl, _⟩ := part_of (h x m)
    rfl
theorem wp_built {bl : Nat} (hb0 : prog[bl]? = some ⟨2, 4, builtC bl⟩) {ps : List D} {w : Nat} (hr : RowsOk ps) (hw : ps.length ≤ w) (hw3 : 3 ≤ w) (hw2 : w < 1000) : ∀ (n k : Nat) (up : Int) (S : Store) (Q : D → Store → Prop), n ≤ 90 → -1 ≤ up → (ps.length : Int) - 1 - up ≤ n → (∀ v, heapB v = true → Fit w (2 * n + 1) v → Q v S) → wp (run gl prog (n + 1 + k) bl [.lst ps, .int up]) S Q
  | n, k, up, S, Q, hn, h0, hl, q => by
    rw [show n + 1 + k = (n + k) + 1 by omega, wp_run hb0 rfl]
    show wp (execs _ (run gl prog (n + k)) (builtC bl) [.val (.lst ps), .val (.int up), .no, .no]) S _
    simp only [builtC, wp_xret, wp_read, wp_fitF]
    rw [wp_op, wp_cons, wp_op, wp_cons, wp_compE]
    simp only [wp_cons, wp_nil, wp_varM, Fr.env, Bool.false_eq_true, if_false, List.map_cons, List.map_nil, List.getElem?_cons_zero, Slot.str, wp_srcE]
    refine wp_comp_sub (fun S' => S' = S) (fun y => partB y = true ∧ Fit w (2 * n) y) rfl (fun x m S' hS => ?_) fun ys S' hS hlen hys => ?_
    · subst hS
      obtain ⟨i, hi, rfl⟩ := List.mem_mapIdx.mp m
      have hp := hr i (ps[i]) (List.getElem?_eq_getElem hi)
      obtain ⟨u, j, c, l, hp, u1, u2, j1, j2, hc⟩ := hp
      rw [wp_compT1]
      have hb : bindT (.tup [.name 2, .name 3]) (.tup [.int i, ps[i]]) (wipe [some (.lst ps), some (.int up), none, none] [2, 3]) = some [some (.lst ps), some (.int up), some (.int i), some ps[i]] := rfl
      rw [hb, hp]
      have a0 : L2.atI [D.int u, .int j, .str ⟨#[c]⟩, .int l] 0 = some (.int u) := rfl
      have a1 : L2.atI [D.int u, .int j, .str ⟨#[c]⟩, .int l] 1 = some (.int j) := rfl
      have a2 : L2.atI [D.int u, .int j, .str ⟨#[c]⟩, .int l] 2 = some (.str ⟨#[c]⟩) := rfl
      simp only [wp_op, wp_cons, wp_nil, wp_varM, wp_const, wp_call, List.getElem?_cons_zero, List.getElem?_cons_succ, wp_ixL a0, wp_ixL a1, wp_ixL a2, wp_cmp, wp_eqI, wp_truthB]
      by_cases hu : u = up
      · rw [if_pos (decide_eq_true hu)]
        have hi2 : (i : Int) < ps.length := by omega
        obtain ⟨n', rfl⟩ : ∃ n', n = n' + 1 := ⟨n - 1, by omega⟩
        rw [show n' + 1 + k = n' + 1 + k from rfl]
        refine wp_built hb0 hr hw hw3 hw2 n' k (i : Int) S' _ (by omega) (by omega) (by omega) fun v hv hfv => ?_
        rw [wp_tup (by show 3 ≤ 16777216; omega)]
        refine ⟨by first | rfl | trivial, fun y hy => ?_⟩
        cases hy
        refine ⟨part_mk j1 j2 hc hv, Fit.mono (Fit.tup (w := w) (n := 2 * n' + 1) (by show 3 ≤ w; exact hw3) fun z mz => ?_) (Nat.le_refl _) (by omega)⟩
        simp only [List.mem_cons, List.not_mem_nil, or_false] at mz
        rcases mz with rfl | rfl | rfl
        · exact Fit.int _
        · exact Fit.str _
        · exact hfv
      · rw [if_neg (by simpa using hu)]
        exact ⟨trivial, fun y hy => by cases hy⟩
    · subst hS
      have so := parts_sortOk (fun y m => (hys y m).1) (fun y m => (hys y m).2) (by show 2 * n ≤ 200; omega)
      rw [wp_sortL so, wp_tupL]
      refine q _ (heap_sort fun y m => (hys y m).1) (Fit.tup ?_ fun y m => (hys y (List.mem_mergeSort.mp m)).2)
      rw [show (sortD ys).length = ys.length from List.length_mergeSort ys]
      rw [List.length_mapIdx] at hlen
      omega
theorem wp_draw {pl ol bl hl M : Nat} (hp : prog[pl]? = some ⟨2, 5, pullB⟩) (ho : prog[ol]? = some ⟨2, 2, ofC pl⟩) (hb0 : prog[bl]? = some ⟨2, 4, builtC bl⟩) (hh : prog[hl]? = some ⟨5, 9, drawC pl ol bl⟩) {z : Str} (hz : ∀ c ∈ z.cps.toList, c ∈ abc.cps.toList) (hz0 : 0 < z.length) (hz1 : z.length < 1000) {many deep : Int} (hM : M ≤ 40) (h0 : 0 ≤ many) (h7 : many ≤ M) (hB : Bag T S) (q : ∀ v S', Bag T S' → heapB v = true → Fit (M + 3) (2 * M + 3) v → Q v S') : wp (run gl prog (k + M + 5) hl [.loc 0, .str z, .int 3, .int many, .int deep]) S Q := by
  rw [wp_run hh rfl]
  show wp (execs _ (run gl prog (k + M + 4)) (drawC pl ol bl) [.val (.loc 0), .val (.str z), .val (.int 3), .val (.int many), .val (.int deep), .no, .no, .no, .no]) S _
  have e0 : readEs gl (run gl prog (k + M + 4)) true [] [.val (.loc 0), .val (.str z), .val (.int 3), .val (.int many), .val (.int deep), .no, .no, .no, .no] S = .ok [] S := rfl
  unfold drawC
  rw [wp_xown, wp_eq e0, if_pos (by show 0 ≤ 16777216; omega)]
  show wp (execs _ (run gl prog (k + M + 4)) _ [.val (.loc 0), .val (.str z), .val (.int 3), .val (.int many), .val (.int deep), .own [], .no, .no, .no]) S _
  rw [wp_xfor]
  simp only [wp_cons, wp_nil, wp_varM, Fr.env, Bool.false_eq_true, if_false, List.map_cons, List.map_nil, List.getElem?_cons_zero, List.getElem?_cons_succ, Slot.str]
  rw [wp_srcN ⟨by omega, by omega⟩]
  refine wp_loop (fun n fr S => ∃ ps s6 s7 s8, fr = [.val (.loc 0), .val (.str z), .val (.int 3), .val (.int many), .val (.int deep), .own ps, s6, s7, s8] ∧ RowsOk ps ∧ ps.length = n ∧ Bag T S) _ 0 _ _ ⟨[], _, _, _, rfl, fun i p h => by simp at h, rfl, hB⟩ ?_ ?_
  · rintro j x fr S hx ⟨ps, s6, s7, s8, rfl, hps, hlen, hB⟩
    rw [Nat.zero_add] at hlen
    rw [List.getElem?_map] at hx
    obtain ⟨j', hj, rfl⟩ := Option.map_eq_some_iff.mp hx
    obtain ⟨hj1, hj2⟩ := List.getElem?_eq_some_iff.mp hj
    rw [List.length_range] at hj1
    rw [List.getElem_range] at hj2
    subst hj2
    have hst : storeT (.name 6) (.int j) [.val (.loc 0), .val (.str z), .val (.int 3), .val (.int many), .val (.int deep), .own ps, s6, s7, s8] = some [.val (.loc 0), .val (.str z), .val (.int 3), .val (.int many), .val (.int deep), .own ps, .val (.int j), s7, s8] := rfl
    rw [hst]
    simp only []
    rw [wp_xasgN]
    simp only [wp_read, wp_fitF, wp_op, wp_call, wp_cons, wp_nil, wp_varM, wp_const, Fr.env, Bool.false_eq_true, if_false, List.map_cons, List.map_nil, List.getElem?_cons_zero, List.getElem?_cons_succ, Slot.str, wp_add]
    refine wp_pull (k := k + M + 3) hp (by omega) (by omega) hB fun u S1 hB1 u1 u2 => ?_
    rw [wp_sub]
    simp only [List.set_cons_zero, List.set_cons_succ]
    -- the level
    have lev : ∀ Q' : D → Store → Prop, (∀ l, Q' (.int l) S1) → wp (readE gl (run gl prog (k + M + 4)) true (.ife (.op (.cmp .Lt) [(.var 7), (.const (.int 0))]) (.const (.int 0)) (.op (.bin .Add) [(.op .ix [(.op .ix [(.var 5), (.var 7)]), (.const (.int 3))]), (.const (.int 1))])) [.val (.loc 0), .val (.str z), .val (.int 3), .val (.int many), .val (.int deep), .own ps, .val (.int j), .val (.int (u - 1)), s8]) S1 Q' := fun Q' hQ => by
      simp only [wp_read, wp_ife, wp_op, wp_cons, wp_nil, wp_varM, wp_const, Fr.env, if_true, List.map_cons, List.map_nil, List.getElem?_cons_zero, List.getElem?_cons_succ, Slot.brw, wp_cmp, wp_ltI, wp_truthB]
      by_cases hu : u - 1 < 0
      · rw [if_pos (decide_eq_true hu), wp_fitTI]
        exact hQ 0
      · rw [if_neg (by simpa using hu)]
        have hlt : (u - 1).toNat < ps.length := by omega
        rw [wp_ixR (atI_nat (by omega) hlt)]
        obtain ⟨a, b, c, l, hp, _⟩ := hps _ _ (List.getElem?_eq_getElem hlt)
        rw [hp, wp_ixL (show L2.atI [D.int a, .int b, .str ⟨#[c]⟩, .int l] 3 = some (.int l) from rfl), wp_add, wp_fitTI]
        exact hQ _
    rw [wp_xasgN]
    refine lev _ fun l => ?_
    simp only [List.set_cons_zero, List.set_cons_succ]
    -- the row is put
    have put : ∀ (u' l' : Int) (s8' : Slot), -1 ≤ u' → u' < j → wp (execs gl (run gl prog (k + M + 4)) [.app false 5 (.op .lst [(.var 7), (.op (.bin .Add) [(.const (.int 1)), (.call pl [(.var 0), (.var 2)])]), (.call ol [(.var 0), (.var 1)]), (.var 8)])] [.val (.loc 0), .val (.str z), .val (.int 3), .val (.int many), .val (.int deep), .own ps, .val (.int j), .val (.int u'), .val (.int l')]) S1 fun o S => match o with
        | .nx fr' => ∃ ps s6 s7 s8, fr' = [.val (.loc 0), .val (.str z), .val (.int 3), .val (.int many), .val (.int deep), .own ps, s6, s7, s8] ∧ RowsOk ps ∧ ps.length = 0 + j + 1 ∧ Bag T S
        | .ct fr' => ∃ ps s6 s7 s8, fr' = [.val (.loc 0), .val (.str z), .val (.int 3), .val (.int many), .val (.int deep), .own ps, s6, s7, s8] ∧ RowsOk ps ∧ ps.length = 0 + j + 1 ∧ Bag T S
        | .bk _ => False
        | .ret d => False := fun u' l' s8' h1 h2 => by
      rw [wp_xapp (xs := ps) rfl]
      simp only [wp_read, wp_fitF, wp_op, wp_call, wp_cons, wp_nil, wp_varM, wp_const, Fr.env, Bool.false_eq_true, if_false, List.map_cons, List.map_nil, List.getElem?_cons_zero, List.getElem?_cons_succ, Slot.str]
      refine wp_pull (k := k + M + 3) hp (by omega) (by omega) hB1 fun r S2 hB2 r1 r2 => ?_
      rw [wp_add]
      refine wp_ofS (k := k + M + 2) ho hp hz0 (by omega) hB2 fun c S3 hB3 hc => ?_
      rw [wp_lst (by show 4 ≤ 16777216; omega), if_pos (by show ps.length < 16777216; omega)]
      simp only [wp_x0, List.set_cons_zero, List.set_cons_succ]
      refine ⟨ps ++ [.lst [.int u', .int (1 + r), .str ⟨#[c]⟩, .int l']], _, _, _, rfl, fun i p hp => ?_, by rw [List.length_append, List.length_singleton]; omega, hB3⟩
      by_cases hi : i < ps.length
      · rw [List.getElem?_append_left hi] at hp
        exact hps i p hp
      · have hi2 : i = ps.length := by
          have := (List.getElem?_eq_some_iff.mp hp).1
          rw [List.length_append, List.length_singleton] at this
          omega
        subst hi2
        rw [List.getElem?_append_right (Nat.le_refl _), Nat.sub_self] at hp
        cases hp
        exact ⟨u', 1 + r, c, l', rfl, h1, by omega, by omega, by omega, hz c hc⟩
    rw [wp_xif0]
    simp only [wp_read, wp_fitF, wp_op, wp_cons, wp_nil, wp_varM, Fr.env, Bool.false_eq_true, if_false, List.map_cons, List.map_nil, List.getElem?_cons_zero, List.getElem?_cons_succ, Slot.str, wp_cmp, wp_geI, wp_truthB]
    split
    · rw [wp_xasg]
      simp only [wp_read, wp_fitF, wp_op, wp_cons, wp_nil, wp_const, wp_neg]
      rw [wp_tup (by show 2 ≤ 16777216; omega)]
      have hst2 : storeT (.tup [.name 7, .name 8]) (.tup [.int (-1), .int 0]) [.val (.loc 0), .val (.str z), .val (.int 3), .val (.int many), .val (.int deep), .own ps, .val (.int j), .val (.int (u - 1)), .val (.int l)] = some [.val (.loc 0), .val (.str z), .val (.int 3), .val (.int many), .val (.int deep), .own ps, .val (.int j), .val (.int (-1)), .val (.int 0)] := rfl
      rw [hst2]
      simp only [wp_x0]
      refine wp_mono (put (-1) 0 .no (by omega) (by omega)) fun o S' z => ?_
      cases o <;> first | exact z | exact z.elim
    · refine wp_mono (put (u - 1) l .no (by omega) (by omega)) fun o S' z => ?_
      cases o <;> first | exact z | exact z.elim
  · rintro fr S ⟨ps, s6, s7, s8, rfl, hps, hlen, hB⟩
    rw [Nat.zero_add, List.length_map, List.length_range] at hlen
    simp only []
    rw [wp_xfrz (xs := ps) rfl]
    simp only [wp_xret, wp_read, wp_fitF, wp_op, wp_call, wp_cons, wp_nil, wp_varM, wp_const, Fr.env, Bool.false_eq_true, if_false, List.map_cons, List.map_nil, List.set_cons_zero, List.set_cons_succ, List.getElem?_cons_zero, List.getElem?_cons_succ, Slot.str, wp_neg]
    rw [show k + M + 4 = (M + 1) + 1 + (k + 2) by omega]
    refine wp_built hb0 (w := M + 3) hps (by omega) (by omega) (by omega) (M + 1) (k + 2) (-1) S _ (by omega) (by omega) (by omega) fun v hv hf => ?_
    exact q v S hB hv (hf.mono (by omega) (by omega))
theorem wp_fuel {a b f : Nat} {ds : List D} (h : a = b) (w : wp (run gl prog a f ds) S Q) : wp (run gl prog b f ds) S Q := h ▸ w
theorem heap_tup {v : D} (h : heapB v = true) : ∃ xs, v = .tup xs ∧ (∀ x ∈ xs, partB x = true) := by
  cases v with
  | tup xs =>
    rw [heapB, parts_all, Bool.and_eq_true] at h
    exact ⟨xs, rfl, List.all_eq_true.mp h.1⟩
  | _ => simp [heapB] at h
theorem wp_any {pl ol bl hl al M : Nat} (hp : prog[pl]? = some ⟨2, 5, pullB⟩) (ho : prog[ol]? = some ⟨2, 2, ofC pl⟩) (hb0 : prog[bl]? = some ⟨2, 4, builtC bl⟩) (hh : prog[hl]? = some ⟨5, 9, drawC pl ol bl⟩) (ha : prog[al]? = some ⟨4, 5, anyC pl ol hl⟩) {z : Str} (hz : ∀ c ∈ z.cps.toList, c ∈ abc.cps.toList) (hz0 : 0 < z.length) (hz1 : z.length < 1000) (hM : M ≤ 40) (hB : Bag T S) (q : ∀ v S', Bag T S' → heapB v = true → Fit (M + 4) (2 * M + 3) v → Q v S') : wp (run gl prog (k + M + 7) al [.loc 0, .str z, .int 3, .int M]) S Q := by
  rw [wp_run ha rfl]
  show wp (execs _ (run gl prog (k + M + 6)) (anyC pl ol hl) [.val (.loc 0), .val (.str z), .val (.int 3), .val (.int M), .no]) S _
  unfold anyC
  rw [wp_xasgN]
  simp only [wp_read, wp_fitF, wp_op, wp_call, wp_cons, wp_nil, wp_varM, wp_const, Fr.env, Bool.false_eq_true, if_false, List.map_cons, List.map_nil, List.getElem?_cons_zero, List.getElem?_cons_succ, Slot.str, wp_add]
  refine wp_pull (k := k + M + 5) hp (by omega) (by omega) hB fun many S1 hB1 m1 m2 => ?_
  refine wp_pull (k := k + M + 5) hp (by omega) (by omega) hB1 fun deep S2 hB2 d1 d2 => ?_
  rw [wp_add]
  refine wp_fuel (show (k + 1) + M + 5 = k + M + 6 by omega) (wp_draw hp ho hb0 hh hz hz0 hz1 hM m1 (by omega) hB2 fun v S3 hB3 hv hf => ?_)
  have t0 : ∀ {S : Store} {Q : D → Store → Prop}, wp (opSem .tup []) S Q = Q (.tup []) S := wp_tup (Nat.zero_le _)
  have okv : okD v (.tup []) = true := by
    unfold okD
    rw [hf.dat]
    show (true && true && decide (min v.dep 1 ≤ Z.many)) = true
    simp only [Bool.and_true, Bool.true_and]
    exact decide_eq_true (Nat.le_trans (Nat.min_le_right _ _) (by show 1 ≤ 200; omega))
  simp only [List.set_cons_zero, List.set_cons_succ, wp_xif0, wp_read, wp_fitF, wp_boolE, wp_bool2, wp_bool1, wp_call, wp_op, wp_cons, wp_nil, wp_varM, wp_const, Fr.env, Bool.false_eq_true, if_false, List.map_cons, List.map_nil, List.getElem?_cons_zero, List.getElem?_cons_succ, Slot.str, t0, wp_cmp, wp_ne_ okv, wp_truthB]
  have tail : ∀ S' v', Bag T S' → heapB v' = true → Fit (M + 4) (2 * M + 3) v' → wp (execs gl (run gl prog (k + M + 6)) [.ret false (.var 4)] [.val (.loc 0), .val (.str z), .val (.int 3), .val (.int M), .val v']) S' fun o S => (match o with
    | .ret d => Q d S
    | .nx _ => Q .non S
    | _ => False) := fun S' v' hB' h1 h2 => by
    simp only [wp_xret, wp_read, wp_fitF, wp_varM, Fr.env, Bool.false_eq_true, if_false, List.map_cons, List.map_nil, List.getElem?_cons_zero, List.getElem?_cons_succ, Slot.str]
    exact q v' S' hB' h1 h2
  obtain ⟨xs, rfl, hxs⟩ := heap_tup hv
  rw [eqD_unit]
  cases hx : xs.isEmpty with
  | true =>
    simp only [Bool.not_true, Bool.false_eq_true, if_false]
    exact tail _ _ hB3 hv (hf.mono (by omega) (by omega))
  | false =>
    have hpos : 0 < xs.length := by cases xs with
      | nil => cases hx
      | cons _ _ => exact Nat.succ_pos _
    have hlen := hf.len
    simp only [Bool.not_false, if_true]
    refine wp_pull (k := k + M + 5) hp (by omega) (by omega) hB3 fun r S4 hB4 r1 r2 => ?_
    simp only [wp_eqI, wp_truthB]
    split
    · simp only [wp_xasgN, wp_x0, wp_read, wp_fitF, wp_call, wp_op, wp_cons, wp_nil, wp_varM, Fr.env, Bool.false_eq_true, if_false, List.map_cons, List.map_nil, List.getElem?_cons_zero, List.getElem?_cons_succ, Slot.str]
      refine wp_ofT (k := k + M + 4) ho hp hpos (by omega) hB4 fun x S5 hB5 hm => ?_
      rw [wp_tup (by show 1 ≤ 16777216; omega), wp_addT (by show xs.length + 1 ≤ 16777216; omega)]
      have hp : ∀ y ∈ xs ++ [x], partB y = true := fun y m => by
        rcases List.mem_append.mp m with m | m
        · exact hxs y m
        · rw [List.mem_singleton.mp m]; exact hxs x hm
      have hfy : ∀ y ∈ xs ++ [x], Fit (M + 4) (2 * M + 2) y := fun y m => by
        have this : ∀ {y : D}, y ∈ xs → Fit (M + 3) (2 * M + 2) y := fun m => Fit.mem (w := M + 3) (n := 2 * M + 2) hf m
        rcases List.mem_append.mp m with m | m
        · exact (this m).mono (by omega) (by omega)
        · rw [List.mem_singleton.mp m]; exact (this hm).mono (by omega) (by omega)
      rw [wp_sortT (parts_sortOk hp hfy (by show 2 * M + 2 ≤ 200; omega)), wp_tupL]
      simp only [List.set_cons_zero, List.set_cons_succ]
      refine tail _ _ hB5 (heap_sort hp) (Fit.tup ?_ fun y m => hfy y (List.mem_mergeSort.mp m))
      rw [show (sortD (xs ++ [x])).length = (xs ++ [x]).length from List.length_mergeSort _, List.length_append, List.length_singleton]
      omega
    · exact tail _ _ hB4 hv (hf.mono (by omega) (by omega))
end
end Z

/-! ZH3: what is found is what is due -/
namespace Z
open PySem
section
variable {gl : Nat → Option D} {prog : List Fn} {S T : Store} {Q : D → Store → Prop} {k : Nat}
def sameC (sl : Nat) : List Cmd := [
  .ifs false (.bool false [(.op (.isis [.bool, .str]) [(.var 1)]), (.op (.cmp .Is) [(.var 1), (.const .non)])]) [.asg false (.name 2) (.op .lst [(.op (.cmp .Eq) [(.op (.isi .bool) [(.var 0)]), (.op (.isi .bool) [(.var 1)])]), (.op (.cmp .Eq) [(.op (.isi .str) [(.var 0)]), (.op (.isi .str) [(.var 1)])])]), .ret false (.bool true [(.op (.cmp .Eq) [(.var 2), (.op .lst [(.const (.bl true)), (.const (.bl true))])]), (.op (.cmp .Eq) [(.var 0), (.var 1)])])] [],
  .ifs false (.op (.isi .int) [(.var 1)]) [.ret false (.bool true [(.op (.isi .int) [(.var 0)]), (.not (.op (.isi .bool) [(.var 0)])), (.op (.cmp .Eq) [(.var 0), (.var 1)])])] [],
  .ifs false (.op (.isis [.list, .tuple]) [(.var 1)]) [.asg false (.name 2) (.op .lst [(.op (.cmp .Eq) [(.op (.isi .list) [(.var 0)]), (.op (.isi .list) [(.var 1)])]), (.op (.cmp .Eq) [(.op (.isi .tuple) [(.var 0)]), (.op (.isi .tuple) [(.var 1)])])]), .ifs false (.bool false [(.op (.cmp .NotEq) [(.var 2), (.op .lst [(.const (.bl true)), (.const (.bl true))])]), (.op (.cmp .NotEq) [(.op (.bi .len) [(.var 0)]), (.op (.bi .len) [(.var 1)])])]) [.ret false (.const (.bl false))] [], .ret false (.op (.bi .all) [(.comp [3, 4] (.call sl [(.var 3), (.var 4)]) (.tup [(.name 3), (.name 4)]) .zip [(.var 0), (.var 1)] [])])] [],
  .ret false (.op (.cmp .Eq) [(.var 0), (.var 1)])]
theorem eqv_all_refl : ∀ {xs : List D}, (∀ x ∈ xs, PyData.eqv x.py x.py = true) → PyData.eqvAll (xs.map D.py) (xs.map D.py) = true
  | [], _ => rfl
  | x :: xs, h => by
    rw [List.map_cons, eqvAll_cons, h x (by simp), eqv_all_refl fun y m => h y (by simp [m])]
    rfl
theorem zip_self : ∀ xs : List D, (xs.zip xs).map (fun p => D.tup [p.1, p.2]) = xs.map fun x => D.tup [x, x]
  | [] => rfl
  | x :: xs => by rw [List.zip_cons_cons, List.map_cons, List.map_cons, zip_self xs]
theorem okB2 {a b c d : Bool} : okD (.lst [.bl a, .bl b]) (.lst [.bl c, .bl d]) = true := by
  unfold okD
  simp [D.dat, D.dats, D.dep, D.deps, many]
theorem eqB {a b : Bool} : eqD (.bl a) (.bl b) = decide (a = b) := by cases a <;> cases b <;> rfl
theorem okBB {a b : Bool} : okD (.bl a) (.bl b) = true := rfl
theorem wp_lst2 {a b : D} : wp (opSem .lst [a, b]) S Q = Q (.lst [a, b]) S := wp_lst (by show 2 ≤ 16777216; omega)
theorem eqTT : eqD (.lst [.bl true, .bl true]) (.lst [.bl true, .bl true]) = true := rfl
theorem dep_okD {v : D} (hd : v.dat = true) (hn : v.dep ≤ many) : okD v v = true := by
  unfold okD
  rw [hd, Nat.min_self, decide_eq_true hn]
  rfl
/-- a thing is the same as itself -/
theorem wp_same {sl : Nat} (hs : prog[sl]? = some ⟨2, 5, sameC sl⟩) : ∀ (n k : Nat) (v : D), v.dat = true → v.dep ≤ n → n ≤ many → ∀ (S : Store) (Q : D → Store → Prop), wp (run gl prog (n + 1 + k) sl [v, v]) S Q = Q (.bl true) S
  | n, k, v, hd, hn, hm, S, Q => by
    rw [show n + 1 + k = (n + k) + 1 by omega, wp_run hs rfl]
    show wp (execs gl (run gl prog (n + k)) (sameC sl) [.val v, .val v, .no, .no, .no]) S _ = _
    have seq : ∀ (xs : List D) (w : D), (w = .tup xs ∨ w = .lst xs) → w = v → wp (evalE gl (run gl prog (n + k)) (.op (.bi .all) [(.comp [3, 4] (.call sl [(.var 3), (.var 4)]) (.tup [(.name 3), (.name 4)]) .zip [(.var 0), (.var 1)] [])]) [some v, some v, some (.lst [.bl true, .bl true]), none, none]) S Q = Q (.bl true) S := by
      intro xs w hw hv
      have hz : sideOf v = some xs := by rcases hw with rfl | rfl <;> (subst hv; rfl)
      have hdx : ∀ x ∈ xs, x.dat = true ∧ x.dep + 1 ≤ n := fun x m => by
        have h1 : D.dats xs = true := by rcases hw with rfl | rfl <;> (subst hv; simpa [D.dat] using hd)
        have h2 : D.deps xs + 1 ≤ n := by rcases hw with rfl | rfl <;> (subst hv; simpa [D.dep] using hn)
        exact ⟨dats_mem.mp h1 x m, by have := deps_le.mp (Nat.le_refl (D.deps xs)) x m; omega⟩
      rw [wp_op, wp_cons, wp_compE]
      simp only [wp_cons, wp_nil, wp_varM, List.getElem?_cons_zero, List.getElem?_cons_succ]
      rw [wp_srcZ hz hz, zip_self, wp_comp_map (g := fun x => some (.bl true)) fun x m => ?_, filterMap_some]
      · have e : (xs.map fun x => D.tup [x, x]).map (fun _ => D.bl true) = xs.map fun x => D.bl ((fun _ => true) x) := by rw [List.map_map]; rfl
        rw [e, wp_allM]
        have e2 : (xs.all fun _ => true) = true := List.all_eq_true.mpr fun _ _ => rfl
        rw [e2]
      · obtain ⟨y, my, rfl⟩ := List.mem_map.mp m
        refine of_wp ?_
        rw [wp_compT0]
        have hb : bindT (.tup [.name 3, .name 4]) (.tup [y, y]) (wipe [some v, some v, some (.lst [.bl true, .bl true]), none, none] [3, 4]) = some [some v, some v, some (.lst [.bl true, .bl true]), some y, some y] := rfl
        rw [hb]
        simp only [wp_call, wp_cons, wp_nil, wp_varM, List.getElem?_cons_zero, List.getElem?_cons_succ]
        obtain ⟨h1, h2⟩ := hdx y my
        cases n with
        | zero => omega
        | succ n' =>
          rw [show n' + 1 + k = n' + 1 + k from rfl, wp_same hs n' k y h1 (by omega) (by omega)]
          exact ⟨rfl, rfl⟩
    have ok := dep_okD hd (Nat.le_trans hn hm)
    simp only [sameC, wp_xif0, wp_xasgN, wp_xret, wp_read, wp_fitF, wp_boolE, wp_bool2, wp_bool1, wp_not, wp_op, wp_cons, wp_nil, wp_varM, wp_const, Fr.env, Bool.false_eq_true, if_false, List.map_cons, List.map_nil, List.getElem?_cons_zero, List.getElem?_cons_succ, Slot.str, wp_isi hd, wp_isis hd, wp_cmp, wp_eq_ ok, wp_isN, wp_truthB, wp_eq_ okBB, eqB, decide_true, wp_lst2, wp_eq_ okB2, wp_ne_ okB2, eqTT, if_true, Bool.not_true, List.set_cons_zero, List.set_cons_succ]
    cases v with
    | loc _ => cases hd
    | ins _ _ _ => cases hd
    | scr _ => cases hd
    | non => rfl
    | bl b => cases b <;> rfl
    | int i =>
      have e : eqD (.int i) (.int i) = true := by rw [eqD_int, decide_eq_true rfl]
      simp only [e]
      rfl
    | str z =>
      have e : eqD (.str z) (.str z) = true := by
        show PyData.eqv (.str z) (.str z) = true
        rw [PyData.eqv]
        exact beq_self_eq_true z
      simp only [e]
      rfl
    | tup xs =>
      have z := seq xs (.tup xs) (.inl rfl) rfl
      rw [wp_op, wp_cons] at z
      simp only [isD, isT, List.any_cons, List.any_nil, Bool.or_false, Bool.false_or, Bool.or_true, Bool.false_eq_true, if_false, if_true, wp_lenT, wp_neI, wp_truthB, decide_true, Bool.not_true] at z ⊢
      exact z
    | lst xs =>
      have z := seq xs (.lst xs) (.inr rfl) rfl
      rw [wp_op, wp_cons] at z
      simp only [isD, isT, List.any_cons, List.any_nil, Bool.or_false, Bool.false_or, Bool.or_true, Bool.true_or, Bool.false_eq_true, if_false, if_true, wp_lenL, wp_neI, wp_truthB, decide_true, Bool.not_true] at z ⊢
      exact z
termination_by n => n
end
end Z

namespace K28
open PySem PySem.Spec PyProof.Rows L2 Z
def top (i : Nat) : Stmt := PySem.Challenge.pw_shownagain_k28_grades_of_joints.main.body.getD i (.Pass ⟨0, 0, 0, 0⟩)
/-- is_within -/
def b0 : List Cmd := [
  .ret false (.bool true [(.op (.isi .int) [(.var 0)]), (.not (.op (.isi .bool) [(.var 0)])), (.chain .LtE .LtE (.var 1) (.var 0) (.var 2))])]
def e0 : Ent := ⟨"is_within", top 8, ["value", "low", "high"], 3, b0, false⟩
/-- is_ascending -/
def b1 : List Cmd := [
  .ret false (.op (.bi .all) [(.comp [1, 2] (.op (.cmp .Lt) [(.var 1), (.var 2)]) (.tup [(.name 1), (.name 2)]) .zip [(.var 0), (.op (.slice true false) [(.var 0), (.const (.int 1))])] [])])]
def e1 : Ent := ⟨"is_ascending", top 9, ["row", "one", "other"], 1, b1, false⟩
/-- is_looks -/
def b2 : List Cmd := [
  .ifs false (.bool false [(.not (.op (.isi .tuple) [(.var 0)])), (.not (.op (.bi .all) [(.comp [1] (.call 0 [(.var 1), (.const (.int 1)), (.glob 0)]) (.name 1) .val [(.var 0)] [])]))]) [.ret false (.const (.bl false))] [],
  .ret false (.call 1 [(.var 0)])]
def e2 : Ent := ⟨"is_looks", top 12, ["value", "look"], 1, b2, false⟩
/-- need_looks -/
def b3 : List Cmd := [
  .ifs false (.not (.call 2 [(.var 0)])) [.raise false "InvalidLooks" []] []]
def e3 : Ent := ⟨"need_looks", top 13, ["value"], 1, b3, false⟩
/-- rank -/
def b4 : List Cmd := [
  .ret false (.op (.mnd false) [(.comp [2] (.var 2) (.name 2) .val [(.var 0)] [(.op (.cmp .GtE) [(.var 2), (.var 1)])]), (.glob 1)])]
def e4 : Ent := ⟨"rank", top 14, ["looks", "number", "look"], 2, b4, false⟩
/-- grade -/
def b5 : List Cmd := [
  .expr false (.call 3 [(.var 0)]),
  .ifs false (.not (.call 0 [(.var 1), (.const (.int 1)), (.glob 0)])) [.raise false "InvalidNumber" [(.var 1)]] [],
  .asg false (.name 2) (.call 4 [(.var 0), (.var 1)]),
  .ret false (.ife (.op (.cmp .NotEq) [(.var 2), (.glob 1)]) (.var 2) (.const .non))]
def e5 : Ent := ⟨"grade", top 15, ["looks", "number", "found"], 2, b5, false⟩
/-- _law_bag -/
def b6 : List Cmd := [
  .ret false (.alloc [(.op (.bi .list) [(.op (.slice false true) [(.var 0), (.const (.int 63))])]), (.const (.int 0)), (.const (.int 0)), (.const (.int 5617))])]
def e6 : Ent := ⟨"_law_bag", top 17, ["_law_script"], 1, b6, false⟩
/-- _law_pull -/
def b7 : List Cmd := [
  .ifs false (.bool true [(.op (.cmp .Eq) [(.op .ix [(.var 0), (.const (.int 2))]), (.const (.int 0))]), (.op (.cmp .Lt) [(.op .ix [(.var 0), (.const (.int 1))]), (.op (.bi .len) [(.op .ix [(.var 0), (.const (.int 0))])])])]) [.asg false (.name 3) (.op .ix [(.op .ix [(.var 0), (.const (.int 0))]), (.op .ix [(.var 0), (.const (.int 1))])]), .setIx (.var 0) (.const (.int 1)) (.op (.bin .Add) [(.op .ix [(.var 0), (.const (.int 1))]), (.const (.int 1))]), .ifs false (.op (.cmp .GtE) [(.op (.bi .abs) [(.var 3)]), (.op (.bin .Pow) [(.const (.int 10)), (.const (.int 18))])]) [.setIx (.var 0) (.const (.int 2)) (.op (.bi .abs) [(.var 3)])] [.setIx (.var 0) (.const (.int 3)) (.op (.bin .Mod) [(.op (.bi .int) [(.op (.bin .Add) [(.op (.bin .Add) [(.op (.bin .Mult) [(.op .ix [(.var 0), (.const (.int 3))]), (.const (.int 48271))]), (.op (.bin .Mult) [(.op (.bin .Mod) [(.op (.bi .int) [(.var 3)]), (.const (.int 1000003))]), (.const (.int 911))])]), (.const (.int 7))])]), (.const (.int 2147483647))])]] [],
  .ifs false (.op (.cmp .Gt) [(.op .ix [(.var 0), (.const (.int 2))]), (.const (.int 0))]) [.asg false (.name 4) (.op (.bin .Mod) [(.op (.bi .int) [(.op .ix [(.var 0), (.const (.int 2))])]), (.var 1)]), .setIx (.var 0) (.const (.int 2)) (.op (.bin .FloorDiv) [(.op .ix [(.var 0), (.const (.int 2))]), (.var 1)]), .ret false (.var 4)] [],
  .asg false (.name 2) (.op (.bin .Mod) [(.op (.bi .int) [(.op (.bin .Mult) [(.op .ix [(.var 0), (.const (.int 3))]), (.op .ix [(.var 0), (.const (.int 3))])])]), (.const (.int 2147483629))]),
  .setIx (.var 0) (.const (.int 3)) (.op (.bin .Mod) [(.op (.bi .int) [(.op (.bin .Add) [(.op (.bin .Add) [(.op (.bin .Mult) [(.var 2), (.const (.int 16807))]), (.op (.bin .Mult) [(.op .ix [(.var 0), (.const (.int 3))]), (.const (.int 40692))])]), (.const (.int 12345))])]), (.const (.int 2147483647))]),
  .ret false (.op (.bin .Mod) [(.op (.bi .int) [(.op (.bin .FloorDiv) [(.op .ix [(.var 0), (.const (.int 3))]), (.const (.int 64))])]), (.var 1)])]
def e7 : Ent := ⟨"_law_pull", top 18, ["_law_bag_here", "_law_sides", "_law_twice", "_law_cell", "_law_digit"], 2, b7, false⟩
/-- _law_of -/
def b8 : List Cmd := [
  .ret false (.op .ix [(.var 1), (.call 7 [(.var 0), (.op (.bi .len) [(.var 1)])])])]
def e8 : Ent := ⟨"_law_of", top 19, ["_law_bag_here", "_law_some"], 2, b8, false⟩
/-- _law_same -/
def b9 : List Cmd := [
  .ifs false (.bool false [(.op (.isis [.bool, .str]) [(.var 1)]), (.op (.cmp .Is) [(.var 1), (.const .non)])]) [.asg false (.name 2) (.op .lst [(.op (.cmp .Eq) [(.op (.isi .bool) [(.var 0)]), (.op (.isi .bool) [(.var 1)])]), (.op (.cmp .Eq) [(.op (.isi .str) [(.var 0)]), (.op (.isi .str) [(.var 1)])])]), .ret false (.bool true [(.op (.cmp .Eq) [(.var 2), (.op .lst [(.const (.bl true)), (.const (.bl true))])]), (.op (.cmp .Eq) [(.var 0), (.var 1)])])] [],
  .ifs false (.op (.isi .int) [(.var 1)]) [.ret false (.bool true [(.op (.isi .int) [(.var 0)]), (.not (.op (.isi .bool) [(.var 0)])), (.op (.cmp .Eq) [(.var 0), (.var 1)])])] [],
  .ifs false (.op (.isis [.list, .tuple]) [(.var 1)]) [.asg false (.name 2) (.op .lst [(.op (.cmp .Eq) [(.op (.isi .list) [(.var 0)]), (.op (.isi .list) [(.var 1)])]), (.op (.cmp .Eq) [(.op (.isi .tuple) [(.var 0)]), (.op (.isi .tuple) [(.var 1)])])]), .ifs false (.bool false [(.op (.cmp .NotEq) [(.var 2), (.op .lst [(.const (.bl true)), (.const (.bl true))])]), (.op (.cmp .NotEq) [(.op (.bi .len) [(.var 0)]), (.op (.bi .len) [(.var 1)])])]) [.ret false (.const (.bl false))] [], .ret false (.op (.bi .all) [(.comp [3, 4] (.call 9 [(.var 3), (.var 4)]) (.tup [(.name 3), (.name 4)]) .zip [(.var 0), (.var 1)] [])])] [],
  .ret false (.op (.cmp .Eq) [(.var 0), (.var 1)])]
def e9 : Ent := ⟨"_law_same", top 22, ["_law_found", "_law_due", "_law_kinds", "_law_one", "_law_other"], 2, b9, false⟩
/-- _law_odd -/
def b10 : List Cmd := [
  .ret false (.call 8 [(.var 0), (.op .lst [(.const .non), (.const (.bl true)), (.const (.bl false)), (.const (.int 0)), (.const (.int 1)), (.const (.int 2)), (.const (.int 3)), (.const (.int 4)), (.op .neg [(.const (.int 1))]), (.const (.int 7)), (.const (.str "")), (.const (.str "a")), (.const (.str "b")), (.const (.str "A")), (.const (.str "ab")), (.const (.str "1")), (.op .tup []), (.op .lst []), (.op .tup [(.const (.int 1)), (.const (.str "a"))]), (.op .lst [(.const (.int 1))]), (.op .tup [(.const (.int 0))]), (.op .tup [(.const (.int 1))]), (.const (.str "z")), (.op .tup [(.const (.int 2)), (.const (.int 1))]), (.op .tup [(.const (.int 1)), (.const (.int 1))]), (.op .tup [(.const .non)])])])]
def e10 : Ent := ⟨"_law_odd", top 23, ["_law_bag_here"], 1, b10, false⟩
/-- _law_bent -/
def b11 : List Cmd := [
  .ifs false (.bool false [(.not (.op (.isi .tuple) [(.var 1)])), (.op (.cmp .Eq) [(.var 1), (.op .tup [])]), (.op (.cmp .Eq) [(.call 7 [(.var 0), (.const (.int 3))]), (.const (.int 0))])]) [.ret false (.call 10 [(.var 0)])] [],
  .par false [2, 3] [(.call 7 [(.var 0), (.op (.bi .len) [(.var 1)])]), (.call 7 [(.var 0), (.const (.int 5))])],
  .ifs false (.op (.cmp .Eq) [(.var 3), (.const (.int 0))]) [.ret false (.op (.bin .Add) [(.op (.slice false true) [(.var 1), (.var 2)]), (.op (.slice true false) [(.var 1), (.op (.bin .Add) [(.var 2), (.const (.int 1))])])])] [],
  .ifs false (.op (.cmp .Eq) [(.var 3), (.const (.int 1))]) [.ret false (.op (.bin .Add) [(.op (.bin .Add) [(.op (.slice false true) [(.var 1), (.var 2)]), (.op .tup [(.op .ix [(.var 1), (.var 2)])])]), (.op (.slice true false) [(.var 1), (.var 2)])])] [],
  .ifs false (.op (.cmp .Eq) [(.var 3), (.const (.int 2))]) [.ret false (.op (.bi .list) [(.var 1)])] [],
  .ifs false (.op (.cmp .Eq) [(.var 3), (.const (.int 3))]) [.ret false (.op .rev [(.var 1)])] [],
  .ret false (.op (.bin .Add) [(.op (.bin .Add) [(.op (.slice false true) [(.var 1), (.var 2)]), (.op .tup [(.call 11 [(.var 0), (.op .ix [(.var 1), (.var 2)])])])]), (.op (.slice true false) [(.var 1), (.op (.bin .Add) [(.var 2), (.const (.int 1))])])])]
def e11 : Ent := ⟨"_law_bent", top 24, ["_law_bag_here", "_law_thing", "_law_at", "_law_way"], 2, b11, false⟩
/-- _law_number -/
def b12 : List Cmd := [
  .ret false (.bool true [(.op (.isi .int) [(.var 0)]), (.not (.op (.isi .bool) [(.var 0)])), (.chain .LtE .LtE (.var 1) (.var 0) (.var 2))])]
def e12 : Ent := ⟨"_law_number", top 25, ["_law_value", "_law_low", "_law_high"], 3, b12, false⟩
/-- _law_rising -/
def b13 : List Cmd := [
  .ret false (.op (.bi .all) [(.comp [1, 2] (.op (.cmp .Lt) [(.var 1), (.var 2)]) (.tup [(.name 1), (.name 2)]) .zip [(.var 0), (.op (.slice true false) [(.var 0), (.const (.int 1))])] [])])]
def e13 : Ent := ⟨"_law_rising", top 26, ["_law_row", "_law_one", "_law_other"], 1, b13, false⟩
/-- _law_grade -/
def b14 : List Cmd := [
  .asg false (.name 2) (.comp [3] (.var 3) (.name 3) .val [(.var 0)] [(.op (.cmp .GtE) [(.var 3), (.var 1)])]),
  .ret false (.ife (.op (.cmp .NotEq) [(.var 2), (.op .lst [])]) (.op (.bi .min) [(.var 2)]) (.const (.int 4)))]
def e14 : Ent := ⟨"_law_grade", top 27, ["_law_my_looks", "_law_my_number", "_law_found", "_law_look"], 2, b14, false⟩
/-- _law_is_looks -/
def b15 : List Cmd := [
  .ret false (.bool true [(.op (.isi .tuple) [(.var 0)]), (.op (.bi .all) [(.comp [1] (.call 12 [(.var 1), (.const (.int 1)), (.const (.int 3))]) (.name 1) .val [(.var 0)] [])]), (.call 13 [(.var 0)])])]
def e15 : Ent := ⟨"_law_is_looks", top 28, ["_law_value", "_law_look"], 1, b15, false⟩
/-- law -/
def b16 : List Cmd := [
  .asg false (.name 1) (.call 6 [(.var 0)]),
  .for_ (.name 2) .range1 [(.const (.int 12))] [.asg false (.name 3) (.call 8 [(.var 1), (.op .lst [(.op .tup []), (.op .tup [(.const (.int 1))]), (.op .tup [(.const (.int 2))]), (.op .tup [(.const (.int 3))]), (.op .tup [(.const (.int 1)), (.const (.int 2))]), (.op .tup [(.const (.int 1)), (.const (.int 3))]), (.op .tup [(.const (.int 2)), (.const (.int 3))]), (.op .tup [(.const (.int 1)), (.const (.int 2)), (.const (.int 3))]), (.op .tup [(.const (.int 2)), (.const (.int 1))]), (.op .tup [(.const (.int 1)), (.const (.int 1))]), (.op .tup [(.const (.int 0)), (.const (.int 1))]), (.op .tup [(.const (.int 3)), (.const (.int 4))])])]), .ifs false (.op (.cmp .Eq) [(.call 7 [(.var 1), (.const (.int 3))]), (.const (.int 0))]) [.asg false (.name 3) (.call 11 [(.var 1), (.var 3)])] [], .asg false (.name 4) (.ife (.op (.cmp .Gt) [(.call 7 [(.var 1), (.const (.int 3))]), (.const (.int 0))]) (.op (.bin .Add) [(.const (.int 1)), (.call 7 [(.var 1), (.const (.int 3))])]) (.call 10 [(.var 1)])), .asg false (.name 5) (.call 15 [(.var 3)]), .ifs false (.not (.call 9 [(.call 2 [(.var 3)]), (.var 5)])) [.ret false (.const (.bl false))] [], .asg false (.name 6) (.op .tup [(.const (.str "InvalidLooks")), (.const .non)]), .ifs false (.var 5) [.asg false (.name 6) (.op .tup [(.const (.str "InvalidNumber")), (.var 4)]), .ifs false (.call 12 [(.var 4), (.const (.int 1)), (.const (.int 3))]) [.asg false (.name 7) (.call 14 [(.var 3), (.var 4)]), .asg false (.name 6) (.op .tup [(.const (.str "value")), (.ife (.op (.cmp .Lt) [(.var 7), (.const (.int 4))]) (.var 7) (.const .non))])] []] [], .ifs false (.not (.call 9 [(.got false (.call 5 [(.var 3), (.var 4)])), (.var 6)])) [.ret false (.const (.bl false))] []],
  .ret false (.call 9 [(.op .lst [(.callK 5 0 ["looks", "number"] [0, 1] [] [(.op .tup [(.const (.int 2))]), (.const (.int 1))]), (.call 5 [(.op .tup [(.const (.int 2))]), (.const (.int 3))]), (.call 5 [(.op .tup []), (.const (.int 1))])]), (.op .lst [(.const (.int 2)), (.const .non), (.const .non)])])]
def e16 : Ent := ⟨"law", top 29, ["_law_script", "_law_bag_here", "_law_turn", "_law_value", "_law_my_number", "_law_good", "_law_due", "_law_found"], 1, b16, true⟩
def ents : List Ent := [e0, e1, e2, e3, e4, e5, e6, e7, e8, e9, e10, e11, e12, e13, e14, e15, e16]
def globs : List (Str × D) := [("STRENGTHS", .int 3), ("HIDDEN", .int 4)]
def kws : Kws := [(5, 0, ["looks", "number"], [0, 1])]
def gGot : Ent := ⟨"_law_got", top 21, ["_law_ask", "e"], 1, [], false⟩
def gFld : Ent := ⟨"_law_field", top 20, ["_law_one"], 1, [], false⟩
def gd : List GotD := [⟨gGot, gFld, 1⟩]
def exs : List (Str × Option Str) := [("InvalidNumber", some "given"), ("InvalidLooks", none)]
end K28

set_option maxHeartbeats 2000000
/-! P28: the law of grades in plain terms -/
namespace K28
open PySem Z
section
variable {k : Nat} {S : Store} {Q : D → Store → Prop} {E : Ex → Store → Prop}
abbrev prog : List Fn := ents.map Ent.fn
abbrev go (k : Nat) : Nat → List D → M D := run (glOf globs) prog k
theorem pullAt : prog[7]? = some ⟨2, 5, pullB⟩ := rfl
theorem ofAt : prog[8]? = some ⟨2, 2, ofC 7⟩ := rfl
theorem sameAt : prog[9]? = some ⟨2, 5, sameC 9⟩ := rfl
theorem oddAt : prog[10]? = some ⟨1, 1, oddC 8⟩ := rfl
theorem bentAt : prog[11]? = some ⟨2, 4, bentC 7 10 11⟩ := rfl
theorem wi0 : prog[0]? = some ⟨3, 3, withinC⟩ := rfl
theorem wi12 : prog[12]? = some ⟨3, 3, withinC⟩ := rfl
theorem g0 : glOf globs 0 = some (.int 3) := rfl
theorem g1 : glOf globs 1 = some (.int 4) := rfl
def ascI (ns : List Int) : Bool := (ns.zip (ns.drop 1)).all fun p => decide (p.1 < p.2)
def looksB : D → Bool
  | .tup xs => xs.all (witB 1 3) && (match allI xs with
    | some ns => ascI ns
    | none => false)
  | _ => false
theorem wit_int {xs : List D} (h : xs.all (witB 1 3) = true) : ∃ ns : List Int, xs = ns.map D.int ∧ ∀ n ∈ ns, 1 ≤ n ∧ n ≤ 3 := by
  induction xs with
  | nil => exact ⟨[], rfl, fun _ m => by cases m⟩
  | cons x xs ih =>
    simp only [List.all_cons, Bool.and_eq_true] at h
    obtain ⟨ns, rfl, hn⟩ := ih h.2
    have h1 := h.1
    cases x with
    | int i =>
      unfold witB at h1
      simp only [Bool.and_eq_true, decide_eq_true_eq] at h1
      refine ⟨i :: ns, rfl, fun n m => ?_⟩
      rcases List.mem_cons.mp m with rfl | m
      · exact h1
      · exact hn n m
    | _ => cases h1
theorem looks_int {v : D} (h : looksB v = true) : ∃ ns : List Int, v = .tup (ns.map D.int) ∧ ∀ n ∈ ns, 1 ≤ n ∧ n ≤ 3 := by
  cases v with
  | tup xs =>
    unfold looksB at h
    rw [Bool.and_eq_true] at h
    obtain ⟨ns, rfl, hn⟩ := wit_int h.1
    exact ⟨ns, rfl, hn⟩
  | _ => cases h
theorem zip_ints (a b : List Int) (g : D → D → Bool) : (((a.map D.int).zip (b.map D.int)).all fun p => g p.1 p.2) = (a.zip b).all fun p => g (.int p.1) (.int p.2) := by
  induction a generalizing b with
  | nil => rfl
  | cons x xs ih =>
    cases b with
    | nil => rfl
    | cons y ys =>
      simp only [List.map_cons, List.zip_cons_cons, List.all_cons, ih]
def ltI : D → D → Bool
  | .int i, .int j => decide (i < j)
  | _, _ => false
theorem x_asc {f : Nat} {ns : List Int} (h : prog[f]? = some ⟨1, 3, [.ret false (zE .Lt)]⟩) : wp (go (k + 1) f [.tup (ns.map D.int)]) S Q = Q (.bl (ascI ns)) S := by
  unfold go
  rw [wp_run h rfl]
  show wp (execs _ (go k) [.ret false (zE .Lt)] [.val (.tup (ns.map D.int)), .no, .no]) S _ = _
  rw [wp_xret, wp_read]
  simp only [wp_fitF]
  show wp (evalE _ _ (zE .Lt) [some (.tup (ns.map D.int)), none, none]) S _ = _
  rw [wp_zipAll (xs := ns.map D.int) (v' := .tup ((ns.drop 1).map D.int)) (xs' := (ns.drop 1).map D.int) (g := ltI) rfl (fun Q => ?_) rfl (fun a ha b hb => ?_), zip_ints]
  · rfl
  · rw [wp_slFT (by omega), List.map_drop]
    rfl
  · obtain ⟨i, _, rfl⟩ := List.mem_map.mp ha
    obtain ⟨j, _, rfl⟩ := List.mem_map.mp hb
    exact cmp_of fun Q => wp_ltI
/-- all([elt for x in v]) -/
theorem wp_allE {gl : Nat → Option D} {cal : Nat → List D → M D} {env : Z.Env} {elt : Z.E} {j : Nat} {e : Z.E} {v : D} {xs : List D} {g : D → Bool} (he : ∀ Q : D → Store → Prop, wp (evalE gl cal e env) S Q = Q v S) (hs : ∀ QL : List D → Store → Prop, wp (srcItems .val [v]) S QL = QL xs S)
    (hg : ∀ x ∈ xs, ∀ Q : D → Store → Prop, wp (evalE gl cal elt ((wipe env [j]).set j (some x))) S Q = Q (.bl (g x)) S) : wp (evalE gl cal (.op (.bi .all) [.comp [j] elt (.name j) .val [e] []]) env) S Q = Q (.bl (xs.all g)) S := by
  rw [wp_op, wp_cons, wp_compE, wp_cons, he]
  simp only [wp_nil]
  rw [hs, wp_comp_map (g := fun x => some (.bl (g x))) fun x m => ?_, filterMap_some, wp_allM]
  refine of_wp ?_
  rw [wp_compT0]
  show wp (evalE gl cal elt ((wipe env [j]).set j (some x))) S _
  rw [hg x m]
  exact ⟨rfl, rfl⟩
theorem all_num {f : Nat} {c : Z.E} {xs : List D} {rest : Z.Env} (hf : prog[f]? = some ⟨3, 3, withinC⟩) (hc : ∀ (env : Z.Env) (S : Store) (Q : D → Store → Prop), wp (evalE (glOf globs) (go (k + 1)) c env) S Q = Q (.int 3) S) (hd : ∀ x ∈ xs, x.dat = true) :
    wp (evalE (glOf globs) (go (k + 1)) (.op (.bi .all) [.comp [1] (.call f [.var 1, .const (.int 1), c]) (.name 1) .val [.var 0] []]) (some (.tup xs) :: none :: rest)) S Q = Q (.bl (xs.all (witB 1 3))) S := by
  refine wp_allE (fun Q => by rw [wp_varM]; rfl) (fun QL => wp_srcT) fun x m Q => ?_
  show wp (evalE (glOf globs) (go (k + 1)) (.call f [.var 1, .const (.int 1), c]) (some (.tup xs) :: some x :: rest)) S Q = _
  simp only [wp_call, wp_cons, wp_nil, wp_varM, wp_const, hc, List.getElem?_cons_zero, List.getElem?_cons_succ]
  exact wp_within hf (hd x m)
theorem looks_tup {xs : List D} : looksB (.tup xs) = (xs.all (witB 1 3) && (match allI xs with
    | some ns => ascI ns
    | none => false)) := rfl
theorem x_looks {v : D} (h : v.dat = true) : wp (go (k + 2) 2 [v]) S Q = Q (.bl (looksB v)) S := by
  unfold go
  rw [show k + 2 = (k + 1) + 1 from rfl, wp_run (fn := ⟨1, 2, b2⟩) rfl rfl]
  show wp (execs _ (go (k + 1)) b2 [.val v, .no]) S _ = _
  unfold b2
  rw [wp_xif0, wp_read]
  simp only [wp_fitF]
  show wp (evalE _ _ _ [some v, none]) S _ = _
  rw [wp_boolE, wp_bool2, wp_not, wp_op, wp_cons, wp_varM]
  simp only [List.getElem?_cons_zero, wp_nil, wp_isi h, wp_truthB]
  by_cases ht : isD .tuple v = true
  · cases v with
    | tup xs =>
      have hd : ∀ x ∈ xs, x.dat = true := dats_mem.mp (by simpa [D.dat] using h)
      simp only [ht, Bool.not_true, wp_bool1, wp_not, if_true]
      rw [all_num (k := k) (c := .glob 0) (rest := []) wi0 (fun env S Q => by rw [wp_globM, g0]) hd]
      simp only [wp_truthB]
      by_cases hw : xs.all (witB 1 3) = true
      · obtain ⟨ns, rfl, hn⟩ := wit_int hw
        rw [hw]
        simp only [Bool.not_true, Bool.false_eq_true, if_false, wp_xret, wp_read, wp_fitF]
        show wp (evalE _ _ _ [some (.tup (ns.map D.int)), none]) S _ = _
        simp only [wp_call, wp_cons, wp_nil, wp_varM, List.getElem?_cons_zero]
        rw [x_asc (f := 1) rfl, looks_tup, hw, allI_map]
        rfl
      · rw [Bool.not_eq_true] at hw
        rw [hw, looks_tup, hw]
        simp only [Bool.not_false, if_true, wp_xret, wp_read, wp_fitF, wp_const, Bool.false_and]
    | _ => cases ht
  · rw [Bool.not_eq_true] at ht
    have hl : looksB v = false := by
      cases v with
      | tup xs => cases ht
      | _ => rfl
    rw [ht, hl]
    simp only [Bool.not_false, Bool.true_eq_false, if_false, if_true, wp_xret, wp_read, wp_fitF, wp_const]
theorem x_llooks {v : D} (h : v.dat = true) : wp (go (k + 2) 15 [v]) S Q = Q (.bl (looksB v)) S := by
  unfold go
  rw [show k + 2 = (k + 1) + 1 from rfl, wp_run (fn := ⟨1, 2, b15⟩) rfl rfl]
  show wp (execs _ (go (k + 1)) b15 [.val v, .no]) S _ = _
  unfold b15
  rw [wp_xret, wp_read]
  simp only [wp_fitF]
  show wp (evalE _ _ _ [some v, none]) S _ = _
  rw [wp_boolE, wp_bool2, wp_op, wp_cons, wp_varM]
  simp only [List.getElem?_cons_zero, wp_nil, wp_isi h, wp_truthB]
  by_cases ht : isD .tuple v = true
  · cases v with
    | tup xs =>
      have hd : ∀ x ∈ xs, x.dat = true := dats_mem.mp (by simpa [D.dat] using h)
      simp only [ht, if_true]
      rw [wp_bool2, all_num (k := k) (c := .const (.int 3)) (rest := []) wi12 (fun env S Q => wp_const) hd]
      simp only [wp_truthB]
      by_cases hw : xs.all (witB 1 3) = true
      · obtain ⟨ns, rfl, hn⟩ := wit_int hw
        rw [hw]
        simp only [if_true, wp_bool1, wp_call, wp_cons, wp_nil, wp_varM, List.getElem?_cons_zero]
        rw [x_asc (f := 13) rfl, looks_tup, hw, allI_map]
        rfl
      · rw [Bool.not_eq_true] at hw
        rw [hw, looks_tup, hw]
        simp only [Bool.false_eq_true, if_false, Bool.false_and]
    | _ => cases ht
  · rw [Bool.not_eq_true] at ht
    have hl : looksB v = false := by
      cases v with
      | tup xs => cases ht
      | _ => rfl
    rw [ht, hl]
    simp only [Bool.false_eq_true, if_false]
/-! ### the grade -/
def geF (ns : List Int) (n : Int) : List Int := ns.filter fun i => decide (n ≤ i)
def rk (ns : List Int) (n : Int) : Int := match geF ns n with
  | [] => 4
  | a :: as => pickI false a as
def geG (n : Int) : D → Option D
  | .int i => if decide (n ≤ i) = true then some (.int i) else none
  | _ => none
theorem ge_map (n : Int) (ns : List Int) : (ns.map D.int).filterMap (geG n) = (geF ns n).map D.int := by
  induction ns with
  | nil => rfl
  | cons i ns ih =>
    unfold geF at ih ⊢
    by_cases h : n ≤ i
    · simp [geG, h, ih]
    · simp [geG, h, ih]
theorem ge_comp {cal : Nat → List D → M D} {ns : List Int} {n : Int} {j : Nat} {env : Z.Env} {own : List Nat} (hi : ∀ x, bindT (.name j) x (wipe env own) = some ((wipe env own).set j (some x))) (h0 : ∀ x, ((wipe env own).set j (some x))[j]? = some (some x)) (h1 : ∀ x, ((wipe env own).set j (some x))[1]? = some (some (.int n))) (hv : env[0]? = some (some (.tup (ns.map D.int)))) :
    wp (evalE (glOf globs) cal (.comp own (.var j) (.name j) .val [.var 0] [.op (.cmp .GtE) [.var j, .var 1]]) env) S Q = Q (.lst ((geF ns n).map D.int)) S := by
  rw [wp_compE, wp_cons, wp_varM, hv]
  simp only [wp_nil]
  rw [wp_srcT, wp_comp_map (g := geG n) fun x m => ?_, ge_map]
  obtain ⟨i, _, rfl⟩ := List.mem_map.mp m
  refine of_wp ?_
  rw [wp_compT1, hi]
  simp only [wp_op, wp_cons, wp_nil, wp_varM, h0, h1, wp_cmp, wp_geI, wp_truthB]
  unfold geG
  by_cases h : decide (n ≤ i) = true
  · simp only [h, if_true]
    exact ⟨trivial, trivial⟩
  · rw [Bool.not_eq_true] at h
    simp only [h, Bool.false_eq_true, if_false]
    exact ⟨trivial, trivial⟩
theorem x_rank {ns : List Int} {n : Int} : wp (go (k + 1) 4 [.tup (ns.map D.int), .int n]) S Q = Q (.int (rk ns n)) S := by
  unfold go
  rw [wp_run (fn := ⟨2, 3, b4⟩) rfl rfl]
  show wp (execs _ (go k) b4 [.val (.tup (ns.map D.int)), .val (.int n), .no]) S _ = _
  unfold b4
  rw [wp_xret, wp_read]
  simp only [wp_fitF]
  show wp (evalE _ _ _ [some (.tup (ns.map D.int)), some (.int n), none]) S _ = _
  rw [wp_op, wp_cons, ge_comp (n := n) (ns := ns) (fun _ => rfl) (fun _ => rfl) (fun _ => rfl) rfl, wp_cons, wp_globM, g1]
  simp only [wp_nil]
  rw [wp_mnd]
  unfold rk
  cases geF ns n <;> rfl
theorem dats_ints : ∀ ns : List Int, D.dats (ns.map D.int) = true ∧ D.deps (ns.map D.int) = 0
  | [] => ⟨rfl, rfl⟩
  | n :: ns => by
    obtain ⟨h1, h2⟩ := dats_ints ns
    rw [List.map_cons, D.dats, D.deps, h1, h2]
    exact ⟨rfl, rfl⟩
theorem ok_ints {ns : List Int} : okD (.lst (ns.map D.int)) (.lst []) = true := by
  unfold okD
  rw [D.dat, (dats_ints ns).1]
  rw [D.dep, (dats_ints ns).2]
  rfl
theorem eq_ints : ∀ ns : List Int, eqD (.lst (ns.map D.int)) (.lst []) = ns.isEmpty
  | [] => rfl
  | n :: ns => by
    show PyData.eqv (.list (D.pys (D.int n :: ns.map D.int))) (.list (D.pys [])) = false
    rw [PyData.eqv, D.pys, D.pys, PyData.eqvAll]
    all_goals (intros; contradiction)
theorem x_lgrade {ns : List Int} {n : Int} : wp (go (k + 1) 14 [.tup (ns.map D.int), .int n]) S Q = Q (.int (rk ns n)) S := by
  have l0 : ∀ {S : Store} {Q : D → Store → Prop}, wp (opSem .lst []) S Q = Q (.lst []) S := wp_lst (Nat.zero_le _)
  unfold go
  rw [wp_run (fn := ⟨2, 4, b14⟩) rfl rfl]
  show wp (execs _ (go k) b14 [.val (.tup (ns.map D.int)), .val (.int n), .no, .no]) S _ = _
  unfold b14
  rw [wp_xasgN, wp_read]
  simp only [wp_fitF]
  show wp (evalE _ _ _ [some (.tup (ns.map D.int)), some (.int n), none, none]) S _ = _
  rw [ge_comp (n := n) (ns := ns) (fun _ => rfl) (fun _ => rfl) (fun _ => rfl) rfl, wp_xret, wp_read]
  simp only [wp_fitF]
  show wp (evalE _ _ _ [some (.tup (ns.map D.int)), some (.int n), some (.lst ((geF ns n).map D.int)), none]) S _ = _
  rw [wp_ife, wp_op, wp_cons, wp_varM]
  simp only [wp_cons, wp_nil, wp_op, l0, wp_cmp, List.getElem?_cons_zero, List.getElem?_cons_succ, wp_ne_ ok_ints, eq_ints, wp_truthB, wp_varM, wp_const]
  unfold rk
  cases hg : geF ns n with
  | nil => rfl
  | cons a as =>
    simp only [List.isEmpty_cons, Bool.not_false, if_true]
    exact wp_minL
/-- what grade gives -/
def grD (ns : List Int) (n : Int) : D := if rk ns n = 4 then .non else .int (rk ns n)
theorem x_need {v : D} (h : v.dat = true) : wpx (go (k + 3) 3 [v]) S Q E = if looksB v = true then Q .non S else E ⟨"InvalidLooks", none⟩ S := by
  unfold go
  rw [show k + 3 = (k + 2) + 1 from rfl, wpx_run (fn := ⟨1, 1, b3⟩) rfl rfl]
  show wpx (execs _ (go (k + 2)) b3 [.val v]) S _ E = _
  unfold b3
  rw [wpx_xif0]
  show wpx (evalE (glOf globs) (go (k + 2)) (.not (.call 2 [.var 0])) [some v]) S _ E = _
  rw [wpx_is (a := .bl (!looksB v)) (S' := S) fun Q => by
    simp only [wp_not, wp_call, wp_cons, wp_nil, wp_varM, List.getElem?_cons_zero]
    rw [x_looks h]
    simp only [wp_truthB]]
  simp only [wpx_truthB]
  cases looksB v with
  | true =>
    simp only [Bool.not_true, Bool.false_eq_true, if_false, if_true, wpx_x0]
  | false =>
    simp only [Bool.not_false, Bool.false_eq_true, if_false, if_true]
    rw [wpx_xraise]
    simp only [evalEs, wpx_ret]
    rw [if_pos ⟨rfl, Nat.zero_le _⟩]
    rfl
theorem x_grade {v m : D} (hv : v.dat = true) (hm : m.dat = true) (hq : ∀ ns n, v = .tup (ns.map D.int) → m = .int n → looksB v = true → witB 1 3 m = true → Q (grD ns n) S) (h1 : looksB v = false → E ⟨"InvalidLooks", none⟩ S) (h2 : looksB v = true → witB 1 3 m = false → E ⟨"InvalidNumber", some m⟩ S) : wpx (go (k + 4) 5 [v, m]) S Q E := by
  unfold go
  rw [show k + 4 = (k + 3) + 1 from rfl, wpx_run (fn := ⟨2, 3, b5⟩) rfl rfl]
  show wpx (execs _ (go (k + 3)) b5 [.val v, .val m, .no]) S _ E
  unfold b5
  rw [wpx_xexpr]
  show wpx (evalE (glOf globs) (go (k + 3)) (.call 3 [.var 0]) [some v, some m, none]) S _ E
  rw [wpx_call, wpx_is (a := [v]) (S' := S) fun Q => by simp only [wp_cons, wp_nil, wp_varM, List.getElem?_cons_zero], x_need hv]
  by_cases hl : looksB v = true
  · rw [if_pos hl, wpx_xif0]
    show wpx (evalE (glOf globs) (go (k + 3)) (.not (.call 0 [.var 1, .const (.int 1), .glob 0])) [some v, some m, none]) S _ E
    rw [wpx_is (a := .bl (!witB 1 3 m)) (S' := S) fun Q => by
      simp only [wp_not, wp_call, wp_cons, wp_nil, wp_varM, wp_const, wp_globM, g0, List.getElem?_cons_zero, List.getElem?_cons_succ]
      rw [show k + 3 = (k + 2) + 1 from rfl, wp_within wi0 hm]
      simp only [wp_truthB]]
    simp only [wpx_truthB]
    by_cases hw : witB 1 3 m = true
    · rw [hw]
      simp only [Bool.not_true, Bool.false_eq_true, if_false]
      obtain ⟨ns, rfl, hn⟩ := looks_int hl
      cases m with
      | int n =>
        refine wpx_of ?_
        rw [wp_xasgN, wp_read]
        simp only [wp_fitF]
        show wp (evalE (glOf globs) (go (k + 3)) (.call 4 [.var 0, .var 1]) [some (.tup (ns.map D.int)), some (.int n), none]) S _
        simp only [wp_call, wp_cons, wp_nil, wp_varM, List.getElem?_cons_zero, List.getElem?_cons_succ]
        rw [show k + 3 = (k + 2) + 1 from rfl, x_rank, wp_xret, wp_read]
        simp only [wp_fitF]
        show wp (evalE (glOf globs) (go (k + 2 + 1)) (.ife (.op (.cmp .NotEq) [(.var 2), (.glob 1)]) (.var 2) (.const .non)) [some (.tup (ns.map D.int)), some (.int n), some (.int (rk ns n))]) S _
        simp only [wp_ife, wp_op, wp_cons, wp_nil, wp_varM, wp_globM, g1, List.getElem?_cons_zero, List.getElem?_cons_succ, wp_cmp, wp_neI, wp_truthB, wp_const]
        have q := hq ns n rfl rfl hl hw
        unfold grD at q
        by_cases h4 : rk ns n = 4
        · rw [if_pos h4] at q
          simp only [h4, decide_true, Bool.not_true, Bool.false_eq_true, if_false]
          exact q
        · rw [if_neg h4] at q
          simp only [h4, decide_false, Bool.not_false, if_true]
          exact q
      | _ => cases hw
    · rw [Bool.not_eq_true] at hw
      rw [hw]
      simp only [Bool.not_false, if_true]
      rw [wpx_xraise]
      show wpx (evalEs (glOf globs) (go (k + 3)) [.var 1] [some v, some m, none]) S _ E
      rw [wpx_is (a := [m]) (S' := S) fun Q => by simp only [wp_cons, wp_nil, wp_varM, List.getElem?_cons_zero, List.getElem?_cons_succ]]
      rw [if_pos ⟨rfl, Nat.le_refl _⟩]
      exact h2 hl hw
  · rw [if_neg hl]
    exact h1 (by simpa using hl)
/-! ### a turn of the law -/
def r2 : List Cmd := [.asg false (.name 4) (.ife (.op (.cmp .Gt) [(.call 7 [(.var 1), (.const (.int 3))]), (.const (.int 0))]) (.op (.bin .Add) [(.const (.int 1)), (.call 7 [(.var 1), (.const (.int 3))])]) (.call 10 [(.var 1)])), .asg false (.name 5) (.call 15 [(.var 3)]), .ifs false (.not (.call 9 [(.call 2 [(.var 3)]), (.var 5)])) [.ret false (.const (.bl false))] [], .asg false (.name 6) (.op .tup [(.const (.str "InvalidLooks")), (.const .non)]), .ifs false (.var 5) [.asg false (.name 6) (.op .tup [(.const (.str "InvalidNumber")), (.var 4)]), .ifs false (.call 12 [(.var 4), (.const (.int 1)), (.const (.int 3))]) [.asg false (.name 7) (.call 14 [(.var 3), (.var 4)]), .asg false (.name 6) (.op .tup [(.const (.str "value")), (.ife (.op (.cmp .Lt) [(.var 7), (.const (.int 4))]) (.var 7) (.const .non))])] []] [], .ifs false (.not (.call 9 [(.got false (.call 5 [(.var 3), (.var 4)])), (.var 6)])) [.ret false (.const (.bl false))] []]
def r3 : List Cmd := [.asg false (.name 5) (.call 15 [(.var 3)]), .ifs false (.not (.call 9 [(.call 2 [(.var 3)]), (.var 5)])) [.ret false (.const (.bl false))] [], .asg false (.name 6) (.op .tup [(.const (.str "InvalidLooks")), (.const .non)]), .ifs false (.var 5) [.asg false (.name 6) (.op .tup [(.const (.str "InvalidNumber")), (.var 4)]), .ifs false (.call 12 [(.var 4), (.const (.int 1)), (.const (.int 3))]) [.asg false (.name 7) (.call 14 [(.var 3), (.var 4)]), .asg false (.name 6) (.op .tup [(.const (.str "value")), (.ife (.op (.cmp .Lt) [(.var 7), (.const (.int 4))]) (.var 7) (.const .non))])] []] [], .ifs false (.not (.call 9 [(.got false (.call 5 [(.var 3), (.var 4)])), (.var 6)])) [.ret false (.const (.bl false))] []]
def r4 : List Cmd := [.ifs false (.not (.call 9 [(.call 2 [(.var 3)]), (.var 5)])) [.ret false (.const (.bl false))] [], .asg false (.name 6) (.op .tup [(.const (.str "InvalidLooks")), (.const .non)]), .ifs false (.var 5) [.asg false (.name 6) (.op .tup [(.const (.str "InvalidNumber")), (.var 4)]), .ifs false (.call 12 [(.var 4), (.const (.int 1)), (.const (.int 3))]) [.asg false (.name 7) (.call 14 [(.var 3), (.var 4)]), .asg false (.name 6) (.op .tup [(.const (.str "value")), (.ife (.op (.cmp .Lt) [(.var 7), (.const (.int 4))]) (.var 7) (.const .non))])] []] [], .ifs false (.not (.call 9 [(.got false (.call 5 [(.var 3), (.var 4)])), (.var 6)])) [.ret false (.const (.bl false))] []]
def r5 : List Cmd := [.asg false (.name 6) (.op .tup [(.const (.str "InvalidLooks")), (.const .non)]), .ifs false (.var 5) [.asg false (.name 6) (.op .tup [(.const (.str "InvalidNumber")), (.var 4)]), .ifs false (.call 12 [(.var 4), (.const (.int 1)), (.const (.int 3))]) [.asg false (.name 7) (.call 14 [(.var 3), (.var 4)]), .asg false (.name 6) (.op .tup [(.const (.str "value")), (.ife (.op (.cmp .Lt) [(.var 7), (.const (.int 4))]) (.var 7) (.const .non))])] []] [], .ifs false (.not (.call 9 [(.got false (.call 5 [(.var 3), (.var 4)])), (.var 6)])) [.ret false (.const (.bl false))] []]
def r6 : List Cmd := [.ifs false (.var 5) [.asg false (.name 6) (.op .tup [(.const (.str "InvalidNumber")), (.var 4)]), .ifs false (.call 12 [(.var 4), (.const (.int 1)), (.const (.int 3))]) [.asg false (.name 7) (.call 14 [(.var 3), (.var 4)]), .asg false (.name 6) (.op .tup [(.const (.str "value")), (.ife (.op (.cmp .Lt) [(.var 7), (.const (.int 4))]) (.var 7) (.const .non))])] []] [], .ifs false (.not (.call 9 [(.got false (.call 5 [(.var 3), (.var 4)])), (.var 6)])) [.ret false (.const (.bl false))] []]
def r7 : List Cmd := [.ifs false (.not (.call 9 [(.got false (.call 5 [(.var 3), (.var 4)])), (.var 6)])) [.ret false (.const (.bl false))] []]
def looks12 : List D := [.tup [], .tup [.int 1], .tup [.int 2], .tup [.int 3], .tup [.int 1, .int 2], .tup [.int 1, .int 3], .tup [.int 2, .int 3], .tup [.int 1, .int 2, .int 3], .tup [.int 2, .int 1], .tup [.int 1, .int 1], .tup [.int 0, .int 1], .tup [.int 3, .int 4]]
theorem looks12_fit : looks12.all (fitB 3 2) = true := by decide +kernel
theorem rk_le {ns : List Int} (hn : ∀ n ∈ ns, 1 ≤ n ∧ n ≤ 3) (n : Int) : rk ns n ≤ 4 := by
  unfold rk
  cases hg : geF ns n with
  | nil => exact Int.le_refl _
  | cons a as =>
    have ha : a ∈ ns := (List.mem_filter.mp (by unfold geF at hg; rw [hg]; exact List.mem_cons_self)).1
    have key : ∀ (as : List Int) (b : Int), b ≤ 4 → as.foldl min b ≤ 4 := by
      intro as
      induction as with
      | nil => exact fun b h => h
      | cons c cs ih => exact fun b h => ih _ (Int.le_trans (Int.min_le_left _ _) h)
    show (if false = true then as.foldl max a else as.foldl min a) ≤ 4
    rw [if_neg Bool.false_ne_true]
    exact key as a (by have := (hn a ha).2; omega)
theorem same_ok {v : D} (hf : v.dat = true) (hd : v.dep ≤ 45) (S : Store) (Q : D → Store → Prop) : wp (go 99 9 [v, v]) S Q = Q (.bl true) S := wp_same (gl := glOf globs) sameAt 45 53 v hf hd (by show 45 ≤ 200; omega) S Q
def grV : D → D → D
  | .tup xs, .int n => (match allI xs with
    | some ns => grD ns n
    | none => .non)
  | _, _ => .non
def gotD (v m : D) : D := if looksB v = true then if witB 1 3 m = true then .tup [.str "value", grV v m] else .tup [.str "InvalidNumber", m] else .tup [.str "InvalidLooks", .non]
theorem grV_ints {ns : List Int} {n : Int} : grV (.tup (ns.map D.int)) (.int n) = grD ns n := by
  show (match allI (ns.map D.int) with
    | some ns => grD ns n
    | none => .non) = grD ns n
  rw [allI_map]
theorem x_got {v m : D} (hv : v.dat = true) (hm : m.dat = true) {env : Z.Env} (h3 : env[3]? = some (some v)) (h4 : env[4]? = some (some m)) (q : Q (gotD v m) S) : wp (evalE (glOf globs) (go 99) (.got false (.call 5 [(.var 3), (.var 4)])) env) S Q := by
  refine wp_got ?_
  rw [wpx_call, wpx_is (a := [v, m]) (S' := S) fun Q => by simp only [wp_cons, wp_nil, wp_varM, h3, h4]]
  unfold gotD at q
  refine x_grade (k := 95) hv hm (fun ns n e1 e2 hl hw => ?_) (fun hl => ?_) (fun hl hw => ?_)
  · subst e1 e2
    rw [if_pos hl, if_pos hw, grV_ints] at q
    exact q
  · rw [if_neg (by rw [hl]; simp)] at q
    exact q
  · rw [if_pos hl, if_neg (by rw [hw]; simp)] at q
    exact q
theorem gr_fit {v m : D} : Fit 0 0 (grV v m) := by
  unfold grV
  split
  · split
    · unfold grD
      split
      · exact ⟨rfl, Nat.le_refl _, Nat.le_refl _⟩
      · exact .int _
    · exact ⟨rfl, Nat.le_refl _, Nat.le_refl _⟩
  · exact ⟨rfl, Nat.le_refl _, Nat.le_refl _⟩
theorem got_fit {v m : D} (hm : Fit 4 4 m) : Fit 4 5 (gotD v m) := by
  have n0 : Fit 4 4 D.non := ⟨rfl, by decide, by decide⟩
  have pr : ∀ {a b : D}, Fit 4 4 a → Fit 4 4 b → Fit 4 5 (.tup [a, b]) := fun {a b} h1 h2 => .tup (by show 2 ≤ 4; omega) fun x hx => by
    rcases List.mem_cons.mp hx with rfl | hx
    · exact h1
    · rcases List.mem_cons.mp hx with rfl | hx
      · exact h2
      · cases hx
  unfold gotD
  split
  · split
    · exact pr (.str _) (gr_fit.mono (by omega) (by omega))
    · exact pr (.str _) hm
  · exact pr (.str _) n0
/-- the end of a turn -/
def TurnP (s : D) : Out → Store → Prop := fun o S => ∃ a2 a3 a4 a5 a6 a7 : Slot, o = .nx [.val s, .val (.loc 0), a2, a3, a4, a5, a6, a7] ∧ Bag [] S
theorem x_r7 {s v m : D} {a2 a5 a7 : Slot} (hv : Fit 4 4 v) (hm : Fit 4 4 m) (hB : Bag [] S) : wp (execs (glOf globs) (go 99) r7 [.val s, .val (.loc 0), a2, .val v, .val m, a5, .val (gotD v m), a7]) S (TurnP s) := by
  have sm := same_ok (got_fit (v := v) hm).dat (Nat.le_trans (got_fit (v := v) hm).dep (by omega))
  unfold r7
  rw [wp_xif0, wp_read, wp_not, wp_call, wp_cons]
  refine x_got hv.dat hm.dat rfl rfl ?_
  simp only [wp_cons, wp_nil, wp_varM, Fr.env, Bool.false_eq_true, if_false, List.map_cons, List.map_nil, List.getElem?_cons_zero, List.getElem?_cons_succ, Slot.str, sm, wp_truthB, wp_fitF, Bool.not_true, wp_x0]
  exact ⟨_, _, _, _, _, _, rfl, hB⟩
theorem x_r3 {s v m : D} {a2 a5 a6 a7 : Slot} (hv : Fit 4 4 v) (hm : Fit 4 4 m) (hB : Bag [] S) : wp (execs (glOf globs) (go 99) r3 [.val s, .val (.loc 0), a2, .val v, .val m, a5, a6, a7]) S (TurnP s) := by
  have t2 : ∀ {S : Store} {Q : D → Store → Prop} {a b : D}, wp (opSem .tup [a, b]) S Q = Q (.tup [a, b]) S := wp_tup (by show 2 ≤ 16777216; omega)
  have e15 : ∀ (S : Store) (Q : D → Store → Prop), wp (go 99 15 [v]) S Q = Q (.bl (looksB v)) S := fun S Q => x_llooks (k := 97) hv.dat
  have e2 : ∀ (S : Store) (Q : D → Store → Prop), wp (go 99 2 [v]) S Q = Q (.bl (looksB v)) S := fun S Q => x_looks (k := 97) hv.dat
  have e12 : ∀ (S : Store) (Q : D → Store → Prop), wp (go 99 12 [m, .int 1, .int 3]) S Q = Q (.bl (witB 1 3 m)) S := fun S Q => wp_within (k := 98) wi12 hm.dat
  have smB := same_ok (v := .bl (looksB v)) rfl (Nat.zero_le _)
  unfold r3
  simp only [wp_xasgN, wp_xif0, wp_read, wp_fitF, wp_not, wp_call, wp_cons, wp_nil, wp_varM, Fr.env, Bool.false_eq_true, if_false, List.map_cons, List.map_nil, List.set_cons_zero, List.set_cons_succ, List.getElem?_cons_zero, List.getElem?_cons_succ, Slot.str, e15, e2, smB, wp_truthB, Bool.not_true, wp_op, wp_const, t2]
  have sm := same_ok (got_fit (v := v) hm).dat (Nat.le_trans (got_fit (v := v) hm).dep (by omega))
  by_cases hl : looksB v = true
  · obtain ⟨ns, hns, hn⟩ := looks_int hl
    simp only [hl, if_true, e12, wp_truthB]
    by_cases hw : witB 1 3 m = true
    · simp only [hw, if_true]
      cases m with
      | int n =>
        subst hns
        have e14 : ∀ (S : Store) (Q : D → Store → Prop), wp (go 99 14 [.tup (ns.map D.int), .int n]) S Q = Q (.int (rk ns n)) S := fun S Q => x_lgrade (k := 98)
        have hg : gotD (.tup (ns.map D.int)) (.int n) = .tup [.str "value", grD ns n] := by
          unfold gotD
          rw [if_pos hl, if_pos hw, grV_ints]
        rw [hg] at sm
        simp only [e14, wp_ife, wp_cmp, wp_ltI, wp_truthB, wp_x0, wp_op, wp_cons, wp_nil, wp_varM, wp_const, t2, List.getElem?_cons_zero, List.getElem?_cons_succ]
        have hle := rk_le hn n
        unfold grD at sm hg
        by_cases h4 : rk ns n = 4
        · rw [if_pos h4] at sm hg
          simp only [h4, show decide ((4 : Int) < 4) = false from rfl, Bool.false_eq_true, if_false]
          refine x_got hv.dat hm.dat rfl rfl ?_
          rw [hg]
          simp only [List.map_cons, List.map_nil, List.getElem?_cons_zero, List.getElem?_cons_succ, Slot.str, sm, wp_truthB, Bool.not_true, Bool.false_eq_true, if_false]
          exact ⟨_, _, _, _, _, _, rfl, hB⟩
        · rw [if_neg h4] at sm hg
          simp only [show decide (rk ns n < 4) = true from decide_eq_true (by omega), if_true]
          refine x_got hv.dat hm.dat rfl rfl ?_
          rw [hg]
          simp only [List.map_cons, List.map_nil, List.getElem?_cons_zero, List.getElem?_cons_succ, Slot.str, sm, wp_truthB, Bool.not_true, Bool.false_eq_true, if_false]
          exact ⟨_, _, _, _, _, _, rfl, hB⟩
      | _ => cases hw
    · rw [Bool.not_eq_true] at hw
      have hg : gotD v m = .tup [.str "InvalidNumber", m] := by
        unfold gotD
        rw [if_pos hl, if_neg (by rw [hw]; simp)]
      rw [hg] at sm
      simp only [hw, Bool.false_eq_true, if_false, wp_x0]
      refine x_got hv.dat hm.dat rfl rfl ?_
      rw [hg]
      simp only [List.map_cons, List.map_nil, List.getElem?_cons_zero, List.getElem?_cons_succ, Slot.str, sm, wp_truthB, Bool.not_true, Bool.false_eq_true, if_false]
      exact ⟨_, _, _, _, _, _, rfl, hB⟩
  · rw [Bool.not_eq_true] at hl
    have hg : gotD v m = .tup [.str "InvalidLooks", .non] := by
      unfold gotD
      rw [if_neg (by rw [hl]; simp)]
    rw [hg] at sm
    simp only [hl, Bool.false_eq_true, if_false]
    refine x_got hv.dat hm.dat rfl rfl ?_
    rw [hg]
    simp only [List.map_cons, List.map_nil, List.getElem?_cons_zero, List.getElem?_cons_succ, Slot.str, sm, wp_truthB, Bool.not_true, Bool.false_eq_true, if_false]
    exact ⟨_, _, _, _, _, _, rfl, hB⟩
theorem x_r2 {s v : D} {a2 a4 a5 a6 a7 : Slot} (hv : Fit 4 4 v) (hB : Bag [] S) : wp (execs (glOf globs) (go 99) r2 [.val s, .val (.loc 0), a2, .val v, a4, a5, a6, a7]) S (TurnP s) := by
  show wp (execs (glOf globs) (go 99) (.asg false (.name 4) (.ife (.op (.cmp .Gt) [(.call 7 [(.var 1), (.const (.int 3))]), (.const (.int 0))]) (.op (.bin .Add) [(.const (.int 1)), (.call 7 [(.var 1), (.const (.int 3))])]) (.call 10 [(.var 1)])) :: r3) [.val s, .val (.loc 0), a2, .val v, a4, a5, a6, a7]) S (TurnP s)
  simp only [wp_xasgN, wp_read, wp_fitF, wp_ife, wp_op, wp_cons, wp_nil, wp_call, wp_varM, wp_const, Fr.env, Bool.false_eq_true, if_false, List.map_cons, List.map_nil, List.getElem?_cons_zero, List.getElem?_cons_succ, Slot.str]
  refine wp_pull (k := 98) pullAt (by omega) (by omega) hB fun r S1 hB1 h0 h1 => ?_
  simp only [wp_cmp, wp_gtI, wp_truthB]
  by_cases hr : 0 < r
  · simp only [hr, decide_true, if_true]
    refine wp_pull (k := 98) pullAt (by omega) (by omega) hB1 fun r2 S2 hB2 _ _ => ?_
    simp only [wp_add, List.set_cons_zero, List.set_cons_succ]
    exact x_r3 hv (.int _) hB2
  · simp only [hr, decide_false, Bool.false_eq_true, if_false]
    exact wp_odd (k := 96) pullAt ofAt oddAt hB1 fun x S2 hB2 hx => x_r3 hv (hx.mono (by omega) (by omega)) hB2
theorem x_turn {s : D} {a2 a3 a4 a5 a6 a7 : Slot} (hB : Bag [] S) : wp (execs (glOf globs) (go 99) (.asg false (.name 3) (.call 8 [(.var 1), (.op .lst [(.op .tup []), (.op .tup [(.const (.int 1))]), (.op .tup [(.const (.int 2))]), (.op .tup [(.const (.int 3))]), (.op .tup [(.const (.int 1)), (.const (.int 2))]), (.op .tup [(.const (.int 1)), (.const (.int 3))]), (.op .tup [(.const (.int 2)), (.const (.int 3))]), (.op .tup [(.const (.int 1)), (.const (.int 2)), (.const (.int 3))]), (.op .tup [(.const (.int 2)), (.const (.int 1))]), (.op .tup [(.const (.int 1)), (.const (.int 1))]), (.op .tup [(.const (.int 0)), (.const (.int 1))]), (.op .tup [(.const (.int 3)), (.const (.int 4))])])]) :: .ifs false (.op (.cmp .Eq) [(.call 7 [(.var 1), (.const (.int 3))]), (.const (.int 0))]) [.asg false (.name 3) (.call 11 [(.var 1), (.var 3)])] [] :: r2) [.val s, .val (.loc 0), a2, a3, a4, a5, a6, a7]) S (TurnP s) := by
  have t0 : ∀ {S : Store} {Q : D → Store → Prop}, wp (opSem .tup []) S Q = Q (.tup []) S := wp_tup (Nat.zero_le _)
  have t1 : ∀ {S : Store} {Q : D → Store → Prop} {a : D}, wp (opSem .tup [a]) S Q = Q (.tup [a]) S := wp_tup (by show 1 ≤ 16777216; omega)
  have t2 : ∀ {S : Store} {Q : D → Store → Prop} {a b : D}, wp (opSem .tup [a, b]) S Q = Q (.tup [a, b]) S := wp_tup (by show 2 ≤ 16777216; omega)
  have t3 : ∀ {S : Store} {Q : D → Store → Prop} {a b c : D}, wp (opSem .tup [a, b, c]) S Q = Q (.tup [a, b, c]) S := wp_tup (by show 3 ≤ 16777216; omega)
  have ll : ∀ {S : Store} {Q : D → Store → Prop}, wp (opSem .lst looks12) S Q = Q (.lst looks12) S := wp_lst (by show 12 ≤ 16777216; omega)
  unfold looks12 at ll
  simp only [wp_xasgN, wp_read, wp_fitF, wp_op, wp_cons, wp_nil, wp_call, wp_varM, wp_const, Fr.env, Bool.false_eq_true, if_false, List.map_cons, List.map_nil, List.getElem?_cons_zero, List.getElem?_cons_succ, Slot.str, t0, t1, t2, t3, ll]
  refine wp_ofL (k := 97) (xs := looks12) ofAt pullAt (by show 0 < 12; omega) (by show 12 < 1073741824; omega) hB fun v S1 hB1 m => ?_
  have hv : Fit 3 2 v := fit_by (List.all_eq_true.mp looks12_fit v m)
  simp only [wp_xif0, wp_xasgN, wp_read, wp_fitF, wp_op, wp_cons, wp_nil, wp_call, wp_varM, wp_const, Fr.env, Bool.false_eq_true, if_false, List.map_cons, List.map_nil, List.set_cons_zero, List.set_cons_succ, List.getElem?_cons_zero, List.getElem?_cons_succ, Slot.str, wp_x0]
  refine wp_pull (k := 98) pullAt (by omega) (by omega) hB1 fun r S2 hB2 h0 h1 => ?_
  simp only [wp_cmp, wp_eqI, wp_truthB]
  by_cases hr : r = 0
  · simp only [hr, decide_true, if_true]
    refine wp_bent pullAt ofAt oddAt bentAt (w := 3) (by omega) (by omega) 2 93 v S2 _ hv hB2 fun x S3 hB3 hx => ?_
    exact x_r2 hx hB3
  · simp only [hr, decide_false, Bool.false_eq_true, if_false]
    exact x_r2 (hv.mono (by omega) (by omega)) hB2
theorem clns_ints : ∀ ns : List Int, D.clns (ns.map D.int) = true
  | [] => rfl
  | n :: ns => by
    rw [List.map_cons, D.clns, clns_ints ns]
    rfl
theorem wp_callK {gl : Nat → Option D} {cal : Nat → List D → M D} {f n : Nat} {ks : List Str} {perm : List Nat} {es kes : List Z.E} {env : Z.Env} : wp (evalE gl cal (.callK f n ks perm es kes) env) S Q = wp (evalEs gl cal es env) S fun us S => wp (evalEs gl cal kes env) S fun ws S => wp (cal f (plc n ks.length perm us ws)) S Q := by
  simp only [evalE, wp_bind]
theorem x_bag {ns : List Int} (q : ∀ S', Bag [] S' → Q (.loc 0) S') : wp (go 99 6 [.scr (ns.map D.int)]) [] Q := by
  unfold go
  rw [wp_run (fn := ⟨1, 1, b6⟩) rfl rfl]
  show wp (execs _ (go 98) b6 [.val (.scr (ns.map D.int))]) [] _
  simp only [b6, wp_xret, wp_read, wp_fitF, wp_alloc, wp_op, wp_cons, wp_nil, wp_varM, wp_const, Fr.env, Bool.false_eq_true, if_false, List.map_cons, List.map_nil, List.getElem?_cons_zero, Slot.str, wp_slTR (show (0 : Int) ≤ 63 by omega), wp_listL]
  rw [if_pos]
  · refine q _ ⟨ns.take 63, 0, 0, 5617, ?_, by omega, by omega, by omega, by omega⟩
    rw [List.map_take]
    rfl
  · refine ⟨by show 4 ≤ 16777216; omega, ?_⟩
    rw [← List.map_take]
    simp only [D.clns, D.cln, clns_ints]
    rfl
/-- a grade that is one -/
theorem y_grade {ns : List Int} {n : Int} (hl : looksB (.tup (ns.map D.int)) = true) (hw : witB 1 3 (.int n) = true) (hd : (D.tup (ns.map D.int)).dat = true) (S : Store) (Q : D → Store → Prop) : wp (go 99 5 [.tup (ns.map D.int), .int n]) S Q = Q (grD ns n) S := by
  have h := x_grade (k := 95) (S := S) (Q := fun d T => d = grD ns n ∧ T = S) (E := fun _ _ => False) (v := .tup (ns.map D.int)) (m := .int n) hd rfl (fun ms k e1 e2 _ _ => by
    cases e2
    have e3 : allI (ns.map D.int) = allI (ms.map D.int) := by
      injection e1 with e1
      rw [e1]
    rw [allI_map, allI_map] at e3
    cases e3
    exact ⟨rfl, rfl⟩) (fun z => by rw [hl] at z; cases z) (fun _ z => by rw [hw] at z; cases z)
  unfold wpx at h
  cases e : go 99 5 [.tup (ns.map D.int), .int n] S with
  | ok d T =>
    rw [e] at h
    obtain ⟨rfl, rfl⟩ := h
    exact wp_eq e
  | exc x T => rw [e] at h; exact h.elim
  | stuck => rw [e] at h; exact h.elim
theorem law_ok {ns : List Int} : wp (go 100 16 [.scr (ns.map D.int)]) [] fun d _ => d = .bl true := by
  have t0 : ∀ {S : Store} {Q : D → Store → Prop}, wp (opSem .tup []) S Q = Q (.tup []) S := wp_tup (Nat.zero_le _)
  have t1 : ∀ {S : Store} {Q : D → Store → Prop} {a : D}, wp (opSem .tup [a]) S Q = Q (.tup [a]) S := wp_tup (by show 1 ≤ 16777216; omega)
  have l3 : ∀ {S : Store} {Q : D → Store → Prop} {a b c : D}, wp (opSem .lst [a, b, c]) S Q = Q (.lst [a, b, c]) S := wp_lst (by show 3 ≤ 16777216; omega)
  unfold go
  rw [wp_run (fn := ⟨1, 8, b16⟩) rfl rfl]
  show wp (execs _ (go 99) b16 [.val (.scr (ns.map D.int)), .no, .no, .no, .no, .no, .no, .no]) [] _
  unfold b16
  rw [wp_xasgN]
  simp only [wp_read, wp_fitF, wp_call, wp_cons, wp_nil, wp_varM, Fr.env, Bool.false_eq_true, if_false, List.map_cons, List.map_nil, List.getElem?_cons_zero, Slot.str]
  refine x_bag fun S1 hB1 => ?_
  rw [wp_xfor]
  simp only [wp_cons, wp_nil, wp_const]
  rw [wp_srcN ⟨by omega, by omega⟩]
  refine wp_loop (fun _ fr S => ∃ a2 a3 a4 a5 a6 a7, fr = [.val (.scr (ns.map D.int)), .val (.loc 0), a2, a3, a4, a5, a6, a7] ∧ Bag [] S) _ 0 _ _ ⟨_, _, _, _, _, _, rfl, hB1⟩ ?_ ?_
  · rintro j x fr S _ ⟨a2, a3, a4, a5, a6, a7, rfl, hB⟩
    have hs : storeT (.name 2) x [.val (.scr (ns.map D.int)), .val (.loc 0), a2, a3, a4, a5, a6, a7] = some [.val (.scr (ns.map D.int)), .val (.loc 0), .val x, a3, a4, a5, a6, a7] := rfl
    rw [hs]
    refine wp_mono (x_turn hB) fun o S' h => ?_
    obtain ⟨b2, b3, b4, b5, b6, b7, rfl, hB'⟩ := h
    exact ⟨_, _, _, _, _, _, rfl, hB'⟩
  · rintro fr S ⟨a2, a3, a4, a5, a6, a7, rfl, hB⟩
    have hk : ∀ a b : D, plc 0 2 [0, 1] [] [a, b] = [a, b] := fun _ _ => rfl
    have e1 := y_grade (ns := [2]) (n := 1) (by decide +kernel) (by decide +kernel) rfl
    have e2 := y_grade (ns := [2]) (n := 3) (by decide +kernel) (by decide +kernel) rfl
    have e3 := y_grade (ns := []) (n := 1) (by decide +kernel) (by decide +kernel) rfl
    have d1 : grD [2] 1 = .int 2 := by rfl
    have d2 : grD [2] 3 = .non := by rfl
    have d3 : grD [] 1 = .non := by rfl
    rw [d1] at e1
    rw [d2] at e2
    rw [d3] at e3
    simp only [List.map_cons, List.map_nil] at e1 e2 e3
    have sm := same_ok (v := .lst [.int 2, .non, .non]) rfl (by decide +kernel)
    simp only [wp_xret, wp_read, wp_fitF, wp_op, wp_call, wp_callK, wp_cons, wp_nil, wp_const, t0, t1, e1, e2, e3, l3, sm, hk, List.length_cons, List.length_nil, Nat.zero_add, Nat.reduceAdd]
theorem pure_ : ∀ ns : List Int, ns.length ≤ 63 → ∃ S, run (glOf globs) (ents.map Ent.fn) 100 16 [.scr (ns.map D.int)] [] = .ok (.bl true) S := fun ns _ => by
  obtain ⟨d, S, h, rfl⟩ := wp_ok (law_ok (ns := ns))
  exact ⟨S, h⟩
end
end K28

set_option maxHeartbeats 0
namespace K28
open PySem PySem.Spec PyProof.Rows L2 Z
theorem bind0 : BindP e0 := fun _ _ _ _ _ _ us hl => match us, hl with | [_, _, _], _ => rfl
theorem bind1 : BindP e1 := fun _ _ _ _ _ _ us hl => match us, hl with | [_], _ => rfl
theorem bind2 : BindP e2 := fun _ _ _ _ _ _ us hl => match us, hl with | [_], _ => rfl
theorem bind3 : BindP e3 := fun _ _ _ _ _ _ us hl => match us, hl with | [_], _ => rfl
theorem bind4 : BindP e4 := fun _ _ _ _ _ _ us hl => match us, hl with | [_, _], _ => rfl
theorem bind5 : BindP e5 := fun _ _ _ _ _ _ us hl => match us, hl with | [_, _], _ => rfl
theorem bind6 : BindP e6 := fun _ _ _ _ _ _ us hl => match us, hl with | [_], _ => rfl
theorem bind7 : BindP e7 := fun _ _ _ _ _ _ us hl => match us, hl with | [_, _], _ => rfl
theorem bind8 : BindP e8 := fun _ _ _ _ _ _ us hl => match us, hl with | [_, _], _ => rfl
theorem bind9 : BindP e9 := fun _ _ _ _ _ _ us hl => match us, hl with | [_, _], _ => rfl
theorem bind10 : BindP e10 := fun _ _ _ _ _ _ us hl => match us, hl with | [_], _ => rfl
theorem bind11 : BindP e11 := fun _ _ _ _ _ _ us hl => match us, hl with | [_, _], _ => rfl
theorem bind12 : BindP e12 := fun _ _ _ _ _ _ us hl => match us, hl with | [_, _, _], _ => rfl
theorem bind13 : BindP e13 := fun _ _ _ _ _ _ us hl => match us, hl with | [_], _ => rfl
theorem bind14 : BindP e14 := fun _ _ _ _ _ _ us hl => match us, hl with | [_, _], _ => rfl
theorem bind15 : BindP e15 := fun _ _ _ _ _ _ us hl => match us, hl with | [_], _ => rfl
theorem bind16 : BindP e16 := fun _ _ _ _ _ _ us hl => match us, hl with | [_], _ => rfl
theorem bindK0 : BindK e5 0 ["looks", "number"] [0, 1] := ⟨by decide, fun _ _ _ _ _ _ us ws h1 h2 => match us, h1, ws, h2 with | [], _, [_, _], _ => rfl⟩
theorem bindKs : ∀ f n ks perm, (f, n, ks, perm) ∈ kws → ∀ e, ents[f]? = some e → BindK e n ks perm := fun f n ks perm h e he => by
  simp only [kws, List.mem_cons, List.not_mem_nil, or_false, Prod.mk.injEq] at h
  rcases h with ⟨rfl, rfl, rfl, rfl⟩
  · cases he; exact bindK0
theorem bindGot : BindP gGot := fun _ _ _ _ _ _ us hl => match us, hl with | [_], _ => rfl
theorem bindFld : BindP gFld := fun _ _ _ _ _ _ us hl => match us, hl with | [_], _ => rfl
theorem gbinds : ∀ g ∈ gd, BindP g.got ∧ BindP g.fld := fun g h => by
  obtain rfl := List.mem_singleton.mp h
  exact ⟨bindGot, bindFld⟩
theorem binds : ∀ (i : Nat) (e : Ent), ents[i]? = some e → BindP e := fun i e h => match i, h with
  | 0, h => by cases h; exact bind0
  | 1, h => by cases h; exact bind1
  | 2, h => by cases h; exact bind2
  | 3, h => by cases h; exact bind3
  | 4, h => by cases h; exact bind4
  | 5, h => by cases h; exact bind5
  | 6, h => by cases h; exact bind6
  | 7, h => by cases h; exact bind7
  | 8, h => by cases h; exact bind8
  | 9, h => by cases h; exact bind9
  | 10, h => by cases h; exact bind10
  | 11, h => by cases h; exact bind11
  | 12, h => by cases h; exact bind12
  | 13, h => by cases h; exact bind13
  | 14, h => by cases h; exact bind14
  | 15, h => by cases h; exact bind15
  | 16, h => by cases h; exact bind16
  | k + 17, h => by cases h
theorem oks : ents.all (Ent.ok (cfOf ents globs kws gd exs)) = true := by decide +kernel
theorem globsOk : globs.all globOk = true := by decide +kernel
theorem gdOk : gd.all gotOk = true := by decide +kernel
abbrev R : PySem.W.OpenRow := PySem.W.OpenLaw.row PySem.Challenge.rw_shownagain_k28_grades_of_joints
def exq : PySem.W.Frag → Bool := exOf (PySem.Challenge.rw_shownagain_k28_grades_of_joints).prog.main.file ents gd exs
abbrev hk : PySem.W.Hook := hookZ 5 (faOf ents globs gd) (dfOf ents gd) (tfOf ents) exq
def ob (s : PySem.W.SharedT) : AlZ := obsZ 5 (faOf ents globs gd) (dfOf ents gd) (tfOf ents) exq (HandSHeadRun.getT s)
theorem ob_eq (s : PySem.W.SharedT) : ob s = hk.obs s.abs := obsZ_eq (HandSHeadRun.getT_eq s)
def loose : List PySem.Str := ["__name__", "HeapError", "ValueError", "Missing", "LookupError", "InvalidNumber", "InvalidLooks", "NothingLeft", "IndexError", "STRENGTHS", "is_within", "is_ascending", "HIDDEN", "is_looks", "need_looks", "rank", "grade", "_law_bag", "_law_pull", "_law_of", "_law_field", "_law_got", "_law_same", "_law_odd", "_law_bent", "_law_number", "_law_rising", "_law_grade", "_law_is_looks"]
theorem runs (w : World) : HandSHeadRun.RunEq R (PySem.W.view R.prog [29]) hk ob 4000 loose w := by
  intro os
  kernel_rfl
theorem top_free : ((PySem.Challenge.rw_shownagain_k28_grades_of_joints).prog.main.scope.names.lookup ("super" : Str)).isSome = false := by decide +kernel
end K28
open PySem PySem.W PySem.Calls PyProof.Rows
theorem PySem.Challenge.cw_shownagain_k28_grades_of_joints_holds : PySem.Challenge.rw_shownagain_k28_grades_of_joints.Holds := by
  w_on; o_law
  refine HandSHeadRun.head_any (r := OpenLaw.row PySem.Challenge.rw_shownagain_k28_grades_of_joints) (q := view (OpenLaw.row PySem.Challenge.rw_shownagain_k28_grades_of_joints).prog [29]) (H := K28.hk) (ob := K28.ob) (M := 4000) (loose := K28.loose) (d := HandSHeadRun.topDef (OpenLaw.row PySem.Challenge.rw_shownagain_k28_grades_of_joints).prog 29) (kwd := []) K28.ob_eq
    (by kernel_rfl) (fun s => by kernel_rfl) K28.runs (by kernel_rfl) (by kernel_rfl) (by kernel_rfl) (by rfl) (by first | assumption | decide +kernel) (by decide +kernel) ⟨rfl, rfl, rfl, rfl, rfl, by decide +kernel⟩ ?hw ?hc
  case hw => w_witness2
  case hc =>
    refine LamX.walk_ofTsE (l := PySem.Challenge.rw_shownagain_k28_grades_of_joints) (n := 63) (k := Z.lvl 100 K28.e16.lm) (x := "_law_script") (CX := fun w => L2.CX (PySem.Challenge.rw_shownagain_k28_grades_of_joints).prog w) rfl (by decide) (by kernel_rfl) ⟨rfl, by decide, by decide⟩ ?F (fun _ _ _ _ _ z => by obtain ⟨_, _, _, _, _, _, _, _, _, _, _, _, z⟩ := z; exact z)
    intro w mg fa h Y G hmg0
    obtain ⟨K, KX, c⟩ := Y
    have hmg : mg K28.e16.x = some (.ref fa) := by
      have e : (HandSHeadRun.topDef (OpenLaw.row PySem.Challenge.rw_shownagain_k28_grades_of_joints).prog 29).name = K28.e16.x := by kernel_rfl
      rw [← e]
      exact hmg0
    exact ⟨K, KX, Z.law_at (l := PySem.Challenge.rw_shownagain_k28_grades_of_joints) (e := K28.e16) (ix := 16) (k := 100) KX G hmg c K28.top_free K28.binds K28.bindKs K28.oks K28.globsOk K28.gdOk K28.gbinds rfl rfl rfl (by decide) K28.pure_⟩


