import PyProof.Rows.All
import Wide.All
import OpenK.AllK
import Wide.FinOn
import HandS.Base
import HandS.Call
import HandS.List
import HandS.Text
import HandS.Comp
import HandS.ClsMeth
import HandS.Star
import HandS.IsInst
import HandS.FStr
import HandS.Zip
import HandS.Exc
import HandS.ExcOwn
import HandS.CallSlots
import HandS.WordsExc
import HandS.Wide
import HandS.Style
import HandS.StrMore
import HandS.Keys
import HandS.Replace
import HandS.TryOnly
import HandS.Small
import HandS.Walk
import HandS.ExcInit
import HandS.Nested
import KE.KExcSuper
import KE.KExcIs
import HandS.ExcField
import HandS.Conv
import KE.KOpsOwn
import KE.KCallOwn
import HandS.HeadHook2
import HandS.HeadEnd
import HandS.Head0
import HandS.Head1
import HandS.Head2
import KE.KStateDown
import HandS.Words
import PySem.Challenge.RW_galloon_k40_endless_strips_and_moves
import KE.GoesEnum
set_option Elab.async false
set_option linter.all false
set_option maxRecDepth 100000
/-! G0: data, the small syntax, its pure run. -/
namespace Gal
open PySem L2
/-! ### data -/
inductive D where
  | non
  | bl (b : Bool)
  | int (i : Int)
  | str (s : List Nat)
  | lst (xs : List D)
  | tup (xs : List D)
  | dic (kvs : List (D × D))
  | obj (c : Nat) (fs : List (Nat × D))
  | cls (c : Nat)
  | scr (ns : List Int)
  deriving Inhabited
/-- what a slot holds: nothing; a value; an object of ours alone; such a one while it is walked; a parameter's object that was handed on; a caught exception -/
inductive Sl where
  | un
  | va (d : D)
  | ow (d : D)
  | lk (d : D)
  | fz (d : D)
  | ex (c : Nat) (fs : List (Nat × D))
  deriving Inhabited
abbrev Env := List Sl
/-- an operand: a value (own: new, ours alone), or the object that slot i holds -/
inductive Ar where
  | v (own : Bool) (d : D)
  | r (i : Nat)
inductive R (α : Type) where
  | ok (a : α) (e : Env)
  | ex (c : Nat) (fs : List (Nat × D)) (e : Env)
abbrev M (α : Type) := Env → Option (R α)
def M.pure {α : Type} (a : α) : M α := fun e => some (.ok a e)
def M.fail {α : Type} : M α := fun _ => none
def M.bind {α β : Type} (m : M α) (f : α → M β) : M β := fun e => match m e with
  | none => none
  | some (.ex c fs e') => some (.ex c fs e')
  | some (.ok a e') => f a e'
/-- of the state alone -/
def M.look {α β : Type} (x : Env → Option α) (f : α → M β) : M β := fun e => match x e with
  | none => none
  | some a => f a e
/-- what a called def gives: its value, the parameters' slots behind it -/
inductive CR where
  | rt (own : Bool) (d : D) (outs : List Sl)
  | ex (c : Nat) (fs : List (Nat × D)) (outs : List Sl)
abbrev Callee := Nat → List Sl → Option CR
/-! ### operations by data -/
inductive Op where
  | add | sub | mul | fdiv | mod | pow
  | band | bor | bxor
  | eq | ne | lt | le | gt | ge | is_ | isnot | in_ | notin
  | neg | inv | ix
  | len | int_ | str_ | abs_ | sum_ | all_ | any_ | list_ | tuple_ | min2 | max2
  deriving DecidableEq, Inhabited
/-- methods of built-in types -/
inductive Mt where
  | sFind | sJoin | sSplit | sCount | sEnds | sStarts | sRstrip | lIndex | lCount
  deriving DecidableEq, Inhabited
/-- kinds that isinstance is asked of -/
inductive Ty where
  | int | str | bool | list | tuple | dict | none_ | ve | cls (c : Nat)
  deriving DecidableEq, Inhabited
/-- what is walked -/
inductive Io where
  | seq | range1 | range2 | range3 | enum | zip | items | values | rev
  deriving DecidableEq, Inhabited
inductive Tg where
  | nm (i : Nat)
  | tp (is : List Nat)
  deriving DecidableEq, Inhabited
/-! ### the syntax -/
inductive E where
  | var (i : Nat)
  | con (d : D)
  | gl (k : Nat)
  | op (o : Op) (as : E)
  | mt (m : Mt) (o : E) (as : E)
  | bool (a : Bool) (ms : E)
  | not (m : E)
  | ite (c a b : E)
  | chain (o1 o2 : Op) (a b c : E)
  | call (f : Nat) (as : E)
  | meth (m : Nat) (o : E) (as : E)
  | make (c : Nat) (as : E)
  | cm (c m : Nat) (as : E)
  | mkv (c i : Nat) (as : E)
  | callo (o : E) (as : E)
  | fld (f : Nat) (o : E)
  | exf (f : Nat) (i : Nat)
  | exi (t : Ty) (i : Nat)
  | isi (t : Ty) (o : E)
  | slice (a lo hi : E)
  | lst (as : E)
  | tup (as : E)
  | dct
  | lrg (a b : E)
  | lc (own : List Nat) (t : Tg) (w : Io) (src : E) (c : E) (e : E)
  | lc2 (own : List Nat) (t : Tg) (w : Io) (src : E) (t2 : Tg) (w2 : Io) (src2 : E) (c : E) (e : E)
  | fst (as : E)
  | dead
  | nil
  | cons (m rest : E)
  deriving Inhabited
inductive S where
  | nop
  | dead
  | seq (a b : S)
  | pass
  | asg (t : Tg) (e : E)
  | asgL (is : List Nat) (e : E)
  | asgC (i : Nat) (e : E)
  | set (i : Nat) (k : E) (e : E)
  | fset (i : Nat) (f : Nat) (e : E)
  | aug (i : Nat) (o : Op) (e : E)
  | app (i : Nat) (e : E)
  | ext (i : Nat) (e : E)
  | expr (e : E)
  | ret (e : E)
  | retN
  | ite (c : E) (a b : S)
  | for_ (t : Tg) (w : Io) (src : E) (b : S)
  | while_ (c : E) (b : S)
  | brk
  | cont
  | raise (c : Nat) (as : E)
  | try_ (b : S) (c : Nat) (i : Nat) (h : S)
  deriving Inhabited
/-- a def: how many parameters, how many slots, its body -/
structure Fn where
  np : Nat
  ns : Nat
  body : S
  deriving Inhabited
/-- a class -/
structure Cl where
  own : Bool := false
  init : Option Nat := none
  meths : List (Nat × Nat) := []
  cms : List (Nat × Nat) := []
  cons : List (Nat × D) := []
  /-- an exception: the fields that its __init__ stores, in the order of the parameters -/
  exf : Option (List Nat) := none
  /-- the classes that it is (itself too) -/
  sup : List Nat := []
  deriving Inhabited
/-- no class attribute of this name -/
def Cl.free (c : Cl) (f : Nat) : Bool := c.own && (c.meths.lookup f).isNone && (c.cms.lookup f).isNone && (c.cons.lookup f).isNone
structure Prog where
  fns : List Fn
  cls : List Cl
  gls : List D
  deriving Inhabited
def Prog.cl (P : Prog) (c : Nat) : Cl := P.cls.getD c default
end Gal
set_option Elab.async false
set_option linter.all false
set_option maxRecDepth 100000
/-! G1: the pure run. -/
namespace Gal
open PySem L2
abbrev LIM : Nat := 16777216
/-! ### == -/
def okEq : Nat → D → Bool
  | _, .non => true
  | _, .bl _ => true
  | _, .int _ => true
  | _, .str _ => true
  | 0, _ => false
  | n + 1, .lst xs => xs.all (okEq n)
  | n + 1, .tup xs => xs.all (okEq n)
  | _, _ => false
mutual
def eqD : D → D → Bool
  | .non, .non => true
  | .bl a, .bl b => a == b
  | .bl a, .int j => (if a then 1 else 0) == j
  | .int i, .bl b => i == (if b then 1 else 0)
  | .int i, .int j => i == j
  | .str x, .str y => x == y
  | .lst xs, .lst ys => eqDs xs ys
  | .tup xs, .tup ys => eqDs xs ys
  | _, _ => false
def eqDs : List D → List D → Bool
  | [], [] => true
  | x :: xs, y :: ys => eqD x y && eqDs xs ys
  | _, _ => false
end
def flatD : D → Bool
  | .non => true
  | .bl _ => true
  | .int _ => true
  | .str _ => true
  | _ => false
def isKey : D → Bool
  | .int _ => true
  | .str _ => true
  | _ => false
/-- a key's value -/
def lookD (k : D) : List (D × D) → Option D
  | [] => none
  | (a, v) :: r => if eqD a k then some v else lookD k r
def putD (k v : D) (l : List (D × D)) : List (D × D) := if l.any (fun p => eqD p.1 k) = true then l.map (fun p => if eqD p.1 k = true then (p.1, v) else p) else l ++ [(k, v)]
/-- where the sign stands first -/
def findC (s : List Nat) (c : Nat) : Int := match s.findIdx? (fun x => x == c) with
  | some i => i
  | none => -1
def lastIs (s : List Nat) (c : Nat) : Bool := match s.getLast? with
  | some x => x == c
  | none => false
def intsD : List D → Option (List Int)
  | [] => some []
  | .int i :: r => (intsD r).map (i :: ·)
  | _ => none
def boolsD : List D → Option (List Bool)
  | [] => some []
  | .bl i :: r => (boolsD r).map (i :: ·)
  | _ => none
def strsD : List D → Option (List (List Nat))
  | [] => some []
  | .str i :: r => (strsD r).map (i :: ·)
  | _ => none
def numS (i : Int) : List Nat := (if i < 0 then [45] else []) ++ TL.numL i.natAbs
def repS (k : Nat) (s : List Nat) : List Nat := (List.replicate k s).flatten
def cutD {α : Type} (xs : List α) (lo hi : Option Int) : List α := (xs.drop (HT.sIx xs.length 0 lo)).take (HT.sIx xs.length xs.length hi - HT.sIx xs.length 0 lo)
abbrev OD := Option (Bool × D)
def b_ (b : Bool) : OD := some (false, .bl b)
def i_ (i : Int) : OD := some (false, .int i)
def addD : D → D → OD
  | .int i, .int j => i_ (i + j)
  | .str a, .str b => if a.length + b.length ≤ LIM then some (false, .str (a ++ b)) else none
  | .lst a, .lst b => if a.length + b.length ≤ LIM then some (true, .lst (a ++ b)) else none
  | _, _ => none
def subD : D → D → OD
  | .int i, .int j => i_ (i - j)
  | _, _ => none
def mulD : D → D → OD
  | .int i, .int j => if (-(2 ^ 64) < i ∧ i < 2 ^ 64) ∨ (-(2 ^ 64) < j ∧ j < 2 ^ 64) then i_ (i * j) else none
  | .str a, .int k => if 0 ≤ k ∧ k < 2 ^ 40 ∧ a.length * k.toNat ≤ LIM then some (false, .str (repS k.toNat a)) else none
  | .lst a, .int k => if 0 ≤ k ∧ k < 2 ^ 40 ∧ a.length * k.toNat ≤ LIM then some (true, .lst (List.replicate k.toNat a).flatten) else none
  | _, _ => none
def fdivD : D → D → OD
  | .int i, .int j => if 0 < j ∧ j.natAbs.log2 < 9000 then i_ (i / j) else none
  | _, _ => none
def modD : D → D → OD
  | .int i, .int j => if 0 < j then i_ (i % j) else none
  | _, _ => none
def powD : D → D → OD
  | .int i, .int j => if 0 ≤ j ∧ j ≤ 1000000 ∧ i.natAbs < 2 ^ 64 then i_ (i ^ j.toNat) else none
  | _, _ => none
def bitD (f : Int → Int → Int) : D → D → OD
  | .int i, .int j => i_ (f i j)
  | _, _ => none
def eqqD (t : Bool) (a b : D) : OD := if okEq 60 a && okEq 60 b then b_ (eqD a b == t) else none
def ltD : D → D → OD
  | .int i, .int j => b_ (decide (i < j))
  | .str a, .str b => b_ (decide (a < b))
  | _, _ => none
def leD : D → D → OD
  | .int i, .int j => b_ (decide (i ≤ j))
  | .str a, .str b => b_ (!decide (b < a))
  | _, _ => none
def isNon : D → Bool
  | .non => true
  | _ => false
def isD (t : Bool) (a : D) : D → OD
  | .non => b_ (isNon a == t)
  | .bl b => match a with
    | .bl c => b_ ((c == b) == t)
    | _ => none
  | _ => none
/-- in (t) | not in -/
def inD (t : Bool) : D → D → OD
  | .str a, .str b => match a with
    | [c] => b_ (decide (c ∈ b) == t)
    | _ => none
  | a, .lst xs => if flatD a && xs.all flatD then b_ ((xs.any fun y => eqD y a) == t) else none
  | a, .tup xs => if flatD a && xs.all flatD then b_ ((xs.any fun y => eqD y a) == t) else none
  | a, .dic kvs => if isKey a then b_ ((lookD a kvs).isSome == t) else none
  | _, _ => none
def ixD : D → D → OD
  | .lst xs, .int i => (atI xs i).map fun d => (false, d)
  | .tup xs, .int i => (atI xs i).map fun d => (false, d)
  | .scr ns, .int i => (atI ns i).map fun d => (false, .int d)
  | .str s, .int i => (atI s i).map fun c => (false, .str [c])
  | .dic kvs, k => if isKey k then (lookD k kvs).map fun d => (false, d) else none
  | _, _ => none
def negD : D → OD
  | .int i => i_ (-i)
  | _ => none
def lenD : D → OD
  | .lst xs => i_ xs.length
  | .tup xs => i_ xs.length
  | .scr xs => i_ xs.length
  | .str xs => i_ xs.length
  | _ => none
def intD : D → OD
  | .int i => i_ i
  | .bl b => i_ (if b then 1 else 0)
  | .str s => match s with
    | [c] => if 48 ≤ c ∧ c ≤ 57 then i_ ((c : Int) - 48) else none
    | _ => none
  | _ => none
def strD : D → OD
  | .int i => if i.natAbs.log2 < 1920 then some (false, .str (numS i)) else none
  | _ => none
def absD : D → OD
  | .int i => i_ (if i < 0 then -i else i)
  | _ => none
def sumD : D → OD
  | .scr ns => i_ ns.sum
  | .lst xs => match intsD xs with
    | some ns => i_ ns.sum
    | none => none
  | _ => none
def allD (t : Bool) : D → OD
  | .lst xs => match boolsD xs with
    | some bs => b_ (if t then bs.all id else bs.any id)
    | none => none
  | _ => none
def listD : D → OD
  | .lst xs => some (true, .lst xs)
  | .tup xs => some (true, .lst xs)
  | .scr ns => some (true, .lst (ns.map D.int))
  | _ => none
def tupleD : D → OD
  | .lst xs => some (false, .tup xs)
  | .tup xs => some (false, .tup xs)
  | _ => none
def maxD : D → D → OD
  | .int i, .int j => i_ (if j > i then j else i)
  | _, _ => none
def minD : D → D → OD
  | .int i, .int j => i_ (if j < i then j else i)
  | _, _ => none
def op2D : Op → D → D → OD
  | .add => addD
  | .sub => subD
  | .mul => mulD
  | .fdiv => fdivD
  | .mod => modD
  | .pow => powD
  | .band => bitD Builtin.bitAnd
  | .bor => bitD Builtin.bitOr
  | .bxor => bitD Builtin.bitXor
  | .eq => eqqD true
  | .ne => eqqD false
  | .lt => ltD
  | .le => leD
  | .gt => fun a b => ltD b a
  | .ge => fun a b => leD b a
  | .is_ => isD true
  | .isnot => isD false
  | .in_ => inD true
  | .notin => inD false
  | .ix => ixD
  | .max2 => maxD
  | .min2 => minD
  | _ => fun _ _ => none
def op1D : Op → D → OD
  | .neg => negD
  | .len => lenD
  | .int_ => intD
  | .str_ => strD
  | .abs_ => absD
  | .sum_ => sumD
  | .all_ => allD true
  | .any_ => allD false
  | .list_ => listD
  | .tuple_ => tupleD
  | _ => fun _ => none
/-- an operation: own (a new object), the result -/
def opD (o : Op) : List D → OD
  | [a] => op1D o a
  | [a, b] => op2D o a b
  | _ => none
def joinS (a : List Nat) : List (List Nat) → List Nat := TL.joinL a
def sJoinD (a : List Nat) : D → OD
  | .lst xs => match strsD xs with
    | some ss => if (ss.map (·.length)).sum + ss.length * a.length ≤ LIM then some (false, .str (joinS a ss)) else none
    | none => none
  | _ => none
def sSplitD (a : List Nat) : List Nat → OD
  | [c] => if c < 256 ∧ a.length + 2 ≤ LIM then some (true, .lst ((TL.spl [c] 0 [] a).map D.str)) else none
  | _ => none
def one1 (f : Nat → OD) : D → OD
  | .str [c] => f c
  | _ => none
/-- a built-in's method -/
def mtD (m : Mt) (x : D) (ys : List D) : OD := match ys with
  | [y] => match x with
    | .str a => match m with
      | .sFind => one1 (fun c => i_ (findC a c)) y
      | .sJoin => sJoinD a y
      | .sSplit => match y with
        | .str b => sSplitD a b
        | _ => none
      | .sCount => one1 (fun c => i_ (a.count c : Nat)) y
      | .sEnds => one1 (fun c => b_ (lastIs a c)) y
      | .lIndex => one1 (fun c => match a.findIdx? (fun x => x == c) with
        | some i => i_ i
        | none => none) y
      | _ => none
    | .lst xs => match m with
      | .lIndex => if flatD y && xs.all flatD then match xs.findIdx? fun z => eqD z y with
        | some j => i_ j
        | none => none else none
      | _ => none
    | _ => none
  | _ => none
def truD : D → Option Bool
  | .non => some false
  | .bl b => some b
  | .int i => some (i != 0)
  | .str s => some (!s.isEmpty)
  | .lst xs => some (!xs.isEmpty)
  | .tup xs => some (!xs.isEmpty)
  | _ => none
/-! ### slots -/
def derefS : Sl → Option D
  | .ow d => some d
  | .lk d => some d
  | _ => none
def deref (e : Env) : Ar → Option D
  | .v _ d => some d
  | .r i => (e[i]?).bind derefS
def derefs (e : Env) : List Ar → Option (List D)
  | [] => some []
  | a :: r => match deref e a, derefs e r with
    | some d, some ds => some (d :: ds)
    | _, _ => none
/-- the i-th slot's object is handed on: np, how many parameters -/
def frz (np : Nat) (i : Nat) (d : D) : Sl := if i < np then .fz d else .va d
def settle (np : Nat) : Ar → M (Bool × D)
  | .v o d => fun e => some (.ok (o, d) e)
  | .r i => fun e => match e[i]? with
    | some (.ow d) => some (.ok (false, d) (e.set i (frz np i d)))
    | some (.va d) => some (.ok (false, d) e)
    | some (.fz d) => some (.ok (false, d) e)
    | _ => none
def settles (np : Nat) : List Ar → M (List D)
  | [] => fun e => some (.ok [] e)
  | a :: r => fun e => match settle np a e with
    | some (.ok (_, d) e1) => match settles np r e1 with
      | some (.ok ds e2) => some (.ok (d :: ds) e2)
      | _ => none
    | _ => none
/-- what is passed -/
def passed (e : Env) : List Ar → Option (List Sl)
  | [] => some []
  | .v o d :: r => (passed e r).map ((if o then .ow d else .va d) :: ·)
  | .r i :: r => match e[i]? with
    | some (.ow d) => (passed e r).map (.ow d :: ·)
    | _ => none
def refs : List Ar → List Nat
  | [] => []
  | .r i :: r => i :: refs r
  | _ :: r => refs r
/-- behind the call: the callee's word about what was lent -/
def given (np : Nat) : List Ar → List Sl → Env → Env
  | .r i :: r, .ow d :: o, e => given np r o (e.set i (.ow d))
  | .r i :: r, .lk d :: o, e => given np r o (e.set i (.ow d))
  | .r i :: r, .fz d :: o, e => given np r o (e.set i (frz np i d))
  | .r i :: r, .va d :: o, e => given np r o (e.set i (frz np i d))
  | .v _ _ :: r, _ :: o, e => given np r o e
  | _, _, e => e
def distinct : List Nat → Bool
  | [] => true
  | a :: r => !r.contains a && distinct r
/-- an object that is passed twice is handed on first -/
def apart (np : Nat) (as : List Ar) : M (List Ar) := fun e => if distinct (refs as) then some (.ok as e) else match settles np as e with
  | some (.ok ds e1) => some (.ok (ds.map (Ar.v false)) e1)
  | _ => none
def callD (F : Callee) (np f : Nat) (as : List Ar) : M Ar := M.bind (apart np as) fun as => fun e =>
  match passed e as with
  | some ss => match F f ss with
    | some (.rt o d outs) => some (.ok (.v o d) (given np as outs e))
    | some (.ex c fs outs) => some (.ex c fs (given np as outs e))
    | none => none
  | none => none
end Gal
namespace Gal
open PySem L2
/-! ### expressions -/
structure Sm where
  o : M Ar
  t : M Bool
  l : M (List Ar)
  k : Bool → M Bool
  p : M (Option Int)
  /-- and, or as values -/
  j : Bool → M Bool
def tru (m : M Ar) : M Bool := fun e => match m e with
  | some (.ok a e') => match deref e' a with
    | some d => (truD d).map fun b => .ok b e'
    | none => none
  | some (.ex c fs e') => some (.ex c fs e')
  | none => none
def part (m : M Ar) : M (Option Int) := fun e => match m e with
  | some (.ok a e') => match deref e' a with
    | some (.int i) => some (.ok (some i) e')
    | _ => none
  | some (.ex c fs e') => some (.ex c fs e')
  | none => none
def ofV (m : M Ar) : Sm := ⟨m, tru m, M.fail, fun _ => M.fail, part m, fun _ => M.fail⟩
def boo (m : M Bool) : M Ar := fun e => match m e with
  | some (.ok b e') => some (.ok (.v false (.bl b)) e')
  | some (.ex c fs e') => some (.ex c fs e')
  | none => none
/-- as a value, as a test -/
def ofB2 (m t : M Bool) : Sm := ⟨boo m, t, M.fail, fun _ => M.fail, M.fail, fun _ => M.fail⟩
def ofB (m : M Bool) : Sm := ofB2 m m
/-- the own method that an operation on an instance is -/
def dunder : Op → Option Nat
  | .add => some 1000
  | .sub => some 1001
  | .mul => some 1002
  | .band => some 1003
  | .bor => some 1004
  | .bxor => some 1005
  | .eq => some 1006
  | .ne => some 1006
  | .inv => some 1007
  | .ix => some 1008
  | .len => some 1009
  | .str_ => some 1010
  | _ => none
/-- what is asked of an own method's answer -/
def postD : Op → D → Option D
  | .ne, .bl b => some (.bl (!b))
  | .ne, _ => none
  | .len, .int n => if 0 ≤ n ∧ n < 2 ^ 60 then some (.int n) else none
  | .len, _ => none
  | .str_, .str s => some (.str s)
  | .str_, _ => none
  | _, d => some d
def turnM (o : Op) (r : Option (R Ar)) : Option (R Ar) := match r with
  | some (.ok (.v w d) e) => (postD o d).map fun x => .ok (.v w x) e
  | some (.ex c fs e) => some (.ex c fs e)
  | _ => none
section
variable (P : Prog) (F : Callee) (np : Nat) (hot : Bool)
/-- data whose type is known -/
def tyD : D → Bool
  | .cls _ => false
  | .scr _ => false
  | .obj c _ => (P.cl c).own
  | _ => true
/-- the other operand of an own operator -/
def okArg (m c : Nat) (rest : List D) : Bool := if m ≤ 1005 then match rest with
  | [.obj c' _] => c' == c
  | _ => false else if m = 1006 ∨ m = 1008 then rest.all (tyD P) else rest.isEmpty
def opM (o : Op) (as : List Ar) : M Ar := fun e => match derefs e as with
  | some ds => match opD o ds with
    | some (w, d) => some (.ok (.v w d) e)
    | none => match ds with
      | .obj c _ :: rest => match (dunder o).bind fun m => (P.cl c).meths.lookup m with
        | some f => if hot then none else if okArg P ((dunder o).getD 0) c rest then turnM o (callD F np f as e) else none
        | none => none
      | _ => none
  | none => none
def mtT : Mt → D → Bool
  | .lIndex, .lst _ => true
  | .lIndex, .str _ => true
  | .lCount, .lst _ => true
  | .lIndex, _ => false
  | .lCount, _ => false
  | _, .str _ => true
  | _, _ => false
def mtM (m : Mt) (a : Ar) (as : List Ar) : M Ar := fun e => match deref e a, derefs e as with
  | some d, some ds => (mtD m d ds).map fun x => .ok (.v x.1 x.2) e
  | _, _ => none
def fldD (f : Nat) : D → Option D
  | .obj c fs => match fs.lookup f with
    | some d => if (P.cl c).free f then some d else none
    | none => (P.cl c).cons.lookup f
  | _ => none
/-- an own method by name, not hidden by a field -/
def methP (c : Nat) (fs : List (Nat × D)) (m : Nat) : Option Nat := match fs.lookup m with
  | none => (P.cl c).meths.lookup m
  | some _ => none
def optI : Option D → Option (Option Int)
  | none => some none
  | some (.int i) => some (some i)
  | _ => none
def sliceD (lo hi : Option Int) : D → Option (Bool × D)
  | .lst xs => some (true, .lst (cutD xs lo hi))
  | .str s => some (false, .str (cutD s lo hi))
  | .scr ns => some (true, .lst ((cutD ns lo hi).map D.int))
  | _ => none
def isiD (t : Ty) : D → Option Bool
  | .int _ => some (match t with | .int => true | _ => false)
  | .bl _ => some (match t with | .int => true | .bool => true | _ => false)
  | .str _ => some (match t with | .str => true | _ => false)
  | .non => some (match t with | .none_ => true | _ => false)
  | .lst _ => some (match t with | .list => true | _ => false)
  | .tup _ => some (match t with | .tuple => true | _ => false)
  | .dic _ => some (match t with | .dict => true | _ => false)
  | .obj c _ => if (P.cl c).own then some (match t with | .cls k => (P.cl c).sup.contains k | _ => false) else none
  | _ => none
def enumF : Nat → List D → List D
  | _, [] => []
  | k, x :: r => .tup [.int k, x] :: enumF (k + 1) r
def zipF : List D → List D → List D
  | a :: r, b :: s => .tup [a, b] :: zipF r s
  | _, _ => []
def seqD : D → Option (List D)
  | .lst xs => some xs
  | .tup xs => some xs
  | .scr ns => some (ns.map D.int)
  | .str s => some (s.map fun c => .str [c])
  | _ => none
def seqL : D → Option (List D)
  | .lst xs => some xs
  | .scr ns => some (ns.map D.int)
  | _ => none
def rangeF (lo c : Int) : Nat → List D
  | n => (List.range n).map fun (i : Nat) => .int (lo + (i : Int) * c)
/-- what is walked, item by item -/
def walkD : Io → List D → Option (List D)
  | .seq, [d] => seqD d
  | .range1, [.int n] => if -(2 ^ 40) < n ∧ n < 2 ^ 40 then some (rangeF 0 1 n.toNat) else none
  | .range2, [.int a, .int b] => if -(2 ^ 40) < a ∧ a < 2 ^ 40 ∧ -(2 ^ 40) < b ∧ b < 2 ^ 40 then some (rangeF a 1 (b - a).toNat) else none
  | .range3, [.int a, .int b, .int (-1)] => if -(2 ^ 40) < a ∧ a < 2 ^ 40 ∧ -(2 ^ 40) < b ∧ b < 2 ^ 40 then some (rangeF a (-1) (a - b).toNat) else none
  | .enum, [d] => (seqL d).map (enumF 0)
  | .zip, [a, b] => match seqD a, seqD b with
    | some xs, some ys => some (zipF xs ys)
    | _, _ => none
  | .items, [.dic kvs] => some (kvs.map fun p => .tup [p.1, p.2])
  | .values, [.dic kvs] => some (kvs.map (·.2))
  | _, _ => none
def putTs : List Nat → List D → Env → Option Env
  | [], [], e => some e
  | i :: is, d :: ds, e => match e[i]? with
    | some .un => putTs is ds (e.set i (.va d))
    | some (.va _) => putTs is ds (e.set i (.va d))
    | some (.ow _) => if i < np then none else putTs is ds (e.set i (.va d))
    | _ => none
  | _, _, _ => none
/-- an item into a target -/
def putT : Tg → D → Env → Option Env
  | .nm i, d, e => putTs np [i] [d] e
  | .tp is, .tup ds, e => putTs np is ds e
  | _, _, _ => none
/-- the slots of a block's own names -/
def wipeE (own : List Nat) (e : Env) : Option Env := if own.all fun i => match e[i]? with
  | some .un => true
  | some (.va _) => true
  | _ => false then some (own.foldl (fun e i => e.set i .un) e) else none
def backE (own : List Nat) (e0 e : Env) : Env := own.foldl (fun e i => e.set i (e0.getD i .un)) e
/-- the walked object is held still -/
def hold : List Ar → Env → Env
  | .r i :: r, e => match e[i]? with
    | some (.ow d) => hold r (e.set i (.lk d))
    | _ => hold r e
  | _ :: r, e => hold r e
  | [], e => e
def unhold (e0 : Env) : List Ar → Env → Env
  | .r i :: r, e => match e0[i]? with
    | some (.ow d) => unhold e0 r (e.set i (.ow d))
    | _ => unhold e0 r e
  | _ :: r, e => unhold e0 r e
  | [], e => e
/-- a comprehension's turns: acc, what is made so far -/
def lcL (body : D → M (Option D)) : List D → List D → M (List D)
  | [], acc => fun e => some (.ok acc.reverse e)
  | x :: r, acc => fun e => match body x e with
    | some (.ok (some d) e1) => lcL body r (d :: acc) e1
    | some (.ok none e1) => lcL body r acc e1
    | _ => none
def lcL2 (body : D → M (List D)) : List D → List D → M (List D)
  | [], acc => fun e => some (.ok acc e)
  | x :: r, acc => fun e => match body x e with
    | some (.ok ds e1) => lcL2 body r (acc ++ ds) e1
    | _ => none
def mkObj (c : Nat) (as : List Ar) : M Ar := M.bind (apart np as) fun as => fun e =>
  match (P.cl c).init, passed e as with
  | some f, some ss => match F f (.ow (.obj c []) :: ss) with
    | some (.rt _ .non (.ow o :: outs)) => some (.ok (.v true o) (given np as outs e))
    | some (.ex c fs (_ :: outs)) => some (.ex c fs (given np as outs e))
    | _ => none
  | _, _ => none
def fstD : List D → Option (List Nat)
  | [] => some []
  | .str s :: r => (fstD r).map (s ++ ·)
  | .int i :: r => if i.natAbs.log2 < 1920 then (fstD r).map (numS i ++ ·) else none
  | _ => none
def keyed : List D → List D → List (D × D) → Option (List (D × D))
  | [], [], acc => some acc
  | k :: ks, v :: vs, acc => if isKey k then keyed ks vs (putD k v acc) else none
  | _, _, _ => none
end
end Gal
namespace Gal
open PySem L2
section
variable (P : Prog) (F : Callee) (np : Nat) (hot : Bool)
def cold {α : Type} (m : M α) : M α := if hot then M.fail else m
def chainM (o1 o2 : Op) (ma mb mc : M Ar) : M Bool := M.bind ma fun a => M.bind mb fun b => fun e => match derefs e [a, b] with
  | some ds => match opD o1 ds with
    | some (_, .bl true) => M.bind mc (fun c => fun e1 => match derefs e1 [b, c] with
      | some ds1 => match opD o2 ds1 with
        | some (_, .bl r) => some (.ok r e1)
        | _ => none
      | none => none) e
    | some (_, .bl false) => some (.ok false e)
    | _ => none
  | none => none
/-- the items of what is walked, the state while it is held -/
def walkM (w : Io) (as : List Ar) : M (List D) := fun e => match derefs e as with
  | some ds => match walkD w ds with
    | some xs => if distinct (refs as) then some (.ok xs (hold as e)) else none
    | none => none
  | none => none
def tgS : Tg → List Nat
  | .nm i => [i]
  | .tp is => is
/-- a turn of a comprehension: its own names are new -/
def lcT (own : List Nat) (t : Tg) (mc : M Bool) (me : M Ar) (x : D) : M (Option D) := fun e => match wipeE own e with
  | some e0 => match putT np t x e0 with
    | some e1 => match mc e1 with
      | some (.ok true e2) => match me e2 with
        | some (.ok a e3) => match settle np a e3 with
          | some (.ok (_, d) e4) => some (.ok (some d) e4)
          | _ => none
        | _ => none
      | some (.ok false e2) => some (.ok none e2)
      | _ => none
    | none => none
  | none => none
def lcM (own : List Nat) (t : Tg) (w : Io) (ms : M (List Ar)) (mc : M Bool) (me : M Ar) : M Ar := M.bind ms fun as => fun e0 => match walkM w as e0 with
  | some (.ok xs e1) => match lcL (lcT np own t mc me) xs [] e1 with
    | some (.ok ds e3) => if ds.length ≤ LIM then some (.ok (.v true (.lst ds)) (unhold e0 as (backE own e1 e3))) else none
    | _ => none
  | _ => none
def lc2T (own : List Nat) (t : Tg) (w2 : Io) (ms2 : M (List Ar)) (t2 : Tg) (mc : M Bool) (me : M Ar) (x : D) : M (List D) := fun e => match wipeE own e with
  | some e0 => match putT np t x e0 with
    | some e1 => match ms2 e1 with
      | some (.ok as e2) => match walkM w2 as e2 with
        | some (.ok ys e3) => match lcL (lcT np (tgS t2) t2 mc me) ys [] e3 with
          | some (.ok ds e4) => some (.ok ds (unhold e2 as e4))
          | _ => none
        | _ => none
      | _ => none
    | none => none
  | none => none
def lc2M (own : List Nat) (t : Tg) (w : Io) (ms : M (List Ar)) (t2 : Tg) (w2 : Io) (ms2 : M (List Ar)) (mc : M Bool) (me : M Ar) : M Ar := M.bind ms fun as => fun e0 => match walkM w as e0 with
  | some (.ok xs e1) => match lcL2 (lc2T np own t w2 ms2 t2 mc me) xs [] e1 with
    | some (.ok ds e3) => if ds.length ≤ LIM then some (.ok (.v true (.lst ds)) (unhold e0 as (backE own e1 e3))) else none
    | _ => none
  | _ => none
def varM (i : Nat) : M Ar := fun e => match e[i]? with
  | some (.va d) => some (.ok (.v false d) e)
  | some (.fz d) => some (.ok (.v false d) e)
  | some (.ow _) => some (.ok (.r i) e)
  | some (.lk _) => some (.ok (.r i) e)
  | _ => none
def onD {α : Type} (a : Ar) (f : D → M α) : M α := fun e => match deref e a with
  | some d => f d e
  | none => none
def boolA {α : Type} (v : Ar) (f : Bool → M α) : M α := match v with
  | .v _ (.bl b) => f b
  | _ => M.fail
def ev : E → Sm
  | .var i => ofV (varM i)
  | .con d => ofV (M.pure (.v false d))
  | .gl k => ofV fun e => (P.gls[k]?).map fun d => .ok (.v false d) e
  | .op o as => ofV (M.bind (ev as).l (opM P F np hot o))
  | .mt m o as => ofV (M.bind (ev o).o fun a => onD a fun d => if mtT m d then M.bind (ev as).l (mtM m a) else M.fail)
  | .bool a ms => ofB2 ((ev ms).j a) ((ev ms).k a)
  | .not m => ofB2 (M.bind (tru (ev m).o) fun b => M.pure (!b)) (M.bind (ev m).t fun b => M.pure (!b))
  | .ite c a b => ofV (M.bind (ev c).t fun x => if x then (ev a).o else (ev b).o)
  | .chain o1 o2 a b c => ofB (chainM o1 o2 (ev a).o (ev b).o (ev c).o)
  | .call f as => ofV (cold hot (M.bind (ev as).l (callD F np f)))
  | .meth m o as => ofV (cold hot (M.bind (ev o).o fun a => onD a fun d => match d with
    | .obj c fs => match methP P c fs m with
      | some f => M.bind (ev as).l fun xs => callD F np f (a :: xs)
      | none => M.fail
    | _ => M.fail))
  | .make c as => ofV (cold hot (M.bind (ev as).l (mkObj P F np c)))
  | .cm c m as => ofV (cold hot (match (P.cl c).cms.lookup m with
    | some f => M.bind (ev as).l fun xs => callD F np f (.v false (.cls c) :: xs)
    | none => M.fail))
  | .mkv c i as => ofV (cold hot (M.bind (varM i) fun a => match a with
    | .v _ (.cls c') => if c' = c then M.bind (ev as).l (mkObj P F np c) else M.fail
    | _ => M.fail))
  | .callo o as => ofV (cold hot (M.bind (ev o).o fun a => onD a fun d => match d with
    | .obj c _ => match (P.cl c).meths.lookup 1011 with
      | some f => M.bind (ev as).l fun xs => onD a fun d' => match d' with
        | .obj c' _ => if c' = c then callD F np f (a :: xs) else M.fail
        | _ => M.fail
      | none => M.fail
    | _ => M.fail))
  | .fld f o => ofV (M.bind (ev o).o fun a => onD a fun d => fun e => (fldD P f d).map fun x => .ok (.v false x) e)
  | .exf f i => ofV fun e => match e[i]? with
    | some (.ex c fs) => if ((P.cl c).exf.getD []).contains f then (fs.lookup f).map fun x => .ok (.v false x) e else none
    | _ => none
  | .exi t i => ofV fun e => match e[i]? with
    | some (.ex c _) => if (P.cl c).exf.isNone then none else match t with
      | .cls k => if (P.cl k).exf.isSome then some (.ok (.v false (.bl ((P.cl c).sup.contains k))) e) else none
      | .ve => some (.ok (.v false (.bl true)) e)
      | _ => none
    | _ => none
  | .isi t o => ofV (M.bind (ev o).o fun a => onD a fun d => fun e => (isiD P t d).map fun x => .ok (.v false (.bl x)) e)
  | .slice a lo hi => ofV (M.bind (ev a).o fun x => M.bind (ev lo).p fun l => M.bind (ev hi).p fun h => onD x fun d => fun e => (sliceD l h d).map fun y => .ok (.v y.1 y.2) e)
  | .lst as => ofV (M.bind (ev as).l fun xs => M.bind (settles np xs) fun ds => if ds.length ≤ LIM then M.pure (.v true (.lst ds)) else M.fail)
  | .tup as => ofV (M.bind (ev as).l fun xs => M.bind (settles np xs) fun ds => if ds.length ≤ LIM then M.pure (.v false (.tup ds)) else M.fail)
  | .dct => ofV (M.pure (.v true (.dic [])))
  | .lrg a b => ofV (cold hot (M.bind (ev a).o fun x => M.bind (ev b).o fun y => fun e => match derefs e [x, y] with
    | some [.int i, .int j] => if -(2 ^ 40) < i ∧ i < 2 ^ 40 ∧ -(2 ^ 40) < j ∧ j < 2 ^ 40 ∧ j - i ≤ 16777216 then some (.ok (.v true (.lst (rangeF i 1 (j - i).toNat))) e) else none
    | _ => none))
  | .lc own t w src c e => ofV (cold hot (lcM np own t w (ev src).l (ev c).t (ev e).o))
  | .lc2 own t w src t2 w2 src2 c e => ofV (cold hot (lc2M np own t w (ev src).l t2 w2 (ev src2).l (ev c).t (ev e).o))
  | .fst as => ofV (M.bind (ev as).l fun xs => fun e => match derefs e xs with
    | some ds => match fstD ds with
      | some s => if s.length ≤ LIM then some (.ok (.v false (.str s)) e) else none
      | none => none
    | none => none)
  | .dead => ofV M.fail
  | .nil => ⟨M.fail, M.pure true, M.pure [], fun a => M.pure a, M.pure none, fun a => M.pure a⟩
  | .cons m rest => ⟨M.fail, M.fail, M.bind (ev m).o fun a => M.bind (ev rest).l fun as => M.pure (a :: as),
    fun a => M.bind (ev m).t fun b => if b == a then (ev rest).k a else M.pure b, M.fail,
    fun a => M.bind (ev m).o fun v => boolA v fun b => if b == a then (ev rest).j a else M.pure b⟩
end
/-! ### statements -/
inductive Out where
  | nx (e : Env)
  | rt (own : Bool) (d : D) (e : Env)
  | bk (e : Env)
  | ct (e : Env)
  | ex (c : Nat) (fs : List (Nat × D)) (e : Env)
def putF (f : Nat) (d : D) : List (Nat × D) → List (Nat × D)
  | [] => [(f, d)]
  | (g, x) :: r => if g = f then (g, d) :: r else (g, x) :: putF f d r
/-- x = value, x's slot i -/
def putA (np i : Nat) (o : Bool) (d : D) (e : Env) : Option Env := match e[i]? with
  | some .un => some (e.set i (if o then .ow d else .va d))
  | some (.va _) => some (e.set i (if o then .ow d else .va d))
  | some (.ow _) => if i < np then none else some (e.set i (if o then .ow d else .va d))
  | _ => none
def setD (k d : D) : D → Option D
  | .lst xs => match k with
    | .int i => (ixN xs.length i).map fun j => .lst (xs.set j d)
    | _ => none
  | .dic kvs => if isKey k ∧ kvs.length < LIM then some (.dic (putD k d kvs)) else none
  | _ => none
def augD : Op → D → D → Option D
  | .add, .int i, .int j => some (.int (i + j))
  | .sub, .int i, .int j => some (.int (i - j))
  | _, _, _ => none
def okN {α : Type} (r : Option (R α)) (f : α → Env → Option Out) : Option Out := match r with
  | some (.ok a e) => f a e
  | some (.ex c fs e) => some (.ex c fs e)
  | none => none
def mapOut (f : Env → Env) : Out → Out
  | .nx e => .nx (f e)
  | .rt o d e => .rt o d (f e)
  | .bk e => .bk (f e)
  | .ct e => .ct (f e)
  | .ex c fs e => .ex c fs (f e)
def outE : Out → Env
  | .nx e => e
  | .rt _ _ e => e
  | .bk e => e
  | .ct e => e
  | .ex _ _ e => e
def notEx : Sl → Bool
  | .ex _ _ => false
  | _ => true
def forL (put : D → Env → Option Env) (body : Env → Option Out) : List D → Env → Option Out
  | [], e => some (.nx e)
  | x :: r, e => match put x e with
    | some e1 => match body e1 with
      | some (.nx e2) => forL put body r e2
      | some (.ct e2) => forL put body r e2
      | some (.bk e2) => some (.bk e2)
      | some (.rt o d e2) => some (.rt o d e2)
      | some (.ex c fs e2) => some (.ex c fs e2)
      | none => none
    | none => none
/-- behind the loop -/
def outL : Out → Out
  | .bk e => .nx e
  | o => o
def whL (test : M Bool) (body : Env → Option Out) : Nat → Env → Option Out
  | 0, _ => none
  | n + 1, e => match test e with
    | some (.ok false e1) => some (.nx e1)
    | some (.ok true e1) => match body e1 with
      | some (.nx e2) => whL test body n e2
      | some (.ct e2) => whL test body n e2
      | some (.bk e2) => some (.nx e2)
      | some (.rt o d e2) => some (.rt o d e2)
      | some (.ex c fs e2) => some (.ex c fs e2)
      | none => none
    | some (.ex c fs e1) => some (.ex c fs e1)
    | none => none
section
variable (P : Prog) (F : Callee) (np W : Nat)
def evS : S → Bool → Env → Option Out
  | .nop, _, e => some (.nx e)
  | .dead, _, _ => none
  | .seq a b, h, e => match evS a h e with
    | some (.nx e1) => evS b h e1
    | r => r
  | .pass, _, e => some (.nx e)
  | .asg t m, h, e => okN ((ev P F np h m).o e) fun a e1 => match t with
    | .nm i => match a with
      | .v o d => (putA np i o d e1).map .nx
      | a => okN (settle np a e1) fun d e2 => (putA np i false d.2 e2).map .nx
    | .tp is => match deref e1 a with
      | some (.tup ds) => if h then none else (putTs np is ds e1).map .nx
      | _ => none
  | .asgL is m, h, e => okN ((ev P F np h m).o e) fun a e1 => match deref e1 a with
    | some (.lst ds) => if h then none else (putTs np is ds e1).map .nx
    | _ => none
  | .asgC i m, h, e => okN ((ev P F np h m).o e) fun a e1 => match a with
    | .v o d => (putA np i o d e1).map .nx
    | _ => none
  | .set i k m, h, e => okN ((ev P F np h m).o e) fun a e1 => okN (settle np a e1) fun d e2 => match e2[i]? with
    | some (.ow _) => okN ((ev P F np h k).o e2) fun b e3 => match deref e3 b, e3[i]? with
      | some kd, some (.ow x) => (setD kd d.2 x).map fun y => .nx (e3.set i (.ow y))
      | _, _ => none
    | _ => none
  | .fset i f m, h, e => okN ((ev P F np h m).o e) fun a e1 => okN (settle np a e1) fun d e2 => match e2[i]? with
    | some (.ow (.obj c fs)) => if fs.length < 900 && (P.cl c).free f then some (.nx (e2.set i (.ow (.obj c (putF f d.2 fs))))) else none
    | _ => none
  | .aug i o m, h, e => match e[i]? with
    | some (.va x) => okN ((ev P F np h m).o e) fun a e1 => match deref e1 a with
      | some y => (augD o x y).bind fun z => (putA np i false z e1).map .nx
      | none => none
    | _ => none
  | .app i m, h, e => match e[i]? with
    | some (.ow (.lst _)) => okN ((ev P F np h m).o e) fun a e1 => okN (settle np a e1) fun d e2 => match e2[i]? with
      | some (.ow (.lst xs)) => if xs.length < LIM then some (.nx (e2.set i (.ow (.lst (xs ++ [d.2]))))) else none
      | _ => none
    | _ => none
  | .ext i m, h, e => match e[i]? with
    | some (.ow (.lst _)) => okN ((ev P F np h m).o e) fun a e1 => match deref e1 a, e1[i]? with
      | some (.lst ys), some (.ow (.lst xs)) => match a with
        | .r j => if j = i then none else if xs.length + ys.length ≤ LIM then some (.nx (e1.set i (.ow (.lst (xs ++ ys))))) else none
        | _ => if xs.length + ys.length ≤ LIM then some (.nx (e1.set i (.ow (.lst (xs ++ ys))))) else none
      | _, _ => none
    | _ => none
  | .expr m, h, e => okN ((ev P F np h m).o e) fun _ e1 => some (.nx e1)
  | .ret m, h, e => okN ((ev P F np h m).o e) fun a e1 => match a with
    | .v o d => some (.rt o d e1)
    | .r i => if i < np then okN (settle np (.r i) e1) fun d e2 => some (.rt false d.2 e2) else match e1[i]? with
      | some (.ow d) => some (.rt true d (e1.set i .un))
      | _ => none
  | .retN, _, e => some (.rt false .non e)
  | .ite c a b, h, e => okN ((ev P F np h c).t e) fun x e1 => if x then evS a h e1 else evS b h e1
  | .for_ t w src b, h, e => if h then none else okN ((ev P F np h src).l e) fun as e1 => match walkM w as e1 with
    | some (.ok xs e2) => (forL (putT np t) (evS b h) xs e2).map fun o => outL (mapOut (unhold e1 as) o)
    | _ => none
  | .while_ c b, h, e => if h then none else whL (ev P F np h c).t (evS b h) W e
  | .brk, _, e => some (.bk e)
  | .cont, _, e => some (.ct e)
  | .raise c as, h, e => if h then none else match (P.cl c).exf with
    | some fs => okN ((ev P F np h as).l e) fun xs e1 => okN (settles np xs e1) fun ds e2 => if fs.length = ds.length then some (.ex c (fs.zip ds).reverse e2) else none
    | none => none
  | .try_ b c i s, h, e => if h then none else match evS b h e with
    | some (.ex k fs e1) => if (P.cl k).exf.isNone then none else if (P.cl k).sup.contains c then match e1[i]? with
        | some .un => (evS s true (e1.set i (.ex k fs))).bind fun o => match o with
          | .ex _ _ _ => none
          | o => if ((outE o).set i .un).all notEx then some (mapOut (fun e2 => e2.set i .un) o) else none
        | _ => none
      else some (.ex k fs e1)
    | r => r
end
/-- a def, n calls deep -/
def callF (P : Prog) (W : Nat) : Nat → Callee
  | 0 => fun _ _ => none
  | n + 1 => fun f ss => match P.fns[f]? with
    | some fn => if ss.length = fn.np then match evS P (callF P W n) fn.np W fn.body false (ss ++ List.replicate (fn.ns - fn.np) .un) with
        | some (.rt o d e) => some (.rt o d (e.take fn.np))
        | some (.nx e) => some (.rt false .non (e.take fn.np))
        | some (.ex c fs e) => some (.ex c fs (e.take fn.np))
        | _ => none
      else none
    | none => none
end Gal
set_option Elab.async false
set_option linter.all false
set_option maxRecDepth 100000
set_option maxHeartbeats 1000000
/-! H1: what a head's run looks at: tables, the hook. -/
namespace Gal
open PySem L2 PyProof.Rows PySem.Spec
/-- what a global name is: a def, a class, a constant -/
inductive Gk where
  | fn (f : Nat)
  | cls (c : Nat)
  | val (k : Nat)
  deriving DecidableEq
abbrev mkS (s : List Nat) : PySem.Str := ⟨s.toArray⟩
/-- a constant -/
def isC : D → Bool
  | .non => true
  | .bl _ => true
  | .int _ => true
  | .str s => s.all (fun c => decide (c < 1114112)) && decide (s.length ≤ LIM)
  | _ => false
def cV : D → V
  | .bl b => .bl b
  | .int i => .int i
  | .str s => .str (mkS s)
  | _ => .non
/-- no module name stands before a built-in's -/
def bltIds : List PySem.Str := ["len", "int", "str", "abs", "sum", "all", "any", "list", "tuple", "min", "max", "isinstance", "range", "enumerate", "zip"]
def bltTys : List PySem.Str := ["bool", "dict", "ValueError"]
def dunS : Nat → Option PySem.Str
  | 1000 => some "__add__"
  | 1001 => some "__sub__"
  | 1002 => some "__mul__"
  | 1003 => some "__and__"
  | 1004 => some "__or__"
  | 1005 => some "__xor__"
  | 1006 => some "__eq__"
  | 1007 => some "__invert__"
  | 1008 => some "__getitem__"
  | 1009 => some "__len__"
  | 1010 => some "__str__"
  | _ => none
/-- where a def stands: a module's name, or a class and its method; cm: a classmethod's own def -/
structure Fp where
  x : PySem.Str
  m : Option PySem.Str := none
  cm : Bool := false
/-- a law's tables: classes, defs, attributes, module names, defaults, keyword forms, the exceptions' own __init__ (class, params, names by slot, rows) -/
structure Tb where
  P : Prog
  cn : List PySem.Str
  fp : List Fp
  an : List PySem.Str
  gl : List (PySem.Str × Gk)
  dd : List (List D)
  kw : List (List (Nat × List PySem.Str))
  ko : List Nat := []
def Fp.ad (K : PySem.W.Frag) (p : Fp) : Addr := match p.cm with
  | false => He.fAd K (p.x, p.m)
  | true => match PySem.W.recIn K (He.fAd K (p.x, p.m)) "classmethod" with
    | some (.ref g :: _) => g
    | _ => 0
def Tb.ca (T : Tb) (K : PySem.W.Frag) (c : Nat) : Addr := He.ga K (T.cn.getD c PySem.Str.empty)
def Tb.fa (T : Tb) (K : PySem.W.Frag) (f : Nat) : Addr := match T.fp[f]? with
  | some p => p.ad K
  | none => 0
def Tb.anS (T : Tb) (i : Nat) : PySem.Str := T.an.getD i PySem.Str.empty
section
variable (T : Tb) (K : PySem.W.Frag)
def eqVo (a b : Option (Option Value)) : Bool := decide (a = b)
def clsBo (C : Addr) : Bool := PySem.W.plainGet K C PySem.Str.empty && PySem.W.hasDictIn K C && PySem.W.plainOver K C && eqVo (PySem.W.findIn K (.ref C) "__setattr__") (some (some (.builtin "object.__setattr__")))
def rngo (n : Nat) (f : Nat → Bool) : Bool := (List.range n).all f
def glB : Bool := T.gl.all fun p => match p.2 with
  | .fn f => eqVo (PySem.W.nsIn K mainGlobals p.1) (some (some (.ref (T.fa K f)))) && PySem.W.keepIn K (.ref (T.fa K f))
  | .cls c => eqVo (PySem.W.nsIn K mainGlobals p.1) (some (some (.ref (T.ca K c)))) && PySem.W.keepIn K (.ref (T.ca K c))
  | .val i => match PySem.W.nsIn K mainGlobals p.1, T.P.gls[i]? with
    | some (some u), some d => isC d && He.relB (cV d) u
    | _, _ => false
def bltB : Bool := (bltIds ++ bltTys ++ ([("super" : PySem.Str)] : List PySem.Str)).all fun x => eqVo (PySem.W.nsIn K mainGlobals x) (some none)
def ddB : Bool := T.dd.all fun l => l.all isC
def ownB (c : Nat) (C : Cl) : Bool := !C.own || (clsBo K (T.ca K c) && PySem.W.selfFirst K (T.ca K c) && eqVo (PySem.W.findIn K (.ref (T.ca K c)) "__class__") (some (some (.builtin "object.__class__"))) && decide (PySem.W.mroIn K (T.ca K c) (.type "object") = some true)
  && (["NoneType", "bool", "int", "str", "list", "tuple", "dict"] : List String).all (fun t => PySem.W.notFirst K (T.ca K c) (.type t)) && rngo T.P.cls.length (fun c' => !(T.P.cl c').own || PySem.W.notFirst K (T.ca K c) (.ref (T.ca K c')))
  && rngo T.an.length (fun f => !C.free f || eqVo (PySem.W.findIn K (.ref (T.ca K c)) (T.anS f)) (some none)))
def conB (c : Nat) (C : Cl) : Bool := C.cons.all fun p => C.own && (match PySem.W.findIn K (.ref (T.ca K c)) (T.anS p.1) with
  | some (some u) => isC p.2 && He.relB (cV p.2) u && eqVo (PySem.W.specialIn K u "__get__") (some none) && !PySem.W.copiedNames.contains (T.anS p.1)
  | _ => false)
def metB (c : Nat) (C : Cl) : Bool := C.meths.all fun p => C.own && eqVo (PySem.W.findIn K (.ref (T.ca K c)) (match dunS p.1 with
    | some nm => nm
    | none => if p.1 = 1011 then "__call__" else T.anS p.1)) (some (some (.ref (T.fa K p.2)))) && PySem.W.isFn K (.ref (T.fa K p.2)) && PySem.W.keepIn K (.ref (T.fa K p.2)) && PySem.W.fnIn K (T.fa K p.2)
  && (p.1 != 1006 || eqVo (PySem.W.findIn K (.ref (T.ca K c)) "__ne__") (some (some (.builtin "object.__ne__")))) && (p.1 != 1008 || PySem.W.noSeq K (T.ca K c)) && !T.ko.contains p.2
def iniB (c : Nat) (C : Cl) : Bool := match C.init with
  | none => true
  | some f => PySem.W.makesIn K (T.ca K c) && eqVo (PySem.W.findIn K (.ref (T.ca K c)) "__init__") (some (some (.ref (T.fa K f)))) && PySem.W.isFn K (.ref (T.fa K f)) && PySem.W.keepIn K (.ref (T.ca K c))
def cmB (c : Nat) (C : Cl) : Bool := C.cms.all fun p => decide (p.1 < T.an.length) && (match PySem.W.typeIn K (.ref (T.ca K c)) with
  | some mc => PySem.W.readsIn K (T.ca K c) mc && eqVo (PySem.W.specialIn K (.ref (T.ca K c)) "__getattribute__") (some (some (.builtin "type.__getattribute__")))
    && (match PySem.W.findCls K (.ref (T.ca K c)) mc (T.anS p.1) with
      | some (.get (.builtin "classmethod.__get__") (.ref r) .none (.ref C')) => decide (C' = T.ca K c) && PySem.W.fnIn K (T.fa K p.2) && (match PySem.W.recIn K r "classmethod" with
        | some (.ref g :: _) => decide (g = T.fa K p.2)
        | _ => false)
      | _ => false)
  | none => false)
def tyso : List Ty := [.int, .str, .bool, .list, .tuple, .dict, .none_, .ve]
def allTo : List Ty := tyso ++ (List.range T.P.cls.length).map Ty.cls
def tyVo (t : Ty) : Value := match t with
  | .int => .type "int"
  | .str => .type "str"
  | .bool => .type "bool"
  | .list => .type "list"
  | .tuple => .type "tuple"
  | .dict => .type "dict"
  | .none_ => .type "NoneType"
  | .ve => .type "ValueError"
  | .cls c => .ref (T.ca K c)
def isiB : Bool := (allTo T).all fun t => ([(D.non, "NoneType"), (.bl true, "bool"), (.int 0, "int"), (.str [], "str"), (.lst [], "list"), (.tup [], "tuple"), (.dic [], "dict")] : List (D × String)).all (fun p => decide (PySem.W.kitOne K (.type p.2) (tyVo T K t) = isiD T.P t p.1))
  && rngo T.P.cls.length fun c => !(T.P.cl c).own || decide (PySem.W.kitOne K (.ref (T.ca K c)) (tyVo T K t) = isiD T.P t (.obj c []))
def bmVE : List Value := [.type "ValueError", .type "Exception", .type "BaseException", .type "object"]
def oexB (C : Addr) : Bool := match K.lookup C with
  | some ⟨.type "type", _, .cls cd, sl⟩ => (match cd.mro, sl.toList with
    | .ref C' :: bm, [_, _, _, _, some (.builtin n), _] => C' == C && n == "ValueError.__new__" && !cd.hasDel && cd.hasDict && HandSPX.refsVE bm
    | _, _ => false)
  | _ => false
def excB (c : Nat) (C : Cl) : Bool := match C.exf with
  | none => true
  | some fs => PySem.W.keepIn K (.ref (T.ca K c)) && decide (PySem.W.subIn K (.ref (T.ca K c)) (.type "BaseException") = some true) && decide (PySem.W.typeIn K (.ref (T.ca K c)) = some (.type "type")) && (PySem.W.clsIn K (T.ca K c)).isSome
    && eqVo (PySem.W.findIn K (.ref (T.ca K c)) "__getattribute__") (some (some (.builtin "BaseException.__getattribute__"))) && eqVo (PySem.W.findIn K (.ref (T.ca K c)) "__getattr__") (some none) && PySem.W.hasDictIn K (T.ca K c)
    && eqVo (PySem.W.findIn K (.ref (T.ca K c)) "__class__") (some (some (.builtin "object.__class__"))) && decide (PySem.W.mroIn K (T.ca K c) (.type "object") = some true)
    && fs.all (fun f => decide (f < T.an.length) && eqVo (PySem.W.findIn K (.ref (T.ca K c)) (T.anS f)) (some none)) && decide (fs.length ≤ 900)
    && rngo T.P.cls.length (fun k => !((T.P.cl k).exf).isSome || (decide (PySem.W.exmOne K (.ref (T.ca K c)) (.ref (T.ca K k)) = some (C.sup.contains k)) && decide (PySem.W.kitOne K (.ref (T.ca K c)) (.ref (T.ca K k)) = some (C.sup.contains k))))
    && decide (PySem.W.kitOne K (.ref (T.ca K c)) (.type "ValueError") = some true)
    && (if fs.isEmpty then PySem.W.excIn K (T.ca K c) bmVE "ValueError.__new__" else oexB K (T.ca K c) && eqVo (PySem.W.findIn K (.ref (T.ca K c)) "__setattr__") (some (some (.builtin "object.__setattr__"))) && decide (PySem.W.mroIn K (T.ca K c) (.ref (T.ca K c)) = some true)
      && eqVo (PySem.W.ks_superIn K (T.ca K c) (T.ca K c) "__init__") (some (some (.builtin "ValueError.__init__"))) && decide (PySem.W.subIn K (.ref (T.ca K c)) (.type "ValueError") = some true)
      && eqVo (PySem.W.findIn K (.ref (T.ca K c)) "__init__") (some (some (.ref (He.ma K (T.ca K c) "__init__")))) && decide (PySem.W.typeIn K (.ref (He.ma K (T.ca K c) "__init__")) = some (.type "function")))
def dynB : Bool := eqVo (PySem.W.specialIn K (.builtin "object.__class__") "__get__") (some (some (.builtin "getset_descriptor.__get__"))) && decide (PySem.W.takesIn K (.builtin "object.__class__") = some true) && eqVo (PySem.W.nsIn K cStatics "thirdparty.any") (some none)
def factB : Bool := decide (T.an.length ≤ 1000) && glB T K && bltB K && ddB T && rngo T.P.cls.length (fun c => ownB T K c (T.P.cl c) && conB T K c (T.P.cl c) && metB T K c (T.P.cl c) && iniB T K c (T.P.cl c) && cmB T K c (T.P.cl c) && excB T K c (T.P.cl c)) && isiB T K && dynB K
end
/-- a def as the text writes it; N: its names by slot -/
structure Fd where
  name : PySem.Str
  qual : PySem.Str
  params : Arguments
  body : List Stmt
  scope : Scope
  N : List PySem.Str
  ps : List PySem.Str
  dfl : List D := []
  kwd : List (PySem.Str × D) := []
abbrev FnW : Type := Option (PySem.Str × PySem.Str × Arguments × FuncBody × Scope × Addr × List PySem.Str × Addr)
def fnAt (K : PySem.W.Frag) (a : Addr) : FnW := match K.lookup a with
  | some ⟨_, _, .func fd, _⟩ => some (fd.name, fd.qualname, fd.params, fd.body, fd.scope, fd.globals, fd.closure.map (·.1), fd.builtins)
  | _ => none
def Fd.val (d : Fd) (cl : List PySem.Str) : FnW := some (d.name, d.qual, d.params, .stmts d.body, d.scope, mainGlobals, cl, builtinsNs)
def Fd.okB (K : PySem.W.Frag) (a : Addr) (d : Fd) : Bool := match K.lookup a with
  | some ⟨_, _, .func fd, _⟩ => PySem.W.codeIn K fd.code d.qual && (He.dflB K fd.defaults (d.dfl.map cV) && He.kwdB K fd.kwdefaults (d.kwd.map fun q => (q.1, cV q.2)))
  | _ => false
structure Xd where
  c : Nat
  d : Fd
  r1 : Stmt
  rows : List Stmt
def xinB (T : Tb) (K : PySem.W.Frag) (file : PySem.Str) (x : Xd) : Bool := match K.lookup (He.ma K (T.ca K x.c) "__init__") with
  | some ⟨_, _, .func fd, _⟩ => (match fd.closure, fd.code with
    | [(n, cc)], .ref cda => n == ("__class__" : PySem.Str) && (match K.lookup cc with
      | some ⟨_, _, .cell (some (.ref C')), _⟩ => decide (C' = T.ca K x.c)
      | _ => false) && PySem.W.codeIn K (.ref cda) x.d.qual && (match K.lookup cda with
      | some ⟨_, _, .fields vs, _⟩ => (match (vs[2]? : Option Value) with
        | some (Value.str fl _) => file == fl
        | _ => false)
      | _ => false)
    | _, _ => false)
  | _ => false
def xdnB (T : Tb) (K : PySem.W.Frag) (x : Xd) : Bool := match K.lookup (He.ma K (T.ca K x.c) "__init__") with
  | some ⟨_, _, .func fd, _⟩ => (match fd.defaults with
    | .none => true
    | _ => false)
  | _ => false
abbrev ObT : Type := Bool × List FnW × List FnW
def obB (T : Tb) (fds : List Fd) (xds : List Xd) (file : PySem.Str) (K : PySem.W.Frag) : Bool := factB T K && (fds.zipIdx.all fun p => p.1.okB K (T.fa K p.2)) && xds.all fun x => xinB T K file x && xdnB T K x
def obT (T : Tb) (fds : List Fd) (xds : List Xd) (file : PySem.Str) (K : PySem.W.Frag) : ObT := (obB T fds xds file K, fds.zipIdx.map fun p => fnAt K (T.fa K p.2), xds.map fun x => fnAt K (He.ma K (T.ca K x.c) "__init__"))
def vaT (fds : List Fd) (xds : List Xd) : ObT := (true, fds.map fun d => d.val [], xds.map fun x => x.d.val ["__class__"])
def obG (n : Nat) (T : Tb) (fds : List Fd) (xds : List Xd) (file : PySem.Str) (g : Addr → Option Obj) : ObT := obT T fds xds file (He.frG g (cStatics :: He.asD g n))
def hookT (n : Nat) (T : Tb) (fds : List Fd) (xds : List Xd) (file : PySem.Str) : PySem.W.Hook where
  α := ObT
  obs := fun s => obG n T fds xds file s.heap.get?
  val := fun _ => vaT fds xds
  says := fun _ h => ∃ K : PySem.W.Frag, K.In h ∧ obT T fds xds file K = vaT fds xds
  of := fun _ _ e => ⟨_, He.frG_in, e⟩
  keeps := fun _ _ _ ⟨K, hK, c⟩ k => ⟨K, PySem.W.Frag.In.keeps hK k, c⟩
theorem obG_eq {n : Nat} {fds : List Fd} {xds : List Xd} {file : PySem.Str} {g : Addr → Option Obj} {s : Shared} (h : ∀ a, g a = s.heap.get? a) : obG n T fds xds file g = (hookT n T fds xds file).obs s := by
  have e : g = s.heap.get? := funext h
  rw [e] <;> rfl
end Gal
set_option Elab.async false
set_option linter.all false
set_option maxRecDepth 100000
set_option maxHeartbeats 0
namespace K40
open Gal PySem L2
/-! attributes: 0 columns, 1 colours, 2 rows, 3 are_colours, 4 is_strip, 5 start, 6 right, 7 middle, 8 left, 9 scheme, 10 column_at, 11 window, 12 moved, 13 part, 14 text, 15 spots, 16 column, 17 MOST, 18 BLANK -/
/-! classes: 0 GalloonError, 1 UnlikeSchemes, 2 BadScheme, 3 BadColumn, 4 BadSpots, 5 BadStrip, 6 BadEndless, 7 Scheme, 8 Endless -/
/-- 0: power, slots 0 base, 1 exponent, 2 product, 3 turn -/
def b0 : S :=
    .seq (.asg (.nm 2) (.con (.int 1)))
    (.seq (.for_ (.nm 3) .range1 (.cons (.var 1) .nil) (.asg (.nm 2) (.op .mul (.cons (.var 2) (.cons (.var 0) .nil)))))
    (.ret (.var 2)))
/-- 1: Scheme.__init__, slots 0 self, 1 rows, 2 colours -/
def b1 : S :=
    .seq (.ite (.not (.chain .le .le (.con (.int 1)) (.var 1) (.con (.int 3)))) (.raise 2 (.cons (.con (.str [114, 111, 119, 115])) .nil)) (.nop))
    (.seq (.ite (.not (.chain .le .le (.con (.int 2)) (.var 2) (.con (.int 3)))) (.raise 2 (.cons (.con (.str [99, 111, 108, 111, 117, 114, 115])) .nil)) (.nop))
    (.seq (.ite (.bool true (.cons (.op .eq (.cons (.var 1) (.cons (.con (.int 3)) .nil))) (.cons (.op .eq (.cons (.var 2) (.cons (.con (.int 3)) .nil))) .nil))) (.raise 2 (.cons (.con (.str [115, 105, 122, 101])) .nil)) (.nop))
    (.seq (.fset 0 2 (.var 1))
    (.seq (.fset 0 1 (.var 2))
    (.fset 0 0 (.slice (.gl 0) .nil (.call 0 (.cons (.var 2) (.cons (.var 1) .nil)))))))))
/-- 2: Scheme.are_colours, slots 0 self, 1 text, 2 sign -/
def b2 : S :=
    .ret (.op .all_ (.cons (.lc [2] (.nm 2) .seq (.cons (.var 1) .nil) .nil (.op .in_ (.cons (.var 2) (.cons (.slice (.gl 1) .nil (.fld 1 (.var 0))) .nil)))) .nil))
/-- 3: Scheme.is_strip, slots 0 self, 1 text, 2 sign -/
def b3 : S :=
    .ret (.op .all_ (.cons (.lc [2] (.nm 2) .seq (.cons (.var 1) .nil) .nil (.op .in_ (.cons (.var 2) (.cons (.fld 0 (.var 0)) .nil)))) .nil))
/-- 4: Scheme.spots, slots 0 self, 1 column, 2 number, 3 text, 4 row -/
def b4 : S :=
    .seq (.ite (.bool false (.cons (.op .ne (.cons (.op .len (.cons (.var 1) .nil)) (.cons (.con (.int 1)) .nil))) (.cons (.op .notin (.cons (.var 1) (.cons (.fld 0 (.var 0)) .nil))) .nil))) (.raise 3 (.cons (.var 1) .nil)) (.nop))
    (.seq (.asg (.nm 2) (.mt .sFind (.fld 0 (.var 0)) (.cons (.var 1) .nil)))
    (.seq (.asg (.nm 3) (.con (.str [])))
    (.seq (.for_ (.nm 4) .range1 (.cons (.fld 2 (.var 0)) .nil) (.seq (.asg (.nm 3) (.op .add (.cons (.op .str_ (.cons (.op .mod (.cons (.var 2) (.cons (.fld 1 (.var 0)) .nil))) .nil)) (.cons (.var 3) .nil))))
    (.asg (.nm 2) (.op .fdiv (.cons (.var 2) (.cons (.fld 1 (.var 0)) .nil))))))
    (.ret (.var 3)))))
/-- 5: Scheme.column, slots 0 self, 1 spots, 2 number, 3 colour -/
def b5 : S :=
    .seq (.ite (.bool false (.cons (.op .ne (.cons (.op .len (.cons (.var 1) .nil)) (.cons (.fld 2 (.var 0)) .nil))) (.cons (.not (.meth 3 (.var 0) (.cons (.var 1) .nil))) .nil))) (.raise 4 (.cons (.var 1) .nil)) (.nop))
    (.seq (.asg (.nm 2) (.con (.int 0)))
    (.seq (.for_ (.nm 3) .seq (.cons (.var 1) .nil) (.asg (.nm 2) (.op .add (.cons (.op .mul (.cons (.var 2) (.cons (.fld 1 (.var 0)) .nil))) (.cons (.op .int_ (.cons (.var 3) .nil)) .nil)))))
    (.ret (.op .ix (.cons (.fld 0 (.var 0)) (.cons (.var 2) .nil))))))
/-- 6: Scheme.__eq__, slots 0 self, 1 other -/
def b6 : S :=
    .ret (.bool true (.cons (.isi (.cls 7) (.var 1)) (.cons (.op .eq (.cons (.fld 2 (.var 0)) (.cons (.fld 2 (.var 1)) .nil))) (.cons (.op .eq (.cons (.fld 1 (.var 0)) (.cons (.fld 1 (.var 1)) .nil))) .nil))))
/-- 7: Scheme.__len__, slots 0 self -/
def b7 : S :=
    .ret (.op .len (.cons (.fld 0 (.var 0)) .nil))
/-- 8: same_scheme, slots 0 schemes, 1 scheme -/
def b8 : S :=
    .for_ (.nm 1) .seq (.cons (.var 0) .nil) (.ite (.op .ne (.cons (.var 1) (.cons (.op .ix (.cons (.var 0) (.cons (.con (.int 0)) .nil))) .nil))) (.raise 1 .nil) (.nop))
/-- 9: may_repeat, slots 0 scheme, 1 text -/
def b9 : S :=
    .ret (.bool true (.cons (.meth 4 (.var 0) (.cons (.var 1) .nil)) (.cons (.chain .le .le (.con (.int 1)) (.op .len (.cons (.var 1) .nil)) (.gl 2)) .nil)))
/-- 10: Endless.__init__, slots 0 self, 1 scheme, 2 left, 3 middle, 4 right, 5 start -/
def b10 : S :=
    .seq (.ite (.not (.call 9 (.cons (.var 1) (.cons (.var 2) .nil)))) (.raise 6 (.cons (.con (.str [108, 101, 102, 116])) .nil)) (.nop))
    (.seq (.ite (.not (.meth 4 (.var 1) (.cons (.var 3) .nil))) (.raise 6 (.cons (.con (.str [109, 105, 100, 100, 108, 101])) .nil)) (.nop))
    (.seq (.ite (.not (.call 9 (.cons (.var 1) (.cons (.var 4) .nil)))) (.raise 6 (.cons (.con (.str [114, 105, 103, 104, 116])) .nil)) (.nop))
    (.seq (.fset 0 9 (.var 1))
    (.seq (.fset 0 8 (.var 2))
    (.seq (.fset 0 7 (.var 3))
    (.seq (.fset 0 6 (.var 4))
    (.fset 0 5 (.var 5))))))))
/-- 11: Endless.column_at, slots 0 self, 1 index, 2 place -/
def b11 : S :=
    .seq (.asg (.nm 2) (.op .sub (.cons (.var 1) (.cons (.fld 5 (.var 0)) .nil))))
    (.seq (.ite (.op .lt (.cons (.var 2) (.cons (.con (.int 0)) .nil))) (.ret (.op .ix (.cons (.fld 8 (.var 0)) (.cons (.op .mod (.cons (.var 2) (.cons (.op .len (.cons (.fld 8 (.var 0)) .nil)) .nil))) .nil)))) (.nop))
    (.seq (.ite (.op .lt (.cons (.var 2) (.cons (.op .len (.cons (.fld 7 (.var 0)) .nil)) .nil))) (.ret (.op .ix (.cons (.fld 7 (.var 0)) (.cons (.var 2) .nil)))) (.nop))
    (.ret (.op .ix (.cons (.fld 6 (.var 0)) (.cons (.op .mod (.cons (.op .sub (.cons (.var 2) (.cons (.op .len (.cons (.fld 7 (.var 0)) .nil)) .nil))) (.cons (.op .len (.cons (.fld 6 (.var 0)) .nil)) .nil))) .nil))))))
/-- 12: Endless.window, slots 0 self, 1 begin, 2 stop, 3 index -/
def b12 : S :=
    .ret (.mt .sJoin (.con (.str [])) (.cons (.lc [3] (.nm 3) .range2 (.cons (.var 1) (.cons (.var 2) .nil)) .nil (.meth 10 (.var 0) (.cons (.var 3) .nil))) .nil))
/-- 13: Endless.moved, slots 0 self, 1 by -/
def b13 : S :=
    .ret (.make 8 (.cons (.fld 9 (.var 0)) (.cons (.fld 8 (.var 0)) (.cons (.fld 7 (.var 0)) (.cons (.fld 6 (.var 0)) (.cons (.op .sub (.cons (.fld 5 (.var 0)) (.cons (.var 1) .nil))) .nil))))))
/-- 14: Endless.__eq__, slots 0 self, 1 other, 2 begin, 3 stop -/
def b14 : S :=
    .seq (.ite (.not (.isi (.cls 8) (.var 1))) (.ret (.con (.bl false))) (.nop))
    (.seq (.ite (.bool false (.cons (.not (.op .eq (.cons (.fld 9 (.var 0)) (.cons (.fld 9 (.var 1)) .nil)))) (.cons (.not (.call 16 (.cons (.var 0) (.cons (.var 1) .nil)))) .nil))) (.ret (.con (.bl false))) (.nop))
    (.seq (.asg (.tp [2, 3]) (.call 15 (.cons (.var 0) (.cons (.var 1) .nil))))
    (.ret (.op .eq (.cons (.meth 11 (.var 0) (.cons (.var 2) (.cons (.var 3) .nil))) (.cons (.meth 11 (.var 1) (.cons (.var 2) (.cons (.var 3) .nil))) .nil))))))
/-- 15: middle_range, slots 0 first, 1 second, 2 begin, 3 stop -/
def b15 : S :=
    .seq (.asg (.nm 2) (.op .min2 (.cons (.fld 5 (.var 0)) (.cons (.fld 5 (.var 1)) .nil))))
    (.seq (.asg (.nm 3) (.op .max2 (.cons (.op .add (.cons (.fld 5 (.var 0)) (.cons (.op .len (.cons (.fld 7 (.var 0)) .nil)) .nil))) (.cons (.op .add (.cons (.fld 5 (.var 1)) (.cons (.op .len (.cons (.fld 7 (.var 1)) .nil)) .nil))) .nil))))
    (.ret (.tup (.cons (.var 2) (.cons (.var 3) .nil)))))
/-- 16: same_ends, slots 0 first, 1 second, 2 before, 3 behind, 4 begin, 5 stop -/
def b16 : S :=
    .seq (.asg (.tp [4, 5]) (.call 15 (.cons (.var 0) (.cons (.var 1) .nil))))
    (.seq (.asg (.nm 2) (.op .sub (.cons (.var 4) (.cons (.op .mul (.cons (.op .len (.cons (.fld 8 (.var 0)) .nil)) (.cons (.op .len (.cons (.fld 8 (.var 1)) .nil)) .nil))) .nil))))
    (.seq (.asg (.nm 3) (.op .add (.cons (.var 5) (.cons (.op .mul (.cons (.op .len (.cons (.fld 6 (.var 0)) .nil)) (.cons (.op .len (.cons (.fld 6 (.var 1)) .nil)) .nil))) .nil))))
    (.seq (.ite (.op .ne (.cons (.meth 11 (.var 0) (.cons (.var 2) (.cons (.var 4) .nil))) (.cons (.meth 11 (.var 1) (.cons (.var 2) (.cons (.var 4) .nil))) .nil))) (.ret (.con (.bl false))) (.nop))
    (.ret (.op .eq (.cons (.meth 11 (.var 0) (.cons (.var 5) (.cons (.var 3) .nil))) (.cons (.meth 11 (.var 1) (.cons (.var 5) (.cons (.var 3) .nil))) .nil)))))))
/-- 17: endless_apart, slots 0 first, 1 second, 2 begin, 3 stop, 4 index -/
def b17 : S :=
    .seq (.expr (.call 8 (.cons (.lst (.cons (.fld 9 (.var 0)) (.cons (.fld 9 (.var 1)) .nil))) .nil)))
    (.seq (.ite (.not (.call 16 (.cons (.var 0) (.cons (.var 1) .nil)))) (.ret (.con .non)) (.nop))
    (.seq (.asg (.tp [2, 3]) (.call 15 (.cons (.var 0) (.cons (.var 1) .nil))))
    (.ret (.lc [4] (.nm 4) .range2 (.cons (.var 2) (.cons (.var 3) .nil)) (.op .ne (.cons (.meth 10 (.var 0) (.cons (.var 4) .nil)) (.cons (.meth 10 (.var 1) (.cons (.var 4) .nil)) .nil))) (.var 4)))))
/-- 18: _law_source, slots 0 _law_script -/
def b18 : S :=
    .ret (.lst (.cons (.op .list_ (.cons (.var 0) .nil)) (.cons (.con (.int 0)) (.cons (.con (.int 0)) (.cons (.con (.int 0)) (.cons (.con (.int 0)) .nil))))))
/-- 19: _law_draw, slots 0 _law_source_here, 1 _law_size, 2 _law_cells, 3 _law_first, 4 _law_second, 5 _law_third, 6 _law_cell, 7 _law_value -/
def b19 : S :=
    .seq (.asg (.nm 2) (.op .ix (.cons (.var 0) (.cons (.con (.int 0)) .nil))))
    (.seq (.ite (.bool true (.cons (.op .eq (.cons (.op .ix (.cons (.var 0) (.cons (.con (.int 2)) .nil))) (.cons (.con (.int 0)) .nil))) (.cons (.op .lt (.cons (.op .ix (.cons (.var 0) (.cons (.con (.int 1)) .nil))) (.cons (.op .len (.cons (.var 2) .nil)) .nil))) .nil))) (.seq (.asg (.nm 6) (.op .abs_ (.cons (.op .ix (.cons (.var 2) (.cons (.op .ix (.cons (.var 0) (.cons (.con (.int 1)) .nil))) .nil))) .nil)))
    (.seq (.set 0 (.con (.int 1)) (.op .add (.cons (.op .ix (.cons (.var 0) (.cons (.con (.int 1)) .nil))) (.cons (.con (.int 1)) .nil))))
    (.seq (.set 0 (.con (.int 3)) (.op .mod (.cons (.op .int_ (.cons (.op .add (.cons (.op .mul (.cons (.op .ix (.cons (.var 0) (.cons (.con (.int 3)) .nil))) (.cons (.con (.int 48271)) .nil))) (.cons (.op .mul (.cons (.op .mod (.cons (.op .int_ (.cons (.var 6) .nil)) (.cons (.con (.int 2147483647)) .nil))) (.cons (.con (.int 69621)) .nil))) .nil))) .nil)) (.cons (.con (.int 2147483647)) .nil))))
    (.ite (.op .ge (.cons (.var 6) (.cons (.op .pow (.cons (.con (.int 10)) (.cons (.con (.int 18)) .nil))) .nil))) (.set 0 (.con (.int 2)) (.var 6)) (.nop))))) (.nop))
    (.seq (.ite (.op .gt (.cons (.op .ix (.cons (.var 0) (.cons (.con (.int 2)) .nil))) (.cons (.con (.int 0)) .nil))) (.seq (.asg (.nm 7) (.op .mod (.cons (.op .int_ (.cons (.op .ix (.cons (.var 0) (.cons (.con (.int 2)) .nil))) .nil)) (.cons (.var 1) .nil))))
    (.seq (.set 0 (.con (.int 2)) (.op .fdiv (.cons (.op .ix (.cons (.var 0) (.cons (.con (.int 2)) .nil))) (.cons (.var 1) .nil))))
    (.ret (.var 7)))) (.nop))
    (.seq (.set 0 (.con (.int 4)) (.op .add (.cons (.op .ix (.cons (.var 0) (.cons (.con (.int 4)) .nil))) (.cons (.con (.int 1)) .nil))))
    (.seq (.asg (.nm 3) (.op .mod (.cons (.op .int_ (.cons (.op .mul (.cons (.op .ix (.cons (.var 0) (.cons (.con (.int 3)) .nil))) (.cons (.op .add (.cons (.op .ix (.cons (.var 0) (.cons (.con (.int 4)) .nil))) (.cons (.con (.int 17)) .nil))) .nil))) .nil)) (.cons (.con (.int 2147483647)) .nil))))
    (.seq (.asg (.nm 4) (.op .mod (.cons (.op .int_ (.cons (.op .mul (.cons (.var 3) (.cons (.var 3) .nil))) .nil)) (.cons (.con (.int 2147483629)) .nil))))
    (.seq (.asg (.nm 5) (.op .mod (.cons (.op .int_ (.cons (.op .add (.cons (.op .mul (.cons (.var 4) (.cons (.con (.int 48271)) .nil))) (.cons (.op .mul (.cons (.var 3) (.cons (.op .ix (.cons (.var 0) (.cons (.con (.int 4)) .nil))) .nil))) .nil))) .nil)) (.cons (.con (.int 2147483587)) .nil))))
    (.ret (.op .mod (.cons (.op .int_ (.cons (.op .add (.cons (.op .fdiv (.cons (.var 5) (.cons (.con (.int 13)) .nil))) (.cons (.op .fdiv (.cons (.op .mul (.cons (.op .ix (.cons (.var 0) (.cons (.con (.int 4)) .nil))) (.cons (.op .ix (.cons (.var 0) (.cons (.con (.int 4)) .nil))) .nil))) (.cons (.con (.int 3)) .nil))) .nil))) .nil)) (.cons (.var 1) .nil))))))))))
/-- 20: _law_strip, slots 0 _law_source_here, 1 _law_columns, 2 _law_size, 3 _law_k -/
def b20 : S :=
    .ret (.mt .sJoin (.con (.str [])) (.cons (.lc [3] (.nm 3) .range1 (.cons (.var 2) .nil) .nil (.op .ix (.cons (.var 1) (.cons (.call 19 (.cons (.var 0) (.cons (.op .len (.cons (.var 1) .nil)) .nil))) .nil)))) .nil))
/-- 21: _law_shape, slots 0 _law_source_here, 1 _law_pick -/
def b21 : S :=
    .seq (.asg (.nm 1) (.op .ix (.cons (.lst (.cons (.con (.int 0)) (.cons (.con (.int 0)) (.cons (.con (.int 0)) (.cons (.con (.int 0)) (.cons (.con (.int 0)) (.cons (.con (.int 0)) (.cons (.con (.int 1)) (.cons (.con (.int 1)) (.cons (.con (.int 2)) (.cons (.con (.int 2)) (.cons (.con (.int 3)) (.cons (.con (.int 4)) .nil))))))))))))) (.cons (.call 19 (.cons (.var 0) (.cons (.con (.int 12)) .nil))) .nil))))
    (.ret (.op .ix (.cons (.lst (.cons (.tup (.cons (.con (.int 1)) (.cons (.con (.int 2)) (.cons (.con (.str [97, 98])) .nil)))) (.cons (.tup (.cons (.con (.int 1)) (.cons (.con (.int 3)) (.cons (.con (.str [97, 98, 99])) .nil)))) (.cons (.tup (.cons (.con (.int 2)) (.cons (.con (.int 2)) (.cons (.con (.str [97, 98, 99, 100])) .nil)))) (.cons (.tup (.cons (.con (.int 3)) (.cons (.con (.int 2)) (.cons (.con (.str [97, 98, 99, 100, 101, 102, 103, 104])) .nil)))) (.cons (.tup (.cons (.con (.int 2)) (.cons (.con (.int 3)) (.cons (.con (.str [97, 98, 99, 100, 101, 102, 103, 104, 105])) .nil)))) .nil)))))) (.cons (.var 1) .nil))))
/-- 22: _law_column, slots 0 _law_parts_here, 1 _law_index, 2 _law_place, 3 _law_left, 4 _law_middle, 5 _law_right, 6 _law_begin -/
def b22 : S :=
    .seq (.asg (.tp [3, 4, 5, 6]) (.var 0))
    (.seq (.asg (.nm 2) (.op .sub (.cons (.var 1) (.cons (.var 6) .nil))))
    (.seq (.ite (.op .lt (.cons (.var 2) (.cons (.con (.int 0)) .nil))) (.ret (.op .ix (.cons (.var 3) (.cons (.op .mod (.cons (.op .int_ (.cons (.var 2) .nil)) (.cons (.op .len (.cons (.var 3) .nil)) .nil))) .nil)))) (.nop))
    (.seq (.ite (.op .lt (.cons (.var 2) (.cons (.op .len (.cons (.var 4) .nil)) .nil))) (.ret (.op .ix (.cons (.var 4) (.cons (.var 2) .nil)))) (.nop))
    (.ret (.op .ix (.cons (.var 5) (.cons (.op .mod (.cons (.op .int_ (.cons (.op .sub (.cons (.var 2) (.cons (.op .len (.cons (.var 4) .nil)) .nil))) .nil)) (.cons (.op .len (.cons (.var 5) .nil)) .nil))) .nil)))))))
/-- 23: _law_text, slots 0 _law_parts_here, 1 _law_begin, 2 _law_stop, 3 _law_index -/
def b23 : S :=
    .ret (.mt .sJoin (.con (.str [])) (.cons (.lc [3] (.nm 3) .range2 (.cons (.var 1) (.cons (.var 2) .nil)) .nil (.call 22 (.cons (.var 0) (.cons (.var 3) .nil)))) .nil))
/-- 24: _law_made, slots 0 _law_scheme, 1 _law_parts_here -/
def b24 : S :=
    .ret (.make 8 (.cons (.var 0) (.cons (.op .ix (.cons (.var 1) (.cons (.con (.int 0)) .nil))) (.cons (.op .ix (.cons (.var 1) (.cons (.con (.int 1)) .nil))) (.cons (.op .ix (.cons (.var 1) (.cons (.con (.int 2)) .nil))) (.cons (.op .ix (.cons (.var 1) (.cons (.con (.int 3)) .nil))) .nil))))))
/-- 25: _law_parts, slots 0 _law_source_here, 1 _law_columns, 2 _law_size, 3 _law_begin, 4 _law_left, 5 _law_middle, 6 _law_right -/
def b25 : S :=
    .seq (.asg (.nm 2) (.call 19 (.cons (.var 0) (.cons (.con (.int 10)) .nil))))
    (.seq (.ite (.op .eq (.cons (.call 19 (.cons (.var 0) (.cons (.con (.int 8)) .nil))) (.cons (.con (.int 1)) .nil))) (.asg (.nm 2) (.call 19 (.cons (.var 0) (.cons (.con (.int 35)) .nil)))) (.nop))
    (.seq (.asg (.nm 3) (.op .sub (.cons (.call 19 (.cons (.var 0) (.cons (.con (.int 19)) .nil))) (.cons (.con (.int 9)) .nil))))
    (.seq (.ite (.op .eq (.cons (.call 19 (.cons (.var 0) (.cons (.con (.int 4)) .nil))) (.cons (.con (.int 1)) .nil))) (.asg (.nm 3) (.op .sub (.cons (.call 19 (.cons (.var 0) (.cons (.con (.int 601)) .nil))) (.cons (.con (.int 300)) .nil)))) (.nop))
    (.seq (.asg (.nm 4) (.call 20 (.cons (.var 0) (.cons (.var 1) (.cons (.op .add (.cons (.con (.int 1)) (.cons (.call 19 (.cons (.var 0) (.cons (.con (.int 6)) .nil))) .nil))) .nil)))))
    (.seq (.asg (.nm 5) (.call 20 (.cons (.var 0) (.cons (.var 1) (.cons (.var 2) .nil)))))
    (.seq (.asg (.nm 6) (.call 20 (.cons (.var 0) (.cons (.var 1) (.cons (.op .add (.cons (.con (.int 1)) (.cons (.call 19 (.cons (.var 0) (.cons (.con (.int 6)) .nil))) .nil))) .nil)))))
    (.ret (.tup (.cons (.var 4) (.cons (.var 5) (.cons (.var 6) (.cons (.var 3) .nil))))))))))))
/-- 26: _law_rewritten, slots 0 _law_source_here, 1 _law_parts_here, 2 _law_low, 3 _law_high, 4 _law_before, 5 _law_behind, 6 _law_left, 7 _law_middle, 8 _law_right, 9 _law_begin -/
def b26 : S :=
    .seq (.asg (.tp [6, 7, 8, 9]) (.var 1))
    (.seq (.asg (.nm 2) (.op .sub (.cons (.var 9) (.cons (.call 19 (.cons (.var 0) (.cons (.con (.int 4)) .nil))) .nil))))
    (.seq (.asg (.nm 3) (.op .add (.cons (.op .add (.cons (.var 9) (.cons (.op .len (.cons (.var 7) .nil)) .nil))) (.cons (.call 19 (.cons (.var 0) (.cons (.con (.int 4)) .nil))) .nil))))
    (.seq (.asg (.nm 4) (.op .sub (.cons (.var 2) (.cons (.op .mul (.cons (.op .len (.cons (.var 6) .nil)) (.cons (.op .add (.cons (.con (.int 1)) (.cons (.call 19 (.cons (.var 0) (.cons (.op .fdiv (.cons (.con (.int 6)) (.cons (.op .len (.cons (.var 6) .nil)) .nil))) .nil))) .nil))) .nil))) .nil))))
    (.seq (.asg (.nm 5) (.op .add (.cons (.var 3) (.cons (.op .mul (.cons (.op .len (.cons (.var 8) .nil)) (.cons (.op .add (.cons (.con (.int 1)) (.cons (.call 19 (.cons (.var 0) (.cons (.op .fdiv (.cons (.con (.int 6)) (.cons (.op .len (.cons (.var 8) .nil)) .nil))) .nil))) .nil))) .nil))) .nil))))
    (.ret (.tup (.cons (.call 23 (.cons (.var 1) (.cons (.var 4) (.cons (.var 2) .nil)))) (.cons (.call 23 (.cons (.var 1) (.cons (.var 2) (.cons (.var 3) .nil)))) (.cons (.call 23 (.cons (.var 1) (.cons (.var 3) (.cons (.var 5) .nil)))) (.cons (.var 2) .nil))))))))))
/-- 27: _law_changed, slots 0 _law_source_here, 1 _law_columns, 2 _law_text_here, 3 _law_at, 4 _law_step, 5 _law_column_here -/
def b27 : S :=
    .seq (.ite (.op .eq (.cons (.var 2) (.cons (.con (.str [])) .nil))) (.ret (.var 2)) (.nop))
    (.seq (.asg (.nm 3) (.call 19 (.cons (.var 0) (.cons (.op .len (.cons (.var 2) .nil)) .nil))))
    (.seq (.asg (.nm 4) (.op .add (.cons (.con (.int 1)) (.cons (.call 19 (.cons (.var 0) (.cons (.op .sub (.cons (.op .len (.cons (.var 1) .nil)) (.cons (.con (.int 1)) .nil))) .nil))) .nil))))
    (.seq (.asg (.nm 5) (.op .ix (.cons (.var 1) (.cons (.op .mod (.cons (.op .int_ (.cons (.op .add (.cons (.mt .sFind (.var 1) (.cons (.op .ix (.cons (.var 2) (.cons (.var 3) .nil))) .nil)) (.cons (.var 4) .nil))) .nil)) (.cons (.op .len (.cons (.var 1) .nil)) .nil))) .nil))))
    (.ret (.op .add (.cons (.op .add (.cons (.slice (.var 2) .nil (.var 3)) (.cons (.var 5) .nil))) (.cons (.slice (.var 2) (.op .add (.cons (.var 3) (.cons (.con (.int 1)) .nil))) .nil) .nil)))))))
/-- 28: _law_other, slots 0 _law_source_here, 1 _law_columns, 2 _law_parts_here, 3 _law_pick, 4 _law_left, 5 _law_middle, 6 _law_right, 7 _law_begin -/
def b28 : S :=
    .seq (.asg (.nm 3) (.call 19 (.cons (.var 0) (.cons (.con (.int 8)) .nil))))
    (.seq (.ite (.op .eq (.cons (.var 3) (.cons (.con (.int 7)) .nil))) (.ret (.call 25 (.cons (.var 0) (.cons (.var 1) .nil)))) (.nop))
    (.seq (.asg (.tp [4, 5, 6, 7]) (.call 26 (.cons (.var 0) (.cons (.var 2) .nil))))
    (.seq (.ite (.bool false (.cons (.op .eq (.cons (.var 3) (.cons (.con (.int 3)) .nil))) (.cons (.op .eq (.cons (.var 3) (.cons (.con (.int 4)) .nil))) .nil))) (.asg (.nm 5) (.call 27 (.cons (.var 0) (.cons (.var 1) (.cons (.var 5) .nil))))) (.nop))
    (.seq (.ite (.op .eq (.cons (.var 3) (.cons (.con (.int 4)) .nil))) (.asg (.nm 5) (.call 27 (.cons (.var 0) (.cons (.var 1) (.cons (.var 5) .nil))))) (.nop))
    (.seq (.ite (.op .eq (.cons (.var 3) (.cons (.con (.int 5)) .nil))) (.asg (.nm 4) (.call 27 (.cons (.var 0) (.cons (.var 1) (.cons (.var 4) .nil))))) (.nop))
    (.seq (.ite (.op .eq (.cons (.var 3) (.cons (.con (.int 6)) .nil))) (.asg (.nm 6) (.call 27 (.cons (.var 0) (.cons (.var 1) (.cons (.var 6) .nil))))) (.nop))
    (.ret (.tup (.cons (.var 4) (.cons (.var 5) (.cons (.var 6) (.cons (.var 7) .nil))))))))))))
/-- 29: _law_gaps, slots 0 _law_one, 1 _law_other_here, 2 _law_low, 3 _law_high, 4 _law_front, 5 _law_back, 6 _law_index -/
def b29 : S :=
    .seq (.asg (.nm 2) (.op .min2 (.cons (.op .ix (.cons (.var 0) (.cons (.con (.int 3)) .nil))) (.cons (.op .ix (.cons (.var 1) (.cons (.con (.int 3)) .nil))) .nil))))
    (.seq (.asg (.nm 3) (.op .max2 (.cons (.op .add (.cons (.op .ix (.cons (.var 0) (.cons (.con (.int 3)) .nil))) (.cons (.op .len (.cons (.op .ix (.cons (.var 0) (.cons (.con (.int 1)) .nil))) .nil)) .nil))) (.cons (.op .add (.cons (.op .ix (.cons (.var 1) (.cons (.con (.int 3)) .nil))) (.cons (.op .len (.cons (.op .ix (.cons (.var 1) (.cons (.con (.int 1)) .nil))) .nil)) .nil))) .nil))))
    (.seq (.asg (.nm 4) (.op .sub (.cons (.var 2) (.cons (.op .mul (.cons (.op .len (.cons (.op .ix (.cons (.var 0) (.cons (.con (.int 0)) .nil))) .nil)) (.cons (.op .len (.cons (.op .ix (.cons (.var 1) (.cons (.con (.int 0)) .nil))) .nil)) .nil))) .nil))))
    (.seq (.asg (.nm 5) (.op .add (.cons (.var 3) (.cons (.op .mul (.cons (.op .len (.cons (.op .ix (.cons (.var 0) (.cons (.con (.int 2)) .nil))) .nil)) (.cons (.op .len (.cons (.op .ix (.cons (.var 1) (.cons (.con (.int 2)) .nil))) .nil)) .nil))) .nil))))
    (.seq (.ite (.op .ne (.cons (.call 23 (.cons (.var 0) (.cons (.var 4) (.cons (.var 2) .nil)))) (.cons (.call 23 (.cons (.var 1) (.cons (.var 4) (.cons (.var 2) .nil)))) .nil))) (.ret (.con .non)) (.nop))
    (.seq (.ite (.op .ne (.cons (.call 23 (.cons (.var 0) (.cons (.var 3) (.cons (.var 5) .nil)))) (.cons (.call 23 (.cons (.var 1) (.cons (.var 3) (.cons (.var 5) .nil)))) .nil))) (.ret (.con .non)) (.nop))
    (.ret (.lc [6] (.nm 6) .range2 (.cons (.var 2) (.cons (.var 3) .nil)) (.op .ne (.cons (.call 22 (.cons (.var 0) (.cons (.var 6) .nil))) (.cons (.call 22 (.cons (.var 1) (.cons (.var 6) .nil))) .nil))) (.var 6))))))))
/-- 30: _law_columns_hold, slots 0 _law_made_here, 1 _law_parts_here, 2 _law_places, 3 _law_index, 4 _law_told -/
def b30 : S :=
    .seq (.asg (.nm 2) (.op .add (.cons (.lrg (.op .sub (.cons (.op .ix (.cons (.var 1) (.cons (.con (.int 3)) .nil))) (.cons (.con (.int 8)) .nil))) (.op .add (.cons (.op .add (.cons (.op .ix (.cons (.var 1) (.cons (.con (.int 3)) .nil))) (.cons (.op .len (.cons (.op .ix (.cons (.var 1) (.cons (.con (.int 1)) .nil))) .nil)) .nil))) (.cons (.con (.int 8)) .nil)))) (.cons (.lst (.cons (.op .neg (.cons (.con (.int 1000)) .nil)) (.cons (.op .neg (.cons (.con (.int 999)) .nil)) (.cons (.con (.int 998)) (.cons (.con (.int 1000)) .nil))))) .nil))))
    (.seq (.for_ (.nm 3) .seq (.cons (.var 2) .nil) (.seq (.asg (.nm 4) (.meth 10 (.var 0) (.cons (.var 3) .nil)))
    (.ite (.bool false (.cons (.not (.isi .str (.var 4))) (.cons (.op .ne (.cons (.var 4) (.cons (.call 22 (.cons (.var 1) (.cons (.var 3) .nil))) .nil))) .nil))) (.ret (.con (.bl false))) (.nop))))
    (.ret (.con (.bl true))))
/-- 31: _law_windows_hold, slots 0 _law_source_here, 1 _law_made_here, 2 _law_parts_here, 3 _law_pairs, 4 _law_k, 5 _law_low, 6 _law_high, 7 _law_told -/
def b31 : S :=
    .seq (.asg (.nm 3) (.lst (.cons (.tup (.cons (.op .neg (.cons (.con (.int 1000)) .nil)) (.cons (.op .neg (.cons (.con (.int 961)) .nil)) .nil))) (.cons (.tup (.cons (.con (.int 961)) (.cons (.con (.int 1000)) .nil))) (.cons (.tup (.cons (.op .ix (.cons (.var 2) (.cons (.con (.int 3)) .nil))) (.cons (.op .ix (.cons (.var 2) (.cons (.con (.int 3)) .nil))) .nil))) (.cons (.tup (.cons (.op .add (.cons (.op .ix (.cons (.var 2) (.cons (.con (.int 3)) .nil))) (.cons (.con (.int 3)) .nil))) (.cons (.op .sub (.cons (.op .ix (.cons (.var 2) (.cons (.con (.int 3)) .nil))) (.cons (.con (.int 4)) .nil))) .nil))) .nil))))))
    (.seq (.for_ (.nm 4) .range1 (.cons (.con (.int 3)) .nil) (.seq (.asg (.nm 5) (.op .sub (.cons (.op .add (.cons (.op .ix (.cons (.var 2) (.cons (.con (.int 3)) .nil))) (.cons (.call 19 (.cons (.var 0) (.cons (.con (.int 50)) .nil))) .nil))) (.cons (.con (.int 30)) .nil))))
    (.app 3 (.tup (.cons (.var 5) (.cons (.op .sub (.cons (.op .add (.cons (.var 5) (.cons (.call 19 (.cons (.var 0) (.cons (.con (.int 51)) .nil))) .nil))) (.cons (.con (.int 5)) .nil))) .nil))))))
    (.seq (.for_ (.tp [5, 6]) .seq (.cons (.var 3) .nil) (.seq (.asg (.nm 7) (.meth 11 (.var 1) (.cons (.var 5) (.cons (.var 6) .nil))))
    (.ite (.bool false (.cons (.not (.isi .str (.var 7))) (.cons (.op .ne (.cons (.var 7) (.cons (.call 23 (.cons (.var 2) (.cons (.var 5) (.cons (.var 6) .nil)))) .nil))) .nil))) (.ret (.con (.bl false))) (.nop))))
    (.ret (.con (.bl true)))))
/-- 32: _law_gaps_hold, slots 0 _law_one, 1 _law_other_here, 2 _law_gaps_here, 3 _law_same, 4 _law_turn, 5 _law_told, 6 _law_k -/
def b32 : S :=
    .seq (.for_ (.nm 3) .seq (.cons (.lst (.cons (.op .eq (.cons (.var 0) (.cons (.var 1) .nil))) (.cons (.op .eq (.cons (.var 1) (.cons (.var 0) .nil))) .nil))) .nil) (.ite (.bool false (.cons (.not (.isi .bool (.var 3))) (.cons (.op .ne (.cons (.var 3) (.cons (.op .eq (.cons (.var 2) (.cons (.lst .nil) .nil))) .nil))) .nil))) (.ret (.con (.bl false))) (.nop)))
    (.seq (.for_ (.nm 4) .range1 (.cons (.con (.int 3)) .nil) (.seq (.asg (.nm 5) (.call 17 (.cons (.var 0) (.cons (.var 1) .nil))))
    (.seq (.ite (.op .eq (.cons (.var 4) (.cons (.con (.int 1)) .nil))) (.asg (.nm 5) (.call 17 (.cons (.var 1) (.cons (.var 0) .nil)))) (.nop))
    (.ite (.op .is_ (.cons (.var 2) (.cons (.con .non) .nil))) (.ite (.op .isnot (.cons (.var 5) (.cons (.con .non) .nil))) (.ret (.con (.bl false))) (.nop)) (.seq (.ite (.bool false (.cons (.not (.isi .list (.var 5))) (.cons (.op .ne (.cons (.op .len (.cons (.var 5) .nil)) (.cons (.op .len (.cons (.var 2) .nil)) .nil))) .nil))) (.ret (.con (.bl false))) (.nop))
    (.seq (.for_ (.nm 6) .range1 (.cons (.op .len (.cons (.var 2) .nil)) .nil) (.ite (.bool false (.cons (.not (.isi .int (.op .ix (.cons (.var 5) (.cons (.var 6) .nil))))) (.cons (.isi .bool (.op .ix (.cons (.var 5) (.cons (.var 6) .nil)))) (.cons (.op .ne (.cons (.op .ix (.cons (.var 5) (.cons (.var 6) .nil))) (.cons (.op .ix (.cons (.var 2) (.cons (.var 6) .nil))) .nil))) .nil)))) (.ret (.con (.bl false))) (.nop)))
    (.app 5 (.con (.int 0)))))))))
    (.ret (.con (.bl true))))
/-- 33: _law_moves_hold, slots 0 _law_source_here, 1 _law_scheme, 2 _law_made_here, 3 _law_parts_here, 4 _law_by, 5 _law_gone, 6 _law_there -/
def b33 : S :=
    .seq (.asg (.nm 4) (.op .sub (.cons (.call 19 (.cons (.var 0) (.cons (.con (.int 13)) .nil))) (.cons (.con (.int 6)) .nil))))
    (.seq (.ite (.op .eq (.cons (.call 19 (.cons (.var 0) (.cons (.con (.int 5)) .nil))) (.cons (.con (.int 1)) .nil))) (.asg (.nm 4) (.op .sub (.cons (.call 19 (.cons (.var 0) (.cons (.con (.int 601)) .nil))) (.cons (.con (.int 300)) .nil)))) (.nop))
    (.seq (.asg (.nm 5) (.meth 12 (.var 2) (.cons (.var 4) .nil)))
    (.seq (.asg (.nm 6) (.tup (.cons (.op .ix (.cons (.var 3) (.cons (.con (.int 0)) .nil))) (.cons (.op .ix (.cons (.var 3) (.cons (.con (.int 1)) .nil))) (.cons (.op .ix (.cons (.var 3) (.cons (.con (.int 2)) .nil))) (.cons (.op .sub (.cons (.op .ix (.cons (.var 3) (.cons (.con (.int 3)) .nil))) (.cons (.var 4) .nil))) .nil))))))
    (.seq (.ite (.bool false (.cons (.not (.isi (.cls 8) (.var 5))) (.cons (.not (.op .eq (.cons (.fld 9 (.var 5)) (.cons (.var 1) .nil)))) (.cons (.not (.call 30 (.cons (.var 5) (.cons (.var 6) .nil)))) .nil)))) (.ret (.con (.bl false))) (.nop))
    (.seq (.ite (.bool false (.cons (.not (.op .eq (.cons (.var 5) (.cons (.call 24 (.cons (.var 1) (.cons (.var 6) .nil))) .nil)))) (.cons (.not (.op .eq (.cons (.meth 12 (.var 5) (.cons (.op .neg (.cons (.var 4) .nil)) .nil)) (.cons (.var 2) .nil)))) (.cons (.not (.op .eq (.cons (.meth 12 (.var 2) (.cons (.con (.int 0)) .nil)) (.cons (.var 2) .nil)))) .nil)))) (.ret (.con (.bl false))) (.nop))
    (.ret (.call 32 (.cons (.var 2) (.cons (.var 5) (.cons (.call 29 (.cons (.var 3) (.cons (.var 6) .nil))) .nil))))))))))
/-- 34: _law_spoilt, slots 0 _law_source_here, 1 _law_columns, 2 _law_text_here, 3 _law_ends, 4 _law_sign, 5 _law_at -/
def b34 : S :=
    .seq (.ite (.bool true (.cons (.var 3) (.cons (.op .eq (.cons (.call 19 (.cons (.var 0) (.cons (.con (.int 3)) .nil))) (.cons (.con (.int 0)) .nil))) .nil))) (.ret (.op .ix (.cons (.lst (.cons (.con (.str [])) (.cons (.slice (.op .mul (.cons (.var 2) (.cons (.con (.int 7)) .nil))) .nil (.con (.int 7))) .nil))) (.cons (.call 19 (.cons (.var 0) (.cons (.con (.int 2)) .nil))) .nil)))) (.nop))
    (.seq (.asg (.nm 4) (.op .ix (.cons (.op .add (.cons (.op .ix (.cons (.con (.str [97, 98, 99, 100, 101, 102, 103, 104, 105, 106])) (.cons (.op .len (.cons (.var 1) .nil)) .nil))) (.cons (.con (.str [122, 65, 48, 32, 46, 45])) .nil))) (.cons (.call 19 (.cons (.var 0) (.cons (.con (.int 7)) .nil))) .nil))))
    (.seq (.asg (.nm 5) (.call 19 (.cons (.var 0) (.cons (.op .add (.cons (.op .len (.cons (.var 2) .nil)) (.cons (.con (.int 1)) .nil))) .nil))))
    (.ret (.op .add (.cons (.op .add (.cons (.slice (.var 2) .nil (.var 5)) (.cons (.var 4) .nil))) (.cons (.slice (.var 2) (.var 5) .nil) .nil))))))
/-- 35: _law_refusal, slots 0 _law_scheme, 1 _law_parts_here, 2 e -/
def b35 : S :=
    .seq (.try_ (.expr (.make 8 (.cons (.var 0) (.cons (.op .ix (.cons (.var 1) (.cons (.con (.int 0)) .nil))) (.cons (.op .ix (.cons (.var 1) (.cons (.con (.int 1)) .nil))) (.cons (.op .ix (.cons (.var 1) (.cons (.con (.int 2)) .nil))) (.cons (.op .ix (.cons (.var 1) (.cons (.con (.int 3)) .nil))) .nil))))))) 6 2 (.seq (.ite (.bool true (.cons (.exi .ve 2) (.cons (.exi (.cls 0) 2) (.cons (.not (.exi (.cls 5) 2)) .nil)))) (.ret (.tup (.cons (.exf 13 2) .nil))) (.nop))
    (.ret (.tup (.cons (.con .non) .nil)))))
    (.ret (.tup .nil))
/-- 36: _law_refusals_hold, slots 0 _law_source_here, 1 _law_scheme, 2 _law_columns, 3 _law_parts_here, 4 _law_marks, 5 _law_due, 6 _law_left, 7 _law_middle, 8 _law_right, 9 _law_begin -/
def b36 : S :=
    .seq (.asg (.tp [6, 7, 8, 9]) (.var 3))
    (.seq (.asg (.nm 4) (.call 19 (.cons (.var 0) (.cons (.con (.int 8)) .nil))))
    (.seq (.asg (.nm 5) (.tup .nil))
    (.seq (.ite (.op .eq (.cons (.op .fdiv (.cons (.var 4) (.cons (.con (.int 4)) .nil))) (.cons (.con (.int 1)) .nil))) (.seq (.asg (.nm 8) (.call 34 (.cons (.var 0) (.cons (.var 2) (.cons (.var 8) (.cons (.con (.bl true)) .nil))))))
    (.asg (.nm 5) (.tup (.cons (.con (.str [114, 105, 103, 104, 116])) .nil)))) (.nop))
    (.seq (.ite (.op .in_ (.cons (.op .fdiv (.cons (.var 4) (.cons (.con (.int 2)) .nil))) (.cons (.lst (.cons (.con (.int 1)) (.cons (.con (.int 3)) .nil))) .nil))) (.seq (.asg (.nm 7) (.call 34 (.cons (.var 0) (.cons (.var 2) (.cons (.var 7) (.cons (.con (.bl false)) .nil))))))
    (.asg (.nm 5) (.tup (.cons (.con (.str [109, 105, 100, 100, 108, 101])) .nil)))) (.nop))
    (.seq (.ite (.op .in_ (.cons (.var 4) (.cons (.lst (.cons (.con (.int 1)) (.cons (.con (.int 3)) (.cons (.con (.int 5)) (.cons (.con (.int 7)) .nil))))) .nil))) (.seq (.asg (.nm 6) (.call 34 (.cons (.var 0) (.cons (.var 2) (.cons (.var 6) (.cons (.con (.bl true)) .nil))))))
    (.asg (.nm 5) (.tup (.cons (.con (.str [108, 101, 102, 116])) .nil)))) (.nop))
    (.ret (.op .eq (.cons (.call 35 (.cons (.var 1) (.cons (.tup (.cons (.var 6) (.cons (.var 7) (.cons (.var 8) (.cons (.var 9) .nil))))) .nil))) (.cons (.var 5) .nil)))))))))
/-- 37: _law_unlike, slots 0 _law_one, 1 _law_other_here, 2 e -/
def b37 : S :=
    .seq (.try_ (.expr (.call 17 (.cons (.var 0) (.cons (.var 1) .nil)))) 1 2 (.ret (.bool true (.cons (.exi (.cls 0) 2) (.cons (.not (.exi (.cls 6) 2)) .nil)))))
    (.ret (.con (.bl false)))
/-- 38: _law_kinds_hold, slots 0 _law_scheme, 1 _law_columns, 2 _law_strange, 3 _law_plain, 4 _law_same -/
def b38 : S :=
    .seq (.asg (.nm 2) (.make 8 (.cons (.make 7 (.cons (.con (.int 1)) (.cons (.con (.int 3)) .nil))) (.cons (.con (.str [97])) (.cons (.con (.str [])) (.cons (.con (.str [97])) (.cons (.con (.int 0)) .nil)))))))
    (.seq (.ite (.op .gt (.cons (.op .len (.cons (.var 1) .nil)) (.cons (.con (.int 2)) .nil))) (.asg (.nm 2) (.make 8 (.cons (.make 7 (.cons (.con (.int 1)) (.cons (.con (.int 2)) .nil))) (.cons (.con (.str [97])) (.cons (.con (.str [])) (.cons (.con (.str [97])) (.cons (.con (.int 0)) .nil))))))) (.nop))
    (.seq (.asg (.nm 3) (.make 8 (.cons (.var 0) (.cons (.con (.str [97])) (.cons (.con (.str [])) (.cons (.con (.str [97])) (.cons (.con (.int 0)) .nil)))))))
    (.seq (.for_ (.nm 4) .seq (.cons (.lst (.cons (.op .eq (.cons (.var 3) (.cons (.var 2) .nil))) (.cons (.op .eq (.cons (.var 2) (.cons (.var 3) .nil))) (.cons (.op .eq (.cons (.var 3) (.cons (.con (.str [97])) .nil))) (.cons (.op .eq (.cons (.var 3) (.cons (.var 1) .nil))) .nil))))) .nil) (.ite (.op .isnot (.cons (.var 4) (.cons (.con (.bl false)) .nil))) (.ret (.con (.bl false))) (.nop)))
    (.ret (.bool true (.cons (.call 37 (.cons (.var 3) (.cons (.var 2) .nil))) (.cons (.call 37 (.cons (.var 2) (.cons (.var 3) .nil))) .nil)))))))
/-- 39: law, slots 0 _law_script, 1 _law_source_here, 2 _law_scheme, 3 _law_parts_here, 4 _law_made_here, 5 _law_plain, 6 _law_other_here, 7 _law_rows, 8 _law_colours, 9 _law_columns -/
def b39 : S :=
    .seq (.asg (.nm 1) (.call 18 (.cons (.var 0) .nil)))
    (.seq (.asg (.tp [7, 8, 9]) (.call 21 (.cons (.var 1) .nil)))
    (.seq (.asg (.nm 2) (.make 7 (.cons (.var 7) (.cons (.var 8) .nil))))
    (.seq (.asg (.nm 3) (.call 25 (.cons (.var 1) (.cons (.var 9) .nil))))
    (.seq (.asg (.nm 4) (.call 24 (.cons (.var 2) (.cons (.var 3) .nil))))
    (.seq (.ite (.bool false (.cons (.not (.isi (.cls 7) (.fld 9 (.var 4)))) (.cons (.not (.op .eq (.cons (.fld 9 (.var 4)) (.cons (.var 2) .nil)))) .nil))) (.ret (.con (.bl false))) (.nop))
    (.seq (.ite (.bool false (.cons (.not (.call 30 (.cons (.var 4) (.cons (.var 3) .nil)))) (.cons (.not (.call 31 (.cons (.var 1) (.cons (.var 4) (.cons (.var 3) .nil))))) .nil))) (.ret (.con (.bl false))) (.nop))
    (.seq (.asg (.nm 5) (.make 8 (.cons (.var 2) (.cons (.op .ix (.cons (.var 3) (.cons (.con (.int 0)) .nil))) (.cons (.op .ix (.cons (.var 3) (.cons (.con (.int 1)) .nil))) (.cons (.op .ix (.cons (.var 3) (.cons (.con (.int 2)) .nil))) (.cons (.con (.int 0)) .nil)))))))
    (.seq (.ite (.not (.call 32 (.cons (.var 4) (.cons (.var 5) (.cons (.call 29 (.cons (.var 3) (.cons (.tup (.cons (.op .ix (.cons (.var 3) (.cons (.con (.int 0)) .nil))) (.cons (.op .ix (.cons (.var 3) (.cons (.con (.int 1)) .nil))) (.cons (.op .ix (.cons (.var 3) (.cons (.con (.int 2)) .nil))) (.cons (.con (.int 0)) .nil))))) .nil))) .nil))))) (.ret (.con (.bl false))) (.nop))
    (.seq (.ite (.not (.call 33 (.cons (.var 1) (.cons (.var 2) (.cons (.var 4) (.cons (.var 3) .nil)))))) (.ret (.con (.bl false))) (.nop))
    (.seq (.asg (.nm 6) (.call 28 (.cons (.var 1) (.cons (.var 9) (.cons (.var 3) .nil)))))
    (.seq (.ite (.not (.call 32 (.cons (.var 4) (.cons (.call 24 (.cons (.var 2) (.cons (.var 6) .nil))) (.cons (.call 29 (.cons (.var 3) (.cons (.var 6) .nil))) .nil))))) (.ret (.con (.bl false))) (.nop))
    (.seq (.ite (.bool false (.cons (.not (.call 36 (.cons (.var 1) (.cons (.var 2) (.cons (.var 9) (.cons (.var 3) .nil)))))) (.cons (.not (.call 38 (.cons (.var 2) (.cons (.var 9) .nil)))) .nil))) (.ret (.con (.bl false))) (.nop))
    (.ret (.call 30 (.cons (.var 4) (.cons (.var 3) .nil))))))))))))))))
def P : Prog := ⟨[⟨2, 4, b0⟩, ⟨3, 3, b1⟩, ⟨2, 3, b2⟩, ⟨2, 3, b3⟩, ⟨2, 5, b4⟩, ⟨2, 4, b5⟩, ⟨2, 2, b6⟩, ⟨1, 1, b7⟩, ⟨1, 2, b8⟩, ⟨2, 2, b9⟩, ⟨6, 6, b10⟩, ⟨2, 3, b11⟩, ⟨3, 4, b12⟩, ⟨2, 2, b13⟩, ⟨2, 4, b14⟩, ⟨2, 4, b15⟩, ⟨2, 6, b16⟩, ⟨2, 5, b17⟩, ⟨1, 1, b18⟩, ⟨2, 8, b19⟩, ⟨3, 4, b20⟩, ⟨1, 2, b21⟩, ⟨2, 7, b22⟩, ⟨3, 4, b23⟩, ⟨2, 2, b24⟩, ⟨2, 7, b25⟩, ⟨2, 10, b26⟩, ⟨3, 6, b27⟩, ⟨3, 8, b28⟩, ⟨2, 7, b29⟩, ⟨2, 5, b30⟩, ⟨3, 8, b31⟩, ⟨3, 7, b32⟩, ⟨4, 7, b33⟩, ⟨4, 6, b34⟩, ⟨2, 3, b35⟩, ⟨4, 10, b36⟩, ⟨2, 3, b37⟩, ⟨2, 5, b38⟩, ⟨1, 10, b39⟩],
  [{ exf := some [], sup := [0] },
   { exf := some [], sup := [1, 0] },
   { exf := some [13], sup := [2, 0] },
   { exf := some [14], sup := [3, 0] },
   { exf := some [14], sup := [4, 0] },
   { exf := some [14], sup := [5, 0] },
   { exf := some [13], sup := [6, 0] },
   { own := true, init := some 1, meths := [(3, 2), (4, 3), (15, 4), (16, 5), (1006, 6), (1009, 7)], cms := [], cons := [(17, (.int 9)), (18, (.str [97]))], sup := [7] },
   { own := true, init := some 10, meths := [(10, 11), (11, 12), (12, 13), (1006, 14)], cms := [], cons := [], sup := [8] }],
  [(.str [97, 98, 99, 100, 101, 102, 103, 104, 105]), (.str [48, 49, 50]), (.int 6)]⟩
theorem f0 : P.fns[0]? = some ⟨2, 4, b0⟩ := rfl
theorem f1 : P.fns[1]? = some ⟨3, 3, b1⟩ := rfl
theorem f2 : P.fns[2]? = some ⟨2, 3, b2⟩ := rfl
theorem f3 : P.fns[3]? = some ⟨2, 3, b3⟩ := rfl
theorem f4 : P.fns[4]? = some ⟨2, 5, b4⟩ := rfl
theorem f5 : P.fns[5]? = some ⟨2, 4, b5⟩ := rfl
theorem f6 : P.fns[6]? = some ⟨2, 2, b6⟩ := rfl
theorem f7 : P.fns[7]? = some ⟨1, 1, b7⟩ := rfl
theorem f8 : P.fns[8]? = some ⟨1, 2, b8⟩ := rfl
theorem f9 : P.fns[9]? = some ⟨2, 2, b9⟩ := rfl
theorem f10 : P.fns[10]? = some ⟨6, 6, b10⟩ := rfl
theorem f11 : P.fns[11]? = some ⟨2, 3, b11⟩ := rfl
theorem f12 : P.fns[12]? = some ⟨3, 4, b12⟩ := rfl
theorem f13 : P.fns[13]? = some ⟨2, 2, b13⟩ := rfl
theorem f14 : P.fns[14]? = some ⟨2, 4, b14⟩ := rfl
theorem f15 : P.fns[15]? = some ⟨2, 4, b15⟩ := rfl
theorem f16 : P.fns[16]? = some ⟨2, 6, b16⟩ := rfl
theorem f17 : P.fns[17]? = some ⟨2, 5, b17⟩ := rfl
theorem f18 : P.fns[18]? = some ⟨1, 1, b18⟩ := rfl
theorem f19 : P.fns[19]? = some ⟨2, 8, b19⟩ := rfl
theorem f20 : P.fns[20]? = some ⟨3, 4, b20⟩ := rfl
theorem f21 : P.fns[21]? = some ⟨1, 2, b21⟩ := rfl
theorem f22 : P.fns[22]? = some ⟨2, 7, b22⟩ := rfl
theorem f23 : P.fns[23]? = some ⟨3, 4, b23⟩ := rfl
theorem f24 : P.fns[24]? = some ⟨2, 2, b24⟩ := rfl
theorem f25 : P.fns[25]? = some ⟨2, 7, b25⟩ := rfl
theorem f26 : P.fns[26]? = some ⟨2, 10, b26⟩ := rfl
theorem f27 : P.fns[27]? = some ⟨3, 6, b27⟩ := rfl
theorem f28 : P.fns[28]? = some ⟨3, 8, b28⟩ := rfl
theorem f29 : P.fns[29]? = some ⟨2, 7, b29⟩ := rfl
theorem f30 : P.fns[30]? = some ⟨2, 5, b30⟩ := rfl
theorem f31 : P.fns[31]? = some ⟨3, 8, b31⟩ := rfl
theorem f32 : P.fns[32]? = some ⟨3, 7, b32⟩ := rfl
theorem f33 : P.fns[33]? = some ⟨4, 7, b33⟩ := rfl
theorem f34 : P.fns[34]? = some ⟨4, 6, b34⟩ := rfl
theorem f35 : P.fns[35]? = some ⟨2, 3, b35⟩ := rfl
theorem f36 : P.fns[36]? = some ⟨4, 10, b36⟩ := rfl
theorem f37 : P.fns[37]? = some ⟨2, 3, b37⟩ := rfl
theorem f38 : P.fns[38]? = some ⟨2, 5, b38⟩ := rfl
theorem f39 : P.fns[39]? = some ⟨1, 10, b39⟩ := rfl
end K40
set_option Elab.async false
set_option linter.all false
set_option maxRecDepth 100000
set_option maxHeartbeats 0
namespace K40
open Gal PySem L2
def pg : Program := PySem.Challenge.pw_galloon_k40_endless_strips_and_moves
def top (i : Nat) : Stmt := PySem.Challenge.pw_galloon_k40_endless_strips_and_moves.main.body.getD i (.Pass ⟨0, 0, 0, 0⟩)
def fds : List Fd := ([⟨"power", "power", defArgs (top 12), defBody (top 12), defScope (top 12), ["base", "exponent", "product", "turn"], ["base", "exponent"], [], []⟩,
  ⟨"__init__", "Scheme.__init__", defArgs (inClass (top 13) 2), defBody (inClass (top 13) 2), defScope (inClass (top 13) 2), ["self", "rows", "colours"], ["self", "rows", "colours"], [], []⟩,
  ⟨"are_colours", "Scheme.are_colours", defArgs (inClass (top 13) 3), defBody (inClass (top 13) 3), defScope (inClass (top 13) 3), ["self", "text", "sign"], ["self", "text"], [], []⟩,
  ⟨"is_strip", "Scheme.is_strip", defArgs (inClass (top 13) 4), defBody (inClass (top 13) 4), defScope (inClass (top 13) 4), ["self", "text", "sign"], ["self", "text"], [], []⟩,
  ⟨"spots", "Scheme.spots", defArgs (inClass (top 13) 6), defBody (inClass (top 13) 6), defScope (inClass (top 13) 6), ["self", "column", "number", "text", "row"], ["self", "column"], [], []⟩,
  ⟨"column", "Scheme.column", defArgs (inClass (top 13) 7), defBody (inClass (top 13) 7), defScope (inClass (top 13) 7), ["self", "spots", "number", "colour"], ["self", "spots"], [], []⟩,
  ⟨"__eq__", "Scheme.__eq__", defArgs (inClass (top 13) 13), defBody (inClass (top 13) 13), defScope (inClass (top 13) 13), ["self", "other"], ["self", "other"], [], []⟩,
  ⟨"__len__", "Scheme.__len__", defArgs (inClass (top 13) 14), defBody (inClass (top 13) 14), defScope (inClass (top 13) 14), ["self"], ["self"], [], []⟩,
  ⟨"same_scheme", "same_scheme", defArgs (top 14), defBody (top 14), defScope (top 14), ["schemes", "scheme"], ["schemes"], [], []⟩,
  ⟨"may_repeat", "may_repeat", defArgs (top 17), defBody (top 17), defScope (top 17), ["scheme", "text"], ["scheme", "text"], [], []⟩] : List Fd) ++ ([⟨"__init__", "Endless.__init__", defArgs (inClass (top 18) 0), defBody (inClass (top 18) 0), defScope (inClass (top 18) 0), ["self", "scheme", "left", "middle", "right", "start"], ["self", "scheme", "left", "middle", "right", "start"], [], [("start", (.int 0))]⟩,
  ⟨"column_at", "Endless.column_at", defArgs (inClass (top 18) 1), defBody (inClass (top 18) 1), defScope (inClass (top 18) 1), ["self", "index", "place"], ["self", "index"], [], []⟩,
  ⟨"window", "Endless.window", defArgs (inClass (top 18) 2), defBody (inClass (top 18) 2), defScope (inClass (top 18) 2), ["self", "begin", "stop", "index"], ["self", "begin", "stop"], [], []⟩,
  ⟨"moved", "Endless.moved", defArgs (inClass (top 18) 3), defBody (inClass (top 18) 3), defScope (inClass (top 18) 3), ["self", "by"], ["self", "by"], [], []⟩,
  ⟨"__eq__", "Endless.__eq__", defArgs (inClass (top 18) 4), defBody (inClass (top 18) 4), defScope (inClass (top 18) 4), ["self", "other", "begin", "stop"], ["self", "other"], [], []⟩,
  ⟨"middle_range", "middle_range", defArgs (top 19), defBody (top 19), defScope (top 19), ["first", "second", "begin", "stop"], ["first", "second"], [], []⟩,
  ⟨"same_ends", "same_ends", defArgs (top 20), defBody (top 20), defScope (top 20), ["first", "second", "before", "behind", "begin", "stop"], ["first", "second"], [], []⟩,
  ⟨"endless_apart", "endless_apart", defArgs (top 21), defBody (top 21), defScope (top 21), ["first", "second", "begin", "stop", "index"], ["first", "second"], [], []⟩,
  ⟨"_law_source", "_law_source", defArgs (top 23), defBody (top 23), defScope (top 23), ["_law_script"], ["_law_script"], [], []⟩,
  ⟨"_law_draw", "_law_draw", defArgs (top 24), defBody (top 24), defScope (top 24), ["_law_source_here", "_law_size", "_law_cells", "_law_first", "_law_second", "_law_third", "_law_cell", "_law_value"], ["_law_source_here", "_law_size"], [], []⟩] : List Fd) ++ ([⟨"_law_strip", "_law_strip", defArgs (top 25), defBody (top 25), defScope (top 25), ["_law_source_here", "_law_columns", "_law_size", "_law_k"], ["_law_source_here", "_law_columns", "_law_size"], [], []⟩,
  ⟨"_law_shape", "_law_shape", defArgs (top 26), defBody (top 26), defScope (top 26), ["_law_source_here", "_law_pick"], ["_law_source_here"], [], []⟩,
  ⟨"_law_column", "_law_column", defArgs (top 27), defBody (top 27), defScope (top 27), ["_law_parts_here", "_law_index", "_law_place", "_law_left", "_law_middle", "_law_right", "_law_begin"], ["_law_parts_here", "_law_index"], [], []⟩,
  ⟨"_law_text", "_law_text", defArgs (top 28), defBody (top 28), defScope (top 28), ["_law_parts_here", "_law_begin", "_law_stop", "_law_index"], ["_law_parts_here", "_law_begin", "_law_stop"], [], []⟩,
  ⟨"_law_made", "_law_made", defArgs (top 29), defBody (top 29), defScope (top 29), ["_law_scheme", "_law_parts_here"], ["_law_scheme", "_law_parts_here"], [], []⟩,
  ⟨"_law_parts", "_law_parts", defArgs (top 30), defBody (top 30), defScope (top 30), ["_law_source_here", "_law_columns", "_law_size", "_law_begin", "_law_left", "_law_middle", "_law_right"], ["_law_source_here", "_law_columns"], [], []⟩,
  ⟨"_law_rewritten", "_law_rewritten", defArgs (top 31), defBody (top 31), defScope (top 31), ["_law_source_here", "_law_parts_here", "_law_low", "_law_high", "_law_before", "_law_behind", "_law_left", "_law_middle", "_law_right", "_law_begin"], ["_law_source_here", "_law_parts_here"], [], []⟩,
  ⟨"_law_changed", "_law_changed", defArgs (top 32), defBody (top 32), defScope (top 32), ["_law_source_here", "_law_columns", "_law_text_here", "_law_at", "_law_step", "_law_column_here"], ["_law_source_here", "_law_columns", "_law_text_here"], [], []⟩,
  ⟨"_law_other", "_law_other", defArgs (top 33), defBody (top 33), defScope (top 33), ["_law_source_here", "_law_columns", "_law_parts_here", "_law_pick", "_law_left", "_law_middle", "_law_right", "_law_begin"], ["_law_source_here", "_law_columns", "_law_parts_here"], [], []⟩,
  ⟨"_law_gaps", "_law_gaps", defArgs (top 34), defBody (top 34), defScope (top 34), ["_law_one", "_law_other_here", "_law_low", "_law_high", "_law_front", "_law_back", "_law_index"], ["_law_one", "_law_other_here"], [], []⟩] : List Fd) ++ ([⟨"_law_columns_hold", "_law_columns_hold", defArgs (top 35), defBody (top 35), defScope (top 35), ["_law_made_here", "_law_parts_here", "_law_places", "_law_index", "_law_told"], ["_law_made_here", "_law_parts_here"], [], []⟩,
  ⟨"_law_windows_hold", "_law_windows_hold", defArgs (top 36), defBody (top 36), defScope (top 36), ["_law_source_here", "_law_made_here", "_law_parts_here", "_law_pairs", "_law_k", "_law_low", "_law_high", "_law_told"], ["_law_source_here", "_law_made_here", "_law_parts_here"], [], []⟩,
  ⟨"_law_gaps_hold", "_law_gaps_hold", defArgs (top 37), defBody (top 37), defScope (top 37), ["_law_one", "_law_other_here", "_law_gaps_here", "_law_same", "_law_turn", "_law_told", "_law_k"], ["_law_one", "_law_other_here", "_law_gaps_here"], [], []⟩,
  ⟨"_law_moves_hold", "_law_moves_hold", defArgs (top 38), defBody (top 38), defScope (top 38), ["_law_source_here", "_law_scheme", "_law_made_here", "_law_parts_here", "_law_by", "_law_gone", "_law_there"], ["_law_source_here", "_law_scheme", "_law_made_here", "_law_parts_here"], [], []⟩,
  ⟨"_law_spoilt", "_law_spoilt", defArgs (top 39), defBody (top 39), defScope (top 39), ["_law_source_here", "_law_columns", "_law_text_here", "_law_ends", "_law_sign", "_law_at"], ["_law_source_here", "_law_columns", "_law_text_here", "_law_ends"], [], []⟩,
  ⟨"_law_refusal", "_law_refusal", defArgs (top 40), defBody (top 40), defScope (top 40), ["_law_scheme", "_law_parts_here", "e"], ["_law_scheme", "_law_parts_here"], [], []⟩,
  ⟨"_law_refusals_hold", "_law_refusals_hold", defArgs (top 41), defBody (top 41), defScope (top 41), ["_law_source_here", "_law_scheme", "_law_columns", "_law_parts_here", "_law_marks", "_law_due", "_law_left", "_law_middle", "_law_right", "_law_begin"], ["_law_source_here", "_law_scheme", "_law_columns", "_law_parts_here"], [], []⟩,
  ⟨"_law_unlike", "_law_unlike", defArgs (top 42), defBody (top 42), defScope (top 42), ["_law_one", "_law_other_here", "e"], ["_law_one", "_law_other_here"], [], []⟩,
  ⟨"_law_kinds_hold", "_law_kinds_hold", defArgs (top 43), defBody (top 43), defScope (top 43), ["_law_scheme", "_law_columns", "_law_strange", "_law_plain", "_law_same"], ["_law_scheme", "_law_columns"], [], []⟩,
  ⟨"law", "law", defArgs (top 44), defBody (top 44), defScope (top 44), ["_law_script", "_law_source_here", "_law_scheme", "_law_parts_here", "_law_made_here", "_law_plain", "_law_other_here", "_law_rows", "_law_colours", "_law_columns"], ["_law_script"], [], []⟩] : List Fd)
def xds : List Xd := ([⟨2, ⟨"__init__", "BadScheme.__init__", defArgs (inClass (top 4) 0), defBody (inClass (top 4) 0), defScope (inClass (top 4) 0), ["self", "part", "__class__"], ["self", "part"], [], []⟩, (defBody (inClass (top 4) 0)).getD 0 (.Pass ⟨0, 0, 0, 0⟩), (defBody (inClass (top 4) 0)).tail⟩,
  ⟨3, ⟨"__init__", "BadColumn.__init__", defArgs (inClass (top 5) 0), defBody (inClass (top 5) 0), defScope (inClass (top 5) 0), ["self", "text", "__class__"], ["self", "text"], [], []⟩, (defBody (inClass (top 5) 0)).getD 0 (.Pass ⟨0, 0, 0, 0⟩), (defBody (inClass (top 5) 0)).tail⟩,
  ⟨4, ⟨"__init__", "BadSpots.__init__", defArgs (inClass (top 6) 0), defBody (inClass (top 6) 0), defScope (inClass (top 6) 0), ["self", "text", "__class__"], ["self", "text"], [], []⟩, (defBody (inClass (top 6) 0)).getD 0 (.Pass ⟨0, 0, 0, 0⟩), (defBody (inClass (top 6) 0)).tail⟩,
  ⟨5, ⟨"__init__", "BadStrip.__init__", defArgs (inClass (top 7) 0), defBody (inClass (top 7) 0), defScope (inClass (top 7) 0), ["self", "text", "__class__"], ["self", "text"], [], []⟩, (defBody (inClass (top 7) 0)).getD 0 (.Pass ⟨0, 0, 0, 0⟩), (defBody (inClass (top 7) 0)).tail⟩,
  ⟨6, ⟨"__init__", "BadEndless.__init__", defArgs (inClass (top 8) 0), defBody (inClass (top 8) 0), defScope (inClass (top 8) 0), ["self", "part", "__class__"], ["self", "part"], [], []⟩, (defBody (inClass (top 8) 0)).getD 0 (.Pass ⟨0, 0, 0, 0⟩), (defBody (inClass (top 8) 0)).tail⟩] : List Xd)
def T : Tb where
  P := P
  cn := (["GalloonError", "UnlikeSchemes", "BadScheme", "BadColumn", "BadSpots", "BadStrip", "BadEndless", "Scheme", "Endless"] : List PySem.Str)
  fp := ([⟨"power", none, false⟩,
  ⟨"Scheme", some "__init__", false⟩,
  ⟨"Scheme", some "are_colours", false⟩,
  ⟨"Scheme", some "is_strip", false⟩,
  ⟨"Scheme", some "spots", false⟩,
  ⟨"Scheme", some "column", false⟩,
  ⟨"Scheme", some "__eq__", false⟩,
  ⟨"Scheme", some "__len__", false⟩,
  ⟨"same_scheme", none, false⟩,
  ⟨"may_repeat", none, false⟩,
  ⟨"Endless", some "__init__", false⟩,
  ⟨"Endless", some "column_at", false⟩,
  ⟨"Endless", some "window", false⟩,
  ⟨"Endless", some "moved", false⟩,
  ⟨"Endless", some "__eq__", false⟩,
  ⟨"middle_range", none, false⟩,
  ⟨"same_ends", none, false⟩,
  ⟨"endless_apart", none, false⟩,
  ⟨"_law_source", none, false⟩,
  ⟨"_law_draw", none, false⟩] : List Fp) ++ ([⟨"_law_strip", none, false⟩,
  ⟨"_law_shape", none, false⟩,
  ⟨"_law_column", none, false⟩,
  ⟨"_law_text", none, false⟩,
  ⟨"_law_made", none, false⟩,
  ⟨"_law_parts", none, false⟩,
  ⟨"_law_rewritten", none, false⟩,
  ⟨"_law_changed", none, false⟩,
  ⟨"_law_other", none, false⟩,
  ⟨"_law_gaps", none, false⟩,
  ⟨"_law_columns_hold", none, false⟩,
  ⟨"_law_windows_hold", none, false⟩,
  ⟨"_law_gaps_hold", none, false⟩,
  ⟨"_law_moves_hold", none, false⟩,
  ⟨"_law_spoilt", none, false⟩,
  ⟨"_law_refusal", none, false⟩,
  ⟨"_law_refusals_hold", none, false⟩,
  ⟨"_law_unlike", none, false⟩,
  ⟨"_law_kinds_hold", none, false⟩,
  ⟨"law", none, false⟩] : List Fp)
  an := (["columns", "colours", "rows", "are_colours", "is_strip", "start", "right", "middle", "left", "scheme", "column_at", "window", "moved", "part", "text", "spots", "column", "MOST", "BLANK"] : List PySem.Str)
  gl := ([("power", .fn 0),
  ("same_scheme", .fn 8),
  ("may_repeat", .fn 9),
  ("middle_range", .fn 15),
  ("same_ends", .fn 16),
  ("endless_apart", .fn 17),
  ("_law_source", .fn 18),
  ("_law_draw", .fn 19),
  ("_law_strip", .fn 20),
  ("_law_shape", .fn 21),
  ("_law_column", .fn 22),
  ("_law_text", .fn 23),
  ("_law_made", .fn 24),
  ("_law_parts", .fn 25),
  ("_law_rewritten", .fn 26),
  ("_law_changed", .fn 27),
  ("_law_other", .fn 28),
  ("_law_gaps", .fn 29),
  ("_law_columns_hold", .fn 30),
  ("_law_windows_hold", .fn 31)] : List (PySem.Str × Gk)) ++ ([("_law_gaps_hold", .fn 32),
  ("_law_moves_hold", .fn 33),
  ("_law_spoilt", .fn 34),
  ("_law_refusal", .fn 35),
  ("_law_refusals_hold", .fn 36),
  ("_law_unlike", .fn 37),
  ("_law_kinds_hold", .fn 38),
  ("law", .fn 39),
  ("GalloonError", .cls 0),
  ("UnlikeSchemes", .cls 1),
  ("BadScheme", .cls 2),
  ("BadColumn", .cls 3),
  ("BadSpots", .cls 4),
  ("BadStrip", .cls 5),
  ("BadEndless", .cls 6),
  ("Scheme", .cls 7),
  ("Endless", .cls 8),
  ("LETTERS", .val 0),
  ("COLOURS", .val 1),
  ("MOST_REPEATED", .val 2)] : List (PySem.Str × Gk))
  dd := ([[],
  [],
  [],
  [],
  [],
  [],
  [],
  [],
  [],
  [],
  [(.int 0)],
  [],
  [],
  [],
  [],
  [],
  [],
  [],
  [],
  []] : List (List D)) ++ ([[],
  [],
  [],
  [],
  [],
  [],
  [],
  [],
  [],
  [],
  [],
  [],
  [],
  [],
  [],
  [],
  [],
  [],
  [],
  []] : List (List D))
  kw := ([[],
  [],
  [],
  [],
  [],
  [],
  [],
  [],
  [],
  [],
  [(5, ["start"])],
  [],
  [],
  [],
  [],
  [],
  [],
  [],
  [],
  []] : List (List (Nat × List PySem.Str))) ++ ([[],
  [],
  [],
  [],
  [],
  [],
  [],
  [],
  [],
  [],
  [],
  [],
  [],
  [],
  [],
  [],
  [],
  [],
  [],
  []] : List (List (Nat × List PySem.Str)))
  ko := [10]
end K40
set_option Elab.async false
set_option linter.all false
set_option maxRecDepth 100000
set_option maxHeartbeats 0
namespace K40
open Gal PySem L2
abbrev R : PySem.W.OpenRow := PySem.W.OpenLaw.row PySem.Challenge.rw_galloon_k40_endless_strips_and_moves
abbrev hk : PySem.W.Hook := hookT 8 T fds xds "/claim/cut.py"
def ob (s : PySem.W.SharedT) : ObT := obG 8 T fds xds "/claim/cut.py" (HandSHeadRun.getT s)
theorem ob_eq (s : PySem.W.SharedT) : ob s = hk.obs s.abs := obG_eq (HandSHeadRun.getT_eq s)
def loose : List PySem.Str := (["_wall", "__name__", "GalloonError", "UnlikeSchemes", "BadScheme", "BadColumn", "BadSpots", "BadStrip", "BadEndless", "LETTERS", "COLOURS", "power", "Scheme", "same_scheme", "MOST_REPEATED", "may_repeat", "Endless", "middle_range", "same_ends", "endless_apart"] : List PySem.Str) ++ (["_law_source", "_law_draw", "_law_strip", "_law_shape", "_law_column", "_law_text", "_law_made", "_law_parts", "_law_rewritten", "_law_changed", "_law_other", "_law_gaps", "_law_columns_hold", "_law_windows_hold", "_law_gaps_hold", "_law_moves_hold", "_law_spoilt", "_law_refusal", "_law_refusals_hold", "_law_unlike"] : List PySem.Str) ++ (["_law_kinds_hold"] : List PySem.Str)
theorem run (w : World) : HandSHeadRun.RunEq R (PySem.W.view R.prog [44]) hk ob 20000 loose w := by
  intro os
  kernel_rfl
end K40
set_option Elab.async false
set_option linter.all false
set_option maxRecDepth 100000
/-! G2: how data lies in the heap; the contexts. -/
namespace Gal
open PySem L2
/-- what the walk leans on: the pure program, the text's world, where classes and defs stand, the names of attributes -/
structure Stc where
  P : Prog
  pg : Program
  w : World
  K : PySem.W.Frag
  mg : PySem.Str → Option Value
  base : Heap
  ca : Nat → Addr
  an : Nat → PySem.Str
  nA : Nat
  fa : Nat → Addr
  gl : PySem.Str → Option Gk
  dd : Nat → List D
  kw : Nat → List (Nat × List PySem.Str)
  ko : Nat → Bool
  inj : ∀ i j, i < nA → j < nA → an i = an j → i = j
/-- how many of its defaults a call may write; none, where they are keyword-only -/
def Stc.jm (S : Stc) (f : Nat) : Nat := if S.ko f then 0 else (S.dd f).length
theorem Stc.jm_le (S : Stc) (f : Nat) : S.jm f ≤ (S.dd f).length := by unfold Stc.jm; split <;> omega
def StrOk (s : List Nat) : Prop := (∀ c ∈ s, c < 1114112) ∧ s.length ≤ LIM
def KeyR (k : Key) (d : D) : Prop := match k, d with
  | .inl i, .int j => i = j
  | .inr x, .str s => x = mkS s ∧ StrOk s
  | _, _ => False
mutual
inductive Rep (S : Stc) (B : Hp) : V → D → Prop
  | non : Rep S B .non .non
  | bl (b : Bool) : Rep S B (.bl b) (.bl b)
  | int (i : Int) : Rep S B (.int i) (.int i)
  | str (s : List Nat) : StrOk s → Rep S B (.str (mkS s)) (.str s)
  | lst {p : Addr} {vs : List V} {ds : List D} : B p = some (.lst vs) → Reps S B vs ds → Rep S B (.ref p) (.lst ds)
  | tup {p : Addr} {vs : List V} {ds : List D} : B p = some (.tup vs) → Reps S B vs ds → Rep S B (.ref p) (.tup ds)
  | dic {p : Addr} {kvs : List (Key × V)} {ds : List (D × D)} : B p = some (.dK kvs) → RepK S B kvs ds → Rep S B (.ref p) (.dic ds)
  | obj {p dx : Addr} {c : Nat} {gs : List (PySem.Str × V)} {fs : List (Nat × D)} : B p = some (.ins (S.ca c) dx gs) → RepF S B gs fs → Rep S B (.ref p) (.obj c fs)
  | cls (c : Nat) : Rep S B (.ref (S.ca c)) (.cls c)
  | scr {p : Addr} {ns : List Int} : SqL S.K B p (ns.map V.int) → Rep S B (.ref p) (.scr ns)
inductive Reps (S : Stc) (B : Hp) : List V → List D → Prop
  | nil : Reps S B [] []
  | cons {v : V} {d : D} {vs : List V} {ds : List D} : Rep S B v d → Reps S B vs ds → Reps S B (v :: vs) (d :: ds)
inductive RepK (S : Stc) (B : Hp) : List (Key × V) → List (D × D) → Prop
  | nil : RepK S B [] []
  | cons {k : Key} {v : V} {a d : D} {kvs : List (Key × V)} {ds : List (D × D)} : KeyR k a → Rep S B v d → RepK S B kvs ds → RepK S B ((k, v) :: kvs) ((a, d) :: ds)
inductive RepF (S : Stc) (B : Hp) : List (PySem.Str × V) → List (Nat × D) → Prop
  | nil : RepF S B [] []
  | cons {n : Nat} {v : V} {d : D} {gs : List (PySem.Str × V)} {fs : List (Nat × D)} : n < S.nA → Rep S B v d → RepF S B gs fs → RepF S B ((S.an n, v) :: gs) ((n, d) :: fs)
end
def Ex (H H' : Hp) : Prop := ∀ a o, H a = some o → H' a = some o
theorem Ex.refl (H : Hp) : Ex H H := fun _ _ h => h
theorem Ex.trans {H H1 H2 : Hp} (a : Ex H H1) (b : Ex H1 H2) : Ex H H2 := fun x o h => b x o (a x o h)
theorem Ex.new {H : Hp} {p : Addr} {o : HO} (h : H p = none) : Ex H (upd H p o) := fun a u e => by
  rw [upd_ne (ne_of_none e h)]
  exact e
theorem ex_rd {H H' : Hp} {a : Addr} {u : HO} (e : Ex H H') (h : Rd H a u) : Rd H' a u := by
  rcases h with h | ⟨o, h⟩
  · exact Or.inl (e a _ h)
  · exact Or.inr ⟨o, e a _ h⟩
theorem ex_l {K : PySem.W.Frag} {H H' : Hp} {a : Addr} {xs : List V} (e : Ex H H') (h : SqL K H a xs) : SqL K H' a xs := by
  rcases h with h | h
  · exact Or.inl (ex_rd e h)
  · exact Or.inr h
section
variable {S : Stc} {B B' H H' : Hp}
mutual
theorem Rep.mono (e : Ex B B') : ∀ {v : V} {d : D}, Rep S B v d → Rep S B' v d
  | _, _, .non => .non
  | _, _, .bl b => .bl b
  | _, _, .int i => .int i
  | _, _, .str s h => .str s h
  | _, _, .lst h r => .lst (e _ _ h) (Reps.mono e r)
  | _, _, .tup h r => .tup (e _ _ h) (Reps.mono e r)
  | _, _, .dic h r => .dic (e _ _ h) (RepK.mono e r)
  | _, _, .obj h r => .obj (e _ _ h) (RepF.mono e r)
  | _, _, .cls c => .cls c
  | _, _, .scr h => .scr (ex_l e h)
theorem Reps.mono (e : Ex B B') : ∀ {vs : List V} {ds : List D}, Reps S B vs ds → Reps S B' vs ds
  | _, _, .nil => .nil
  | _, _, .cons h r => .cons (Rep.mono e h) (Reps.mono e r)
theorem RepK.mono (e : Ex B B') : ∀ {vs : List (Key × V)} {ds : List (D × D)}, RepK S B vs ds → RepK S B' vs ds
  | _, _, .nil => .nil
  | _, _, .cons k h r => .cons k (Rep.mono e h) (RepK.mono e r)
theorem RepF.mono (e : Ex B B') : ∀ {vs : List (PySem.Str × V)} {ds : List (Nat × D)}, RepF S B vs ds → RepF S B' vs ds
  | _, _, .nil => .nil
  | _, _, .cons k h r => .cons k (Rep.mono e h) (RepF.mono e r)
end
/-- an object of ours alone, at p -/
inductive RepO (S : Stc) (B H : Hp) (p : Addr) : D → Prop
  | lst {vs : List V} {ds : List D} : H p = some (.lst vs) → Reps S B vs ds → RepO S B H p (.lst ds)
  | dic {kvs : List (Key × V)} {ds : List (D × D)} : H p = some (.dK kvs) → RepK S B kvs ds → RepO S B H p (.dic ds)
  | obj {dx : Addr} {c : Nat} {gs : List (PySem.Str × V)} {fs : List (Nat × D)} : H p = some (.ins (S.ca c) dx gs) → RepF S B gs fs → RepO S B H p (.obj c fs)
theorem RepO.some {p : Addr} {d : D} (h : RepO S B H p d) : ∃ o, H p = some o ∧ Mut (some o) := by
  cases h with
  | lst h _ => exact ⟨_, h, trivial⟩
  | dic h _ => exact ⟨_, h, trivial⟩
  | obj h _ => exact ⟨_, h, trivial⟩
theorem RepO.mono {p : Addr} {d : D} (e : Ex B B') (k : H' p = H p) (h : RepO S B H p d) : RepO S B' H' p d := by
  cases h with
  | lst h r => exact .lst (k.trans h) (r.mono e)
  | dic h r => exact .dic (k.trans h) (r.mono e)
  | obj h r => exact .obj (k.trans h) (r.mono e)
/-- handed on -/
theorem RepO.rep {p : Addr} {d : D} {o : HO} (e : Ex B B') (k : B' p = H p) (h : RepO S B H p d) : Rep S B' (.ref p) d := by
  cases h with
  | lst h r => exact .lst (k.trans h) (r.mono e)
  | dic h r => exact .dic (k.trans h) (r.mono e)
  | obj h r => exact .obj (k.trans h) (r.mono e)
/-- data that may be read -/
def DR (S : Stc) (B H : Hp) (v : V) (d : D) : Prop := Rep S B v d ∨ ∃ p, v = .ref p ∧ RepO S B H p d
theorem Reps.length : ∀ {vs : List V} {ds : List D}, Reps S B vs ds → vs.length = ds.length
  | _, _, .nil => rfl
  | _, _, .cons _ r => congrArg Nat.succ (Reps.length r)
theorem Reps.append : ∀ {vs ws : List V} {ds es : List D}, Reps S B vs ds → Reps S B ws es → Reps S B (vs ++ ws) (ds ++ es)
  | _, _, _, _, .nil, r => r
  | _, _, _, _, .cons h t, r => .cons h (Reps.append t r)
theorem Reps.get : ∀ {vs : List V} {ds : List D} {i : Nat} {d : D}, Reps S B vs ds → ds[i]? = some d → ∃ v, vs[i]? = some v ∧ Rep S B v d
  | _, _, _, _, .nil, e => by simp at e
  | _, _, 0, _, .cons h _, e => by simp at e; subst e; exact ⟨_, rfl, h⟩
  | _, _, i + 1, d, .cons _ t, e => by
    obtain ⟨v, h1, h2⟩ := Reps.get (i := i) (d := d) t (by simpa using e)
    exact ⟨v, by simpa using h1, h2⟩
theorem Reps.getV : ∀ {vs : List V} {ds : List D} {i : Nat} {v : V}, Reps S B vs ds → vs[i]? = some v → ∃ d, ds[i]? = some d ∧ Rep S B v d
  | _, _, _, _, .nil, e => by simp at e
  | _, _, 0, _, .cons h _, e => by simp at e; subst e; exact ⟨_, rfl, h⟩
  | _, _, i + 1, d, .cons _ t, e => by
    obtain ⟨v, h1, h2⟩ := Reps.getV (i := i) (v := d) t (by simpa using e)
    exact ⟨v, by simpa using h1, h2⟩
theorem Reps.set {v : V} {d : D} (h : Rep S B v d) : ∀ {vs : List V} {ds : List D} (i : Nat), Reps S B vs ds → Reps S B (vs.set i v) (ds.set i d)
  | _, _, _, .nil => .nil
  | _, _, 0, .cons _ t => .cons h t
  | _, _, i + 1, .cons q t => .cons q (Reps.set h i t)
theorem Reps.take : ∀ {vs : List V} {ds : List D} (n : Nat), Reps S B vs ds → Reps S B (vs.take n) (ds.take n)
  | _, _, 0, _ => .nil
  | _, _, _ + 1, .nil => .nil
  | _, _, n + 1, .cons h t => .cons h (Reps.take n t)
theorem Reps.drop : ∀ {vs : List V} {ds : List D} (n : Nat), Reps S B vs ds → Reps S B (vs.drop n) (ds.drop n)
  | _, _, 0, r => r
  | _, _, _ + 1, .nil => .nil
  | _, _, n + 1, .cons _ t => Reps.drop n t
end
/-! ### the state -/
/-- an exception: its class and fields, where its dict lies -/
def ExR (S : Stc) (B H : Hp) (cls : Value) (d : Option Addr) (c : Nat) (fs : List (Nat × D)) : Prop :=
  cls = .ref (S.ca c) ∧ ((fs = [] ∧ d = none) ∨ ∃ dd gs, d = some dd ∧ B dd = some (.xd gs) ∧ H dd = some (.xd gs) ∧ RepF S B gs fs)
theorem ExR.mono {S : Stc} {B B' H H' : Hp} {cls : Value} {d : Option Addr} {c : Nat} {fs : List (Nat × D)} (e : Ex B B') (b : Ex B' H') (h : ExR S B H cls d c fs) : ExR S B' H' cls d c fs := by
  obtain ⟨h1, h2⟩ := h
  refine ⟨h1, ?_⟩
  rcases h2 with h2 | ⟨dd, gs, e1, e2, e3, r⟩
  · exact .inl h2
  · exact .inr ⟨dd, gs, e1, e _ _ e2, b _ _ (e _ _ e2), r.mono e⟩
/-- a context's kind. xi: the exception that an except suite holds -/
structure Ct where
  S : Stc
  N : List PySem.Str
  sc : Scope
  k : Nat
  hot : Bool
  W : WX
  xi : Option (Addr × Value × Option Addr)
  top : Bool
  np : Nat
def SlR (Γ : Ct) (B H : Hp) (x : Option V) : Sl → Prop
  | .un => True
  | .va d => ∃ v, x = some v ∧ Rep Γ.S B v d
  | .fz d => ∃ p, x = some (.ref p) ∧ Rep Γ.S B (.ref p) d ∧ ∃ o, B p = some o
  | .ow d => ∃ p, x = some (.ref p) ∧ B p = none ∧ RepO Γ.S B H p d
  | .lk d => ∃ p, x = some (.ref p) ∧ B p = none ∧ RepO Γ.S B H p d
  | .ex c fs => ∃ a cls d, Γ.xi = some (a, cls, d) ∧ x = some (.ref a) ∧ ExR Γ.S B H cls d c fs
/-- slot i holds an object of ours, at p -/
def OwnAt (σ : L2.St) (e : Env) (i : Nat) (p : Addr) : Prop := (∃ d, e[i]? = some (.ow d) ∨ e[i]? = some (.lk d)) ∧ σ[i]? = some (some (.ref p))
def Own (σ : L2.St) (e : Env) (p : Addr) : Prop := ∃ i, OwnAt σ e i p
structure Pst (Γ : Ct) (σ : L2.St) (B H : Hp) (e : Env) : Prop where
  len : e.length = σ.length
  ext : Ex B H
  sl : ∀ (i : Nat) s, e[i]? = some s → SlR Γ B H (σ[i]?.join) s
  dj : ∀ (i j : Nat) p, OwnAt σ e i p → OwnAt σ e j p → i = j
/-- a step: T, what was ours ahead of it -/
structure Stp (T : Addr → Prop) (B H B' H' : Hp) : Prop where
  b : Ex B B'
  k : ∀ a o, ¬ T a → H a = some o → H' a = some o
  n : ∀ a o, B' a = some o → B a = some o ∨ H a = none ∨ T a
  a : ∀ p o, H p = some o → ∃ u, H' p = some u
theorem Stp.refl (T : Addr → Prop) (B H : Hp) : Stp T B H B H := ⟨Ex.refl B, fun _ _ _ h => h, fun _ _ h => .inl h, fun _ o h => ⟨o, h⟩⟩
theorem Stp.fresh {T : Addr → Prop} {B H B' H' : Hp} (s : Stp T B H B' H') {p : Addr} (h : H' p = none) : H p = none := by
  cases q : H p with
  | none => rfl
  | some o => obtain ⟨u, hu⟩ := s.a p o q; rw [h] at hu; cases hu
theorem Stp.trans {T T1 : Addr → Prop} {B H B1 H1 B2 H2 : Hp} (a : Stp T B H B1 H1) (b : Stp T1 B1 H1 B2 H2) (s : ∀ p, T1 p → T p ∨ H p = none) : Stp T B H B2 H2 := by
  refine ⟨a.b.trans b.b, fun p o hT h => b.k p o (fun h1 => ?_) (a.k p o hT h), fun p o h => ?_, fun p o h => let ⟨u, hu⟩ := a.a p o h; b.a p u hu⟩
  · rcases s p h1 with q | q
    · exact hT q
    · rw [h] at q; cases q
  · rcases b.n p o h with q | q | q
    · exact a.n p o q
    · cases e : H p with
      | none => exact .inr (.inl rfl)
      | some u =>
        by_cases hT : T p
        · exact .inr (.inr hT)
        · rw [a.k p u hT e] at q; cases q
    · rcases s p q with q | q
      · exact .inr (.inr q)
      · exact .inr (.inl q)
/-- a step that only makes new things -/
theorem Stp.of_new {T : Addr → Prop} {B H B' H' : Hp} (b : Ex B B') (h : Ex H H') (n : ∀ a o, B' a = some o → B a = some o ∨ H a = none) : Stp T B H B' H' :=
  ⟨b, fun a o _ q => h a o q, fun a o q => (n a o q).imp id .inl, fun p o q => ⟨o, h p o q⟩⟩
section
variable {Γ : Ct} {σ : L2.St} {B H B' H' : Hp} {e e' : Env}
theorem Pst.own_none (p : Pst Γ σ B H e) {a : Addr} (h : Own σ e a) : B a = none := by
  obtain ⟨i, ⟨d, hd⟩, hs⟩ := h
  rcases hd with hd | hd
  · obtain ⟨q, hq, hb, _⟩ := p.sl i _ hd
    rw [hs] at hq
    cases hq
    exact hb
  · obtain ⟨q, hq, hb, _⟩ := p.sl i _ hd
    rw [hs] at hq
    cases hq
    exact hb
theorem Pst.own_some (p : Pst Γ σ B H e) {a : Addr} (h : Own σ e a) : ∃ o, H a = some o := by
  obtain ⟨i, ⟨d, hd⟩, hs⟩ := h
  rcases hd with hd | hd
  · obtain ⟨q, hq, _, r⟩ := p.sl i _ hd
    rw [hs] at hq
    cases hq
    exact ⟨_, r.some.choose_spec.1⟩
  · obtain ⟨q, hq, _, r⟩ := p.sl i _ hd
    rw [hs] at hq
    cases hq
    exact ⟨_, r.some.choose_spec.1⟩
/-- new things beside -/
theorem SlR.grow (b : Ex B B') (h : Ex H H') (bh : Ex B' H') {x : Option V} {s : Sl} (n : ∀ p o, H p = some o → B p = none → B' p = none) (r : SlR Γ B H x s) : SlR Γ B' H' x s := by
  cases s with
  | un => trivial
  | va d => obtain ⟨v, hx, r⟩ := r; exact ⟨v, hx, r.mono b⟩
  | fz d => obtain ⟨p, hx, r, o, ho⟩ := r; exact ⟨p, hx, r.mono b, o, b _ _ ho⟩
  | ow d =>
    obtain ⟨p, hx, hb, r⟩ := r
    obtain ⟨o, ho, _⟩ := r.some
    exact ⟨p, hx, n p o ho hb, r.mono b ((h p o ho).trans ho.symm)⟩
  | lk d =>
    obtain ⟨p, hx, hb, r⟩ := r
    obtain ⟨o, ho, _⟩ := r.some
    exact ⟨p, hx, n p o ho hb, r.mono b ((h p o ho).trans ho.symm)⟩
  | ex c fs => obtain ⟨a, cls, d, h1, h2, r⟩ := r; exact ⟨a, cls, d, h1, h2, r.mono b bh⟩
theorem Pst.grow (p : Pst Γ σ B H e) (b : Ex B B') (h : Ex H H') (bh : Ex B' H') (n : ∀ a o, B' a = some o → B a = some o ∨ H a = none) : Pst Γ σ B' H' e := by
  refine ⟨p.len, bh, fun i s hs => (p.sl i s hs).grow b h bh fun a o ha hb => ?_, p.dj⟩
  cases q : B' a with
  | none => rfl
  | some u =>
    rcases n a u q with z | z
    · rw [hb] at z; cases z
    · rw [ha] at z; cases z
/-- an operand's value -/
def ArR (Γ : Ct) (σ : L2.St) (B H : Hp) (e : Env) : Ar → V → Prop
  | .v false d, v => Rep Γ.S B v d
  | .v true d, v => ∃ p, v = .ref p ∧ B p = none ∧ RepO Γ.S B H p d ∧ ¬ Own σ e p
  | .r i, v => σ[i]? = some (some v)
/-- a new object's address -/
def Tmp : Ar → V → Addr → Prop
  | .v true _, v, p => v = .ref p
  | _, _, _ => False
inductive ArsR (Γ : Ct) (σ : L2.St) (B H : Hp) (e : Env) : List Ar → List V → Prop
  | nil : ArsR Γ σ B H e [] []
  | cons {a : Ar} {v : V} {as : List Ar} {vs : List V} : ArR Γ σ B H e a v → ArsR Γ σ B H e as vs → (∀ p, Tmp a v p → ∀ (i : Nat) b u, as[i]? = some b → vs[i]? = some u → ¬ Tmp b u p) → ArsR Γ σ B H e (a :: as) (v :: vs)
theorem arR_step {a : Ar} {v : V} (h : ArR Γ σ B H e a v) (s : Stp (Own σ e) B H B' H') (o : ∀ p, Own σ e' p → Own σ e p ∨ H p = none) : ArR Γ σ B' H' e' a v := by
  cases a with
  | r i => exact h
  | v w d =>
    cases w with
    | false => exact Rep.mono s.b h
    | true =>
      obtain ⟨p, hv, hb, r, no⟩ := h
      obtain ⟨u, hu, _⟩ := r.some
      refine ⟨p, hv, ?_, r.mono s.b ((s.k p u no hu).trans hu.symm), fun q => ?_⟩
      · cases q : B' p with
        | none => rfl
        | some z =>
          rcases s.n p z q with y | y | y
          · rw [hb] at y; cases y
          · rw [hu] at y; cases y
          · exact absurd y no
      · rcases o p q with y | y
        · exact no y
        · rw [hu] at y; cases y
theorem arsR_step {as : List Ar} {vs : List V} (h : ArsR Γ σ B H e as vs) (s : Stp (Own σ e) B H B' H') (o : ∀ p, Own σ e' p → Own σ e p ∨ H p = none) : ArsR Γ σ B' H' e' as vs := by
  induction h with
  | nil => exact .nil
  | cons h t n ih => exact .cons (arR_step h s o) ih n
/-- an operand's data may be read -/
theorem ArR.dr (p : Pst Γ σ B H e) {a : Ar} {v : V} {d : D} (h : ArR Γ σ B H e a v) (hd : deref e a = some d) : DR Γ.S B H v d := by
  cases a with
  | v w x =>
    cases hd
    cases w with
    | false => exact .inl h
    | true => obtain ⟨q, hv, _, r, _⟩ := h; exact .inr ⟨q, hv, r⟩
  | r i =>
    have hd : (e[i]?).bind derefS = some d := hd
    have h : σ[i]? = some (some v) := h
    cases q : e[i]? with
    | none => rw [q] at hd; cases hd
    | some s =>
      rw [q] at hd
      have z := p.sl i s q
      rw [h] at z
      cases s with
      | ow x =>
        cases hd
        obtain ⟨r, hr, _, y⟩ := z
        cases hr
        exact .inr ⟨r, rfl, y⟩
      | lk x =>
        cases hd
        obtain ⟨r, hr, _, y⟩ := z
        cases hr
        exact .inr ⟨r, rfl, y⟩
      | un => cases hd
      | va _ => cases hd
      | fz _ => cases hd
      | ex _ _ => cases hd
end
inductive DRs (S : Stc) (B H : Hp) : List V → List D → Prop
  | nil : DRs S B H [] []
  | cons {v : V} {d : D} {vs : List V} {ds : List D} : DR S B H v d → DRs S B H vs ds → DRs S B H (v :: vs) (d :: ds)
theorem ArsR.drs {Γ : Ct} {σ : L2.St} {B H : Hp} {e : Env} (p : Pst Γ σ B H e) : ∀ {as : List Ar} {vs : List V} {ds : List D}, ArsR Γ σ B H e as vs → derefs e as = some ds → DRs Γ.S B H vs ds
  | _, _, _, .nil, h => by cases h; exact .nil
  | _, _, ds, .cons (a := a) (as := as) ha t _, h => by
    unfold derefs at h
    cases q1 : deref e a with
    | none => rw [q1] at h; cases h
    | some d =>
      cases q2 : derefs e as with
      | none => rw [q1, q2] at h; cases h
      | some r =>
        rw [q1, q2] at h
        cases h
        exact .cons (ha.dr p q1) (ArsR.drs p t q2)
/-! ### contexts -/
structure Cxt (Γ : Ct) (X : Cx) : Prop where
  pg : X.prog = Γ.S.pg
  w : X.w = Γ.S.w
  K : X.K = Γ.S.K
  mg : X.mg = Γ.S.mg
  base : X.base = Γ.S.base
  N : X.N = Γ.N
  sc : X.env.scope = Γ.sc
  calm : Γ.hot = false → X.calm = true ∧ Room Γ.k X.A
  units : X.A.units + 80 < cLine
  takes : Takes X Γ.W
  top : Γ.top = true → X.stack = X.env :: X.outer ∧ X.env.frame = some X.env.locals ∧ X.fn = fun _ => true
  own : Γ.top = true → PassesOwn (model X.prog X.w) X.A X.env X.xe
  nd : Γ.N.Nodup
  hotx : ∀ a cls d, Γ.xi = some (a, cls, d) → ∃ X0 oe pn, X = Cx.suite X0 a ((a, oe) :: pn) ∧ Zc cls d oe ∧ ∃ vs, oe.data = .fields vs
def W (Γ : Ct) (x : Expr) : TE := fun σ H Q => ∃ te, (∀ X, Cxt Γ X → PE X x te) ∧ te σ H Q
theorem W_pe {Γ : Ct} {X : Cx} {x : Expr} (h : Cxt Γ X) : PE X x (W Γ x) := ⟨fun pins s σ H Q I ⟨_, f, q⟩ => (f X h).run pins s σ H Q I q⟩
def WT (Γ : Ct) (x : Expr) : TT := fun σ H Q => ∃ te, (∀ X, Cxt Γ X → PT X x te) ∧ te σ H Q
theorem WT_pt {Γ : Ct} {X : Cx} {x : Expr} (h : Cxt Γ X) : PT X x (WT Γ x) := ⟨fun pins s σ H Q I ⟨_, f, q⟩ => (f X h).run pins s σ H Q I q⟩
def WW (Γ : Ct) (x : Expr) : TT := fun σ H Q => ∃ te, (∀ X, Cxt Γ X → PW X x te) ∧ te σ H Q
theorem WW_pw {Γ : Ct} {X : Cx} {x : Expr} (h : Cxt Γ X) : PW X x (WW Γ x) := ⟨fun wh pins s σ H Q I ⟨_, f, q⟩ => (f X h).run wh pins s σ H Q I q⟩
def WS (Γ : Ct) (x : Stmt) : TS := fun D σ H => ∃ t, (∀ X, Cxt Γ X → PS X x t) ∧ t D σ H
theorem WS_ps {Γ : Ct} {X : Cx} {x : Stmt} (h : Cxt Γ X) : PS X x (WS Γ x) := ⟨fun pins s σ H D I ⟨_, f, q⟩ => (f X h).run pins s σ H D I q⟩
def WSs (Γ : Ct) (x : List Stmt) : TS := fun D σ H => ∃ t, (∀ X, Cxt Γ X → PSs X x t) ∧ t D σ H
theorem WSs_ps {Γ : Ct} {X : Cx} {x : List Stmt} (h : Cxt Γ X) : PSs X x (WSs Γ x) := ⟨fun pins s σ H D I ⟨_, f, q⟩ => (f X h).run pins s σ H D I q⟩
/-- a written list of expressions, one behind the other -/
def wA (Γ : Ct) : List Expr → TA
  | [] => tNil
  | x :: r => tCons (W Γ x) (wA Γ r)
def noStar : Expr → Bool
  | .Starred _ _ => false
  | _ => true
theorem starEach_of {x : Expr} {r : List Expr} {env : PySem.Env} (h : noStar x = true) : starEach (x :: r) env = (false, eval x env) :: starEach r env := by
  cases x <;> first | rfl | cases h
theorem noStars_plain {env : PySem.Env} {pos : Pos} : ∀ {r : List Expr}, r.all noStar = true → (backTo pos (starEach r env)).any (·.1) = false
  | [], _ => rfl
  | x :: r, h => by
    have h1 : (noStar x && r.all noStar) = true := by simpa using h
    obtain ⟨a, b⟩ := Bool.and_eq_true_iff.mp h1
    rw [starEach_of a]
    show (false || (backTo pos (starEach r env)).any (·.1)) = false
    rw [noStars_plain b]
    rfl
theorem wA_pa {Γ : Ct} {X : Cx} (h : Cxt Γ X) : ∀ {r : List Expr}, r.all noStar = true → PA X r (wA Γ r)
  | [], _ => pa_nil
  | x :: r, hs => by
    have h1 : (noStar x && r.all noStar) = true := by simpa using hs
    obtain ⟨a, b⟩ := Bool.and_eq_true_iff.mp h1
    exact pa_cons (W_pe h) (wA_pa h b) (starEach_of a)
end Gal
set_option Elab.async false
set_option linter.all false
set_option maxRecDepth 100000
/-! G3: operations on data, over the layer's rules. -/
namespace Gal
open PySem L2 PyProof.Rows
/-- what an operation leaves -/
def NewR (S : Stc) (B H : Hp) (w : Bool) (d : D) (v : V) (B' H' : Hp) : Prop :=
  Ex B B' ∧ Ex H H' ∧ Ex B' H' ∧ (∀ a o, B' a = some o → B a = some o ∨ H a = none) ∧ (if w = true then ∃ p, v = .ref p ∧ H p = none ∧ B' p = none ∧ RepO S B' H' p d else Rep S B' v d)
section
variable {S : Stc} {B H : Hp}
theorem new_same {d : D} {v : V} (e : Ex B H) (r : Rep S B v d) : NewR S B H false d v B H := ⟨Ex.refl B, Ex.refl H, e, fun _ _ h => .inl h, r⟩
theorem b_none (e : Ex B H) {p : Addr} (h : H p = none) : B p = none := by
  cases q : B p with
  | none => rfl
  | some o => rw [e p o q] at h; cases h
theorem new_lst {ds : List D} {vs : List V} {p : Addr} (e : Ex B H) (h : H p = none) (r : Reps S B vs ds) : NewR S B H true (.lst ds) (.ref p) B (upd H p (.lst vs)) :=
  ⟨Ex.refl B, Ex.new h, e.trans (Ex.new h), fun _ _ h => .inl h, p, rfl, h, b_none e h, .lst upd_same r⟩
theorem new_tup {ds : List D} {vs : List V} {p : Addr} (e : Ex B H) (h : H p = none) (r : Reps S B vs ds) : NewR S B H false (.tup ds) (.ref p) (upd B p (.tup vs)) (upd H p (.tup vs)) := by
  have hb := b_none e h
  refine ⟨Ex.new hb, Ex.new h, fun a o q => ?_, fun a o q => ?_, .tup upd_same (r.mono (Ex.new hb))⟩
  · by_cases ha : a = p
    · subst ha; rw [upd_same] at q; rw [upd_same]; exact q
    · rw [upd_ne ha] at q; rw [upd_ne ha]; exact e a o q
  · by_cases ha : a = p
    · subst ha; exact .inr h
    · rw [upd_ne ha] at q; exact .inl q
/-! ### what may be read -/
theorem DR.int {x : V} {i : Int} (h : DR S B H x (.int i)) : x = .int i := by
  rcases h with h | ⟨p, _, h⟩
  · cases h; rfl
  · cases h
theorem DR.bl {x : V} {i : Bool} (h : DR S B H x (.bl i)) : x = .bl i := by
  rcases h with h | ⟨p, _, h⟩
  · cases h; rfl
  · cases h
theorem DR.non {x : V} (h : DR S B H x .non) : x = .non := by
  rcases h with h | ⟨p, _, h⟩
  · cases h; rfl
  · cases h
theorem DR.str {x : V} {s : List Nat} (h : DR S B H x (.str s)) : x = .str (mkS s) ∧ StrOk s := by
  rcases h with h | ⟨p, _, h⟩
  · cases h with
    | str _ k => exact ⟨rfl, k⟩
  · cases h
theorem DR.lst {x : V} {ds : List D} (e : Ex B H) (h : DR S B H x (.lst ds)) : ∃ p vs, x = .ref p ∧ H p = some (.lst vs) ∧ Reps S B vs ds := by
  rcases h with h | ⟨p, hx, h⟩
  · cases h with
    | lst h r => exact ⟨_, _, rfl, e _ _ h, r⟩
  · cases h with
    | lst h r => exact ⟨_, _, hx, h, r⟩
theorem DR.tup {x : V} {ds : List D} (e : Ex B H) (h : DR S B H x (.tup ds)) : ∃ p vs, x = .ref p ∧ B p = some (.tup vs) ∧ H p = some (.tup vs) ∧ Reps S B vs ds := by
  rcases h with h | ⟨p, hx, h⟩
  · cases h with
    | tup h r => exact ⟨_, _, rfl, h, e _ _ h, r⟩
  · cases h
theorem DR.dic {x : V} {ds : List (D × D)} (e : Ex B H) (h : DR S B H x (.dic ds)) : ∃ p vs, x = .ref p ∧ H p = some (.dK vs) ∧ RepK S B vs ds := by
  rcases h with h | ⟨p, hx, h⟩
  · cases h with
    | dic h r => exact ⟨_, _, rfl, e _ _ h, r⟩
  · cases h with
    | dic h r => exact ⟨_, _, hx, h, r⟩
theorem DR.obj {x : V} {c : Nat} {fs : List (Nat × D)} (e : Ex B H) (h : DR S B H x (.obj c fs)) : ∃ p dx gs, x = .ref p ∧ H p = some (.ins (S.ca c) dx gs) ∧ RepF S B gs fs := by
  rcases h with h | ⟨p, hx, h⟩
  · cases h with
    | obj h r => exact ⟨_, _, _, rfl, e _ _ h, r⟩
  · cases h with
    | obj h r => exact ⟨_, _, _, hx, h, r⟩
theorem DR.scr {x : V} {ns : List Int} (e : Ex B H) (h : DR S B H x (.scr ns)) : ∃ p, x = .ref p ∧ SqL S.K H p (ns.map V.int) := by
  rcases h with h | ⟨p, _, h⟩
  · cases h with
    | scr h => exact ⟨_, rfl, ex_l e h⟩
  · cases h
theorem DR.cls {x : V} {c : Nat} (h : DR S B H x (.cls c)) : x = .ref (S.ca c) := by
  rcases h with h | ⟨p, _, h⟩
  · cases h; rfl
  · cases h
theorem rep_b (b : Bool) : Rep S B (.bl b) (.bl b) := .bl b
end
/-! ### readings by data -/
def r2 (S : Stc) (f : D → D → OD) : R2 := fun x y H Q => ∃ B a b w d, Ex B H ∧ DR S B H x a ∧ DR S B H y b ∧ f a b = some (w, d) ∧ ∀ v B' H', NewR S B H w d v B' H' → Q v H'
def r1 (S : Stc) (f : D → OD) : V → Hp → VK → Prop := fun x H Q => ∃ B a w d, Ex B H ∧ DR S B H x a ∧ f a = some (w, d) ∧ ∀ v B' H', NewR S B H w d v B' H' → Q v H'
section
variable {S : Stc} {X : Cx}
theorem i_eq {i : Int} {w : Bool} {d : D} (h : i_ i = some (w, d)) : w = false ∧ d = .int i := by cases h; exact ⟨rfl, rfl⟩
theorem b_eq {i : Bool} {w : Bool} {d : D} (h : b_ i = some (w, d)) : w = false ∧ d = .bl i := by cases h; exact ⟨rfl, rfl⟩
theorem mkS_append (a b : List Nat) : mkS a ++ mkS b = mkS (a ++ b) := by
  apply TL.ext_tl
  rw [TL.tl_append]
theorem mkS_length (a : List Nat) : (mkS a).length = a.length := by simp [mkS, Str.length]
theorem lim_eq : sizeLine = LIM := sizeLine_eq
theorem strOk_append {a b : List Nat} (ha : StrOk a) (hb : StrOk b) (h : a.length + b.length ≤ LIM) : StrOk (a ++ b) := by
  refine ⟨fun c hc => ?_, by rw [List.length_append]; exact h⟩
  rcases List.mem_append.mp hc with q | q
  · exact ha.1 c q
  · exact hb.1 c q
theorem ok_add : OpR X (binaryOp .Add) (r2 S addD) := by
  intro pins s σ H x y v u Q I rx ry h
  obtain ⟨B, a, b, w, d, e, ra, rb, hf, q⟩ := h
  unfold addD at hf
  split at hf
  · obtain ⟨rfl, rfl⟩ := i_eq hf
    exact op_add pins s σ H x y v u Q I rx ry ⟨_, _, ra.int, rb.int, q _ _ _ (new_same e (.int _))⟩
  · split at hf
    · rename_i hl
      cases hf
      obtain ⟨rfl, ka⟩ := ra.str
      obtain ⟨rfl, kb⟩ := rb.str
      refine op_add_str pins s σ H _ _ v u Q I rx ry ⟨_, _, rfl, rfl, by rw [mkS_length, mkS_length, lim_eq]; exact hl, ?_⟩
      rw [mkS_append]
      exact q _ _ _ (new_same e (.str _ (strOk_append ka kb hl)))
    · cases hf
  · split at hf
    · rename_i hl
      cases hf
      obtain ⟨p1, vs, rfl, h1, k1⟩ := ra.lst e
      obtain ⟨p2, ws, rfl, h2, k2⟩ := rb.lst e
      exact op_cat pins s σ H _ _ v u Q I rx ry ⟨_, _, _, _, rfl, rfl, h1, h2, by rw [k1.length, k2.length, lim_eq]; exact hl, fun p hp => q _ _ _ (new_lst e hp (k1.append k2))⟩
    · cases hf
  · cases hf
theorem ok_sub : OpR X (binaryOp .Sub) (r2 S subD) := by
  intro pins s σ H x y v u Q I rx ry h
  obtain ⟨B, a, b, w, d, e, ra, rb, hf, q⟩ := h
  unfold subD at hf
  split at hf
  · obtain ⟨rfl, rfl⟩ := i_eq hf
    exact op_sub pins s σ H x y v u Q I rx ry ⟨_, _, ra.int, rb.int, q _ _ _ (new_same e (.int _))⟩
  · cases hf
theorem reps_rep {B : Hp} {vs : List V} {ds : List D} (h : Reps S B vs ds) : ∀ k : Nat, Reps S B (List.replicate k vs).flatten (List.replicate k ds).flatten
  | 0 => .nil
  | k + 1 => by
    rw [List.replicate_succ, List.replicate_succ, List.flatten_cons, List.flatten_cons]
    exact h.append (reps_rep h k)
theorem repS_length (k : Nat) (s : List Nat) : (repS k s).length = s.length * k := by
  unfold repS
  induction k with
  | zero => simp
  | succ k ih => rw [List.replicate_succ, List.flatten_cons, List.length_append, ih, Nat.mul_succ, Nat.add_comm]
theorem repS_mem {k : Nat} {s : List Nat} {c : Nat} (h : c ∈ repS k s) : c ∈ s := by
  unfold repS at h
  obtain ⟨l, h1, h2⟩ := List.mem_flatten.mp h
  rw [List.eq_of_mem_replicate h1] at h2
  exact h2
theorem foldl_app (x : Array Nat) : ∀ (k : Nat) (acc : Array Nat), ((List.replicate k x).foldl (· ++ ·) acc).toList = acc.toList ++ (List.replicate k x.toList).flatten
  | 0, acc => by simp
  | k + 1, acc => by
    rw [List.replicate_succ, List.foldl_cons, foldl_app x k, List.replicate_succ, List.flatten_cons, Array.toList_append, List.append_assoc]
theorem mul_txt {a : List Nat} {k : Int} (h : 0 ≤ k) : Txt.mul (mkS a) k = mkS (repS k.toNat a) := by
  apply TL.ext_tl
  unfold Txt.mul
  split
  · have : k.toNat = 0 := by omega
    rw [this]
    rfl
  · split
    · rename_i h1 h2
      have h3 : k = 1 ∨ a.length = 0 := by
        have h4 : (k == 1) = true ∨ ((mkS a).length == 0) = true := by simpa using h2
        rcases h4 with h4 | h4
        · exact .inl (by simpa using h4)
        · rw [mkS_length] at h4; exact .inr (by simpa using h4)
      rcases h3 with rfl | h3
      · show a = repS (1 : Int).toNat a
        unfold repS
        simp
      · have : a = [] := List.length_eq_zero_iff.mp h3
        subst this
        show [] = repS k.toNat []
        unfold repS
        simp
    · show ((List.replicate k.toNat (mkS a).cps).foldl (· ++ ·) #[]).toList = repS k.toNat a
      rw [foldl_app]
      unfold repS
      simp
theorem mulOk_of {a : List Nat} {k : Int} (h0 : 0 ≤ k) (h1 : k < 2 ^ 40) (h2 : a.length * k.toNat ≤ LIM) : MulOk (mkS a) k := by
  refine ⟨?_, fun h3 h4 => ?_, fun h3 h4 => ?_⟩
  · rw [Bool.or_eq_false_iff]
    exact ⟨decide_eq_false (by omega), decide_eq_false (by omega)⟩
  · rw [mkS_length]
    intro h5
    have h6 : (a.length : Int) * k ≤ (LIM : Int) := by
      have h : ((a.length * k.toNat : Nat) : Int) ≤ (LIM : Int) := by exact_mod_cast h2
      rw [Int.natCast_mul, Int.toNat_of_nonneg h0] at h
      exact h
    have h7 : (2 ^ 63 - 1 : Int) / k < a.length := h5
    have h8 : (2 ^ 63 - 1 : Int) < a.length * k := (Int.ediv_lt_iff_lt_mul (by omega)).mp h7
    have h9 : ((LIM : Nat) : Int) = 16777216 := rfl
    omega
  · rw [mkS_length]
    unfold Builtin.Str.tooLong
    rw [lim_eq]
    exact decide_eq_false (by omega)
theorem ok_mul : OpR X (binaryOp .Mult) (r2 S mulD) := by
  intro pins s σ H x y v u Q I rx ry h
  obtain ⟨B, a, b, w, d, e, ra, rb, hf, q⟩ := h
  unfold mulD at hf
  split at hf
  · split at hf
    · rename_i hc
      obtain ⟨rfl, rfl⟩ := i_eq hf
      exact op_mul pins s σ H x y v u Q I rx ry ⟨_, _, ra.int, rb.int, hc, q _ _ _ (new_same e (.int _))⟩
    · cases hf
  · split at hf
    · rename_i hc
      cases hf
      obtain ⟨rfl, ka⟩ := ra.str
      obtain rfl := rb.int
      obtain ⟨t, rfl⟩ := rx
      obtain ⟨t', rfl⟩ := ry
      obtain ⟨h0, h1, h2⟩ := hc
      refine SB.mul (mulOk_of h0 h1 h2) fun t2 k2 => ?_
      rw [mul_txt h0]
      exact ⟨.str _, H, I.tok _, ⟨_, rfl⟩, q _ _ _ (new_same e (.str _ ⟨fun c hc => ka.1 c (repS_mem hc), by rw [repS_length]; exact h2⟩))⟩
    · cases hf
  · split at hf
    · rename_i hc
      cases hf
      obtain ⟨p1, vs, rfl, h1, k1⟩ := ra.lst e
      obtain rfl := rb.int
      refine op_rep pins s σ H _ _ v u Q I rx ry ⟨_, _, _, rfl, rfl, h1, by omega, by omega, by rw [k1.length, lim_eq]; exact hc.2.2, fun p hp => q _ _ _ (new_lst e hp (reps_rep k1 _))⟩
    · cases hf
  · cases hf
theorem ok_fdiv : OpR X (binaryOp .FloorDiv) (r2 S fdivD) := by
  intro pins s σ H x y v u Q I rx ry h
  obtain ⟨B, a, b, w, d, e, ra, rb, hf, q⟩ := h
  unfold fdivD at hf
  split at hf
  · split at hf
    · rename_i hc
      obtain ⟨rfl, rfl⟩ := i_eq hf
      exact op_fdivW pins s σ H x y v u Q I rx ry ⟨_, _, ra.int, rb.int, hc, q _ _ _ (new_same e (.int _))⟩
    · cases hf
  · cases hf
theorem ok_mod : OpR X (binaryOp .Mod) (r2 S modD) := by
  intro pins s σ H x y v u Q I rx ry h
  obtain ⟨B, a, b, w, d, e, ra, rb, hf, q⟩ := h
  unfold modD at hf
  split at hf
  · split at hf
    · rename_i hc
      obtain ⟨rfl, rfl⟩ := i_eq hf
      exact op_mod pins s σ H x y v u Q I rx ry ⟨_, _, ra.int, rb.int, hc, q _ _ _ (new_same e (.int _))⟩
    · cases hf
  · cases hf
theorem ok_pow : OpR X (binaryOp .Pow) (r2 S powD) := by
  intro pins s σ H x y v u Q I rx ry h
  obtain ⟨B, a, b, w, d, e, ra, rb, hf, q⟩ := h
  unfold powD at hf
  split at hf
  · split at hf
    · rename_i hc
      obtain ⟨rfl, rfl⟩ := i_eq hf
      exact op_pow pins s σ H x y v u Q I rx ry ⟨_, _, ra.int, rb.int, hc, q _ _ _ (new_same e (.int _))⟩
    · cases hf
  · cases hf
theorem ok_bit {f : Int → Int → Int} {g : Value → Value → Sem Value} (hg : OpR X g (rI0 fun i j => .int (f i j))) : OpR X g (r2 S (bitD f)) := by
  intro pins s σ H x y v u Q I rx ry h
  obtain ⟨B, a, b, w, d, e, ra, rb, hf, q⟩ := h
  unfold bitD at hf
  split at hf
  · obtain ⟨rfl, rfl⟩ := i_eq hf
    exact hg pins s σ H x y v u Q I rx ry ⟨_, _, ra.int, rb.int, q _ _ _ (new_same e (.int _))⟩
  · cases hf
theorem ok_lt : OpR X (compareOp .Lt) (r2 S ltD) := by
  intro pins s σ H x y v u Q I rx ry h
  obtain ⟨B, a, b, w, d, e, ra, rb, hf, q⟩ := h
  unfold ltD at hf
  split at hf
  · obtain ⟨rfl, rfl⟩ := b_eq hf
    exact op_lt pins s σ H x y v u Q I rx ry ⟨_, _, ra.int, rb.int, q _ _ _ (new_same e (.bl _))⟩
  · obtain ⟨rfl, rfl⟩ := b_eq hf
    exact op_lt_str pins s σ H x y v u Q I rx ry ⟨_, _, ra.str.1, rb.str.1, q _ _ _ (new_same e (.bl _))⟩
  · cases hf
theorem ok_le : OpR X (compareOp .LtE) (r2 S leD) := by
  intro pins s σ H x y v u Q I rx ry h
  obtain ⟨B, a, b, w, d, e, ra, rb, hf, q⟩ := h
  unfold leD at hf
  split at hf
  · obtain ⟨rfl, rfl⟩ := b_eq hf
    exact op_le pins s σ H x y v u Q I rx ry ⟨_, _, ra.int, rb.int, q _ _ _ (new_same e (.bl _))⟩
  · obtain ⟨rfl, rfl⟩ := b_eq hf
    exact op_le_str pins s σ H x y v u Q I rx ry ⟨_, _, ra.str.1, rb.str.1, q _ _ _ (new_same e (.bl _))⟩
  · cases hf
theorem ok_gt : OpR X (compareOp .Gt) (r2 S fun a b => ltD b a) := by
  intro pins s σ H x y v u Q I rx ry h
  obtain ⟨B, a, b, w, d, e, ra, rb, hf, q⟩ := h
  have hf : ltD b a = some (w, d) := hf
  unfold ltD at hf
  split at hf
  · obtain ⟨rfl, rfl⟩ := b_eq hf
    exact op_gt pins s σ H x y v u Q I rx ry ⟨_, _, ra.int, rb.int, q _ _ _ (new_same e (.bl _))⟩
  · obtain ⟨rfl, rfl⟩ := b_eq hf
    exact op_gt_str pins s σ H x y v u Q I rx ry ⟨_, _, ra.str.1, rb.str.1, q _ _ _ (new_same e (.bl _))⟩
  · cases hf
theorem ok_ge : OpR X (compareOp .GtE) (r2 S fun a b => leD b a) := by
  intro pins s σ H x y v u Q I rx ry h
  obtain ⟨B, a, b, w, d, e, ra, rb, hf, q⟩ := h
  have hf : leD b a = some (w, d) := hf
  unfold leD at hf
  split at hf
  · obtain ⟨rfl, rfl⟩ := b_eq hf
    exact op_ge pins s σ H x y v u Q I rx ry ⟨_, _, ra.int, rb.int, q _ _ _ (new_same e (.bl _))⟩
  · obtain ⟨rfl, rfl⟩ := b_eq hf
    exact op_ge_str pins s σ H x y v u Q I rx ry ⟨_, _, ra.str.1, rb.str.1, q _ _ _ (new_same e (.bl _))⟩
  · cases hf
end
end Gal
set_option Elab.async false
set_option linter.all false
set_option maxRecDepth 100000
/-! G4: ==, in, subscripts, the built-in calls and methods on data. -/
namespace Gal
open PySem L2 PyProof.Rows
mutual
def pyD : D → PyData
  | .non => .none
  | .bl b => .bool b
  | .int i => .int i
  | .str s => .str (mkS s)
  | .lst xs => .list (pyDs xs)
  | .tup xs => .tuple (pyDs xs)
  | _ => .none
def pyDs : List D → List PyData
  | [] => []
  | d :: r => pyD d :: pyDs r
end
theorem strOk_of {s : List Nat} (h : StrOk s) : PySem.PyData.strOk (mkS s) = true := by
  unfold PySem.PyData.strOk
  rw [← Array.all_toList]
  rw [List.all_eq_true]
  intro c hc
  have := h.1 c hc
  first | exact decide_eq_true this | simpa using this
section
variable {S : Stc} {B H : Hp}
theorem sqL_of {K : PySem.W.Frag} {p : Addr} {vs : List V} (h : H p = some (.lst vs)) : SqL K H p vs := .inl (.inl h)
theorem sqT_of {K : PySem.W.Frag} {p : Addr} {vs : List V} (h : H p = some (.tup vs)) : SqT K H p vs := .inl (.inl h)
theorem okEqs_cons {n : Nat} {d : D} {r : List D} (h : (d :: r).all (okEq n) = true) : okEq n d = true ∧ r.all (okEq n) = true := by simpa using h
mutual
theorem dp_of (e : Ex B H) : ∀ (n : Nat) {v : V} {d : D}, okEq n d = true → Rep S B v d → Dp S.K H v (pyD d) ∧ (pyD d).canLay0 = true ∧ (pyD d).depth ≤ n
  | n, _, .non, _, r => by cases r; exact ⟨.non, rfl, Nat.zero_le _⟩
  | n, _, .bl _, _, r => by cases r; exact ⟨.bl _, rfl, Nat.zero_le _⟩
  | n, _, .int _, _, r => by cases r; exact ⟨.int _, rfl, Nat.zero_le _⟩
  | n, _, .str _, _, r => by cases r with | str _ k => exact ⟨.str _, by simp only [pyD, PyData.canLay0]; exact strOk_of k, Nat.zero_le _⟩
  | n + 1, _, .lst xs, h, r => by
    cases r with
    | lst hp rs =>
      obtain ⟨a, b, c⟩ := dps_of e n (by simpa [okEq] using h) rs
      refine ⟨?_, ?_, ?_⟩
      · simp only [pyD]; exact .lst (sqL_of (e _ _ hp)) a
      · simp only [pyD, PyData.canLay0]; exact b
      · simp only [pyD, PyData.depth]; omega
  | n + 1, _, .tup xs, h, r => by
    cases r with
    | tup hp rs =>
      obtain ⟨a, b, c⟩ := dps_of e n (by simpa [okEq] using h) rs
      refine ⟨?_, ?_, ?_⟩
      · simp only [pyD]; exact .tup (sqT_of (e _ _ hp)) a
      · simp only [pyD, PyData.canLay0]; exact b
      · simp only [pyD, PyData.depth]; omega
  | 0, _, .lst _, h, _ => by simp [okEq] at h
  | 0, _, .tup _, h, _ => by simp [okEq] at h
  | 0, _, .dic _, h, _ => by simp [okEq] at h
  | 0, _, .obj _ _, h, _ => by simp [okEq] at h
  | 0, _, .cls _, h, _ => by simp [okEq] at h
  | 0, _, .scr _, h, _ => by simp [okEq] at h
  | n + 1, _, .dic _, h, _ => by simp [okEq] at h
  | n + 1, _, .obj _ _, h, _ => by simp [okEq] at h
  | n + 1, _, .cls _, h, _ => by simp [okEq] at h
  | n + 1, _, .scr _, h, _ => by simp [okEq] at h
theorem dps_of (e : Ex B H) : ∀ (n : Nat) {vs : List V} {ds : List D}, (∀ d ∈ ds, okEq n d = true) → Reps S B vs ds → DpAll S.K H vs (pyDs ds) ∧ PyData.canLayAll0 (pyDs ds) = true ∧ PyData.depthAll (pyDs ds) ≤ n
  | n, _, [], _, r => by cases r; exact ⟨.nil, rfl, Nat.zero_le _⟩
  | n, _, d :: ds, h, r => by
    cases r with
    | cons r rs =>
      obtain ⟨a, b, c⟩ := dp_of e n (h d (List.mem_cons_self ..)) r
      obtain ⟨a', b', c'⟩ := dps_of e n (fun x hx => h x (List.mem_cons_of_mem _ hx)) rs
      refine ⟨?_, ?_, ?_⟩
      · simp only [pyDs]; exact .cons a a'
      · simp only [pyDs, PyData.canLayAll0]; rw [b, b']; rfl
      · simp only [pyDs, PyData.depthAll]; omega
end
theorem dpr_of (e : Ex B H) (n : Nat) {v : V} {d : D} (h : okEq n d = true) (r : DR S B H v d) : Dp S.K H v (pyD d) ∧ (pyD d).canLay0 = true ∧ (pyD d).depth ≤ n := by
  rcases r with r | ⟨p, rfl, r⟩
  · exact dp_of e n h r
  · cases r with
    | lst hp rs =>
      cases n with
      | zero => simp [okEq] at h
      | succ n =>
        obtain ⟨a, b, c⟩ := dps_of e n (by simpa [okEq] using h) rs
        refine ⟨?_, ?_, ?_⟩
        · simp only [pyD]; exact .lst (sqL_of hp) a
        · simp only [pyD, PyData.canLay0]; exact b
        · simp only [pyD, PyData.depth]; omega
    | dic _ _ => cases n <;> simp [okEq] at h
    | obj _ _ => cases n <;> simp [okEq] at h
end
theorem mkS_inj {a b : List Nat} : mkS a = mkS b ↔ a = b := ⟨fun h => by injection h with h; exact congrArg Array.toList h, fun h => by rw [h]⟩
theorem mkS_beq (a b : List Nat) : (mkS a == mkS b) = (a == b) := by
  rw [Bool.eq_iff_iff, beq_iff_eq, beq_iff_eq]
  exact mkS_inj
mutual
theorem eqv_py : ∀ (n m : Nat) (a b : D), okEq n a = true → okEq m b = true → PyData.eqv (pyD a) (pyD b) = eqD a b
  | n, m, .lst xs, b, h, k => by
    cases n with
    | zero => simp [okEq] at h
    | succ n =>
      cases b with
      | lst ys =>
        cases m with
        | zero => simp [okEq] at k
        | succ m => simp only [pyD, PyData.eqv, eqD]; exact eqvs_py n m xs ys (by simpa [okEq] using h) (by simpa [okEq] using k)
      | non => rfl
      | bl _ => rfl
      | int _ => rfl
      | str _ => rfl
      | tup _ => rfl
      | _ => cases m <;> simp [okEq] at k
  | n, m, .tup xs, b, h, k => by
    cases n with
    | zero => simp [okEq] at h
    | succ n =>
      cases b with
      | tup ys =>
        cases m with
        | zero => simp [okEq] at k
        | succ m => simp only [pyD, PyData.eqv, eqD]; exact eqvs_py n m xs ys (by simpa [okEq] using h) (by simpa [okEq] using k)
      | non => rfl
      | bl _ => rfl
      | int _ => rfl
      | str _ => rfl
      | lst _ => rfl
      | _ => cases m <;> simp [okEq] at k
  | n, m, .non, b, h, k => by cases b <;> first | rfl | (cases m <;> simp [okEq] at k)
  | n, m, .bl _, b, h, k => by cases b <;> first | rfl | (cases m <;> simp [okEq] at k)
  | n, m, .int _, b, h, k => by cases b <;> first | rfl | (cases m <;> simp [okEq] at k)
  | n, m, .str s, b, h, k => by
    cases b with
    | str t => exact mkS_beq s t
    | _ => first | rfl | (cases m <;> simp [okEq] at k)
  | n, m, .dic _, _, h, _ => by cases n <;> simp [okEq] at h
  | n, m, .obj _ _, _, h, _ => by cases n <;> simp [okEq] at h
  | n, m, .cls _, _, h, _ => by cases n <;> simp [okEq] at h
  | n, m, .scr _, _, h, _ => by cases n <;> simp [okEq] at h
theorem eqvs_py : ∀ (n m : Nat) (a b : List D), (∀ d ∈ a, okEq n d = true) → (∀ d ∈ b, okEq m d = true) → PyData.eqvAll (pyDs a) (pyDs b) = eqDs a b
  | n, m, [], [], _, _ => rfl
  | n, m, [], _ :: _, _, _ => rfl
  | n, m, _ :: _, [], _, _ => rfl
  | n, m, x :: xs, y :: ys, h, k => by
    simp only [pyDs, PyData.eqvAll, eqDs]
    rw [eqv_py n m x y (h x (List.mem_cons_self ..)) (k y (List.mem_cons_self ..)), eqvs_py n m xs ys (fun z hz => h z (List.mem_cons_of_mem _ hz)) (fun z hz => k z (List.mem_cons_of_mem _ hz))]
end
section
variable {S : Stc} {X : Cx}
theorem ok_eq (hK : X.K = S.K) (hu : X.A.units + 80 < cLine) : OpR X (compareOp .Eq) (r2 S (eqqD true)) := by
  intro pins s σ H x y v u Q I rx ry h
  obtain ⟨B, a, b, w, d, e, ra, rb, hf, q⟩ := h
  unfold eqqD at hf
  split at hf
  · rename_i hc
    obtain ⟨h1, h2⟩ := Bool.and_eq_true_iff.mp hc
    obtain ⟨rfl, rfl⟩ := b_eq hf
    obtain ⟨p1, p2, p3⟩ := dpr_of e 60 h1 ra
    obtain ⟨q1, q2, q3⟩ := dpr_of e 60 h2 rb
    refine op_eqD (by omega) pins s σ H x y v u Q I rx ry ⟨_, _, hK ▸ p1, hK ▸ q1, ?_, ?_, ?_⟩
    · unfold SeqAt.shaped; rw [p2]; exact decide_eq_true (by omega)
    · unfold SeqAt.shaped; rw [q2]; exact decide_eq_true (by omega)
    · rw [eqv_py 60 60 a b h1 h2]
      have := q _ _ _ (new_same (S := S) (H := H) e (.bl (eqD a b == true)))
      simpa using this
  · cases hf
theorem ok_ne (hK : X.K = S.K) (hu : X.A.units + 80 < cLine) : OpR X (compareOp .NotEq) (r2 S (eqqD false)) := by
  intro pins s σ H x y v u Q I rx ry h
  obtain ⟨B, a, b, w, d, e, ra, rb, hf, q⟩ := h
  unfold eqqD at hf
  split at hf
  · rename_i hc
    obtain ⟨h1, h2⟩ := Bool.and_eq_true_iff.mp hc
    obtain ⟨rfl, rfl⟩ := b_eq hf
    obtain ⟨p1, p2, p3⟩ := dpr_of e 60 h1 ra
    obtain ⟨q1, q2, q3⟩ := dpr_of e 60 h2 rb
    refine op_neD (by omega) pins s σ H x y v u Q I rx ry ⟨_, _, hK ▸ p1, hK ▸ q1, ?_, ?_, ?_⟩
    · unfold SeqAt.shaped; rw [p2]; exact decide_eq_true (by omega)
    · unfold SeqAt.shaped; rw [q2]; exact decide_eq_true (by omega)
    · rw [eqv_py 60 60 a b h1 h2]
      have := q _ _ _ (new_same (S := S) (H := H) e (.bl (eqD a b == false)))
      simpa using this
  · cases hf
theorem isNon_eq {B H : Hp} {v : V} {d : D} (r : DR S B H v d) : isNon d = decide (v = .non) := by
  cases d with
  | non => rw [r.non]; rfl
  | _ =>
    symm
    apply decide_eq_false
    intro e
    subst e
    rcases r with r | ⟨p, e, _⟩
    · cases r
    · cases e
theorem ok_is : OpR X (compareOp .Is) (r2 S (isD true)) := by
  intro pins s σ H x y v u Q I rx ry h
  obtain ⟨B, a, b, w, d, e, ra, rb, hf, q⟩ := h
  cases b with
  | non =>
    obtain ⟨rfl, rfl⟩ := b_eq hf
    refine op_isN pins s σ H x y v u Q I rx ry ⟨rb.non, ?_⟩
    rw [← isNon_eq ra]
    have := q _ _ _ (new_same (S := S) (H := H) e (.bl (isNon a == true)))
    simpa using this
  | bl k =>
    cases a with
    | bl c =>
      obtain ⟨rfl, rfl⟩ := b_eq hf
      refine op_isBl pins s σ H x y v u Q I rx ry ⟨c, k, ra.bl, rb.bl, ?_⟩
      have := q _ _ _ (new_same (S := S) (H := H) e (.bl ((c == k) == true)))
      cases c <;> cases k <;> exact this
    | _ => cases hf
  | _ => cases hf
theorem ok_isnot : OpR X (compareOp .IsNot) (r2 S (isD false)) := by
  intro pins s σ H x y v u Q I rx ry h
  obtain ⟨B, a, b, w, d, e, ra, rb, hf, q⟩ := h
  cases b with
  | non =>
    obtain ⟨rfl, rfl⟩ := b_eq hf
    refine op_notN pins s σ H x y v u Q I rx ry ⟨rb.non, ?_⟩
    rw [← isNon_eq ra]
    have := q _ _ _ (new_same (S := S) (H := H) e (.bl (isNon a == false)))
    simpa using this
  | bl k =>
    cases a with
    | bl c =>
      obtain ⟨rfl, rfl⟩ := b_eq hf
      refine op_notBl pins s σ H x y v u Q I rx ry ⟨c, k, ra.bl, rb.bl, ?_⟩
      have := q _ _ _ (new_same (S := S) (H := H) e (.bl ((c == k) == false)))
      cases c <;> cases k <;> exact this
    | _ => cases hf
  | _ => cases hf
end
end Gal
set_option Elab.async false
set_option linter.all false
set_option maxRecDepth 100000
/-! G5: in, subscripts, built-in calls on data. -/
namespace Gal
open PySem L2 PyProof.Rows
section
variable {S : Stc} {B H : Hp}
theorem flat_v {v : V} {d : D} (h : flatD d = true) (r : DR S B H v d) : flatV v = true := by
  cases d with
  | non => rw [r.non]; rfl
  | bl _ => rw [r.bl]; rfl
  | int _ => rw [r.int]; rfl
  | str _ => rw [r.str.1]; rfl
  | _ => cases h
theorem eqV_of {v u : V} {a b : D} (ra : DR S B H v a) (rb : DR S B H u b) (fa : flatD a = true) (fb : flatD b = true) : eqV v u = eqD a b := by
  cases a with
  | non => rw [ra.non]; cases b <;> first | (rw [rb.non]; rfl) | (rw [rb.bl]; rfl) | (rw [rb.int]; rfl) | (rw [rb.str.1]; rfl) | cases fb
  | bl _ => rw [ra.bl]; cases b <;> first | (rw [rb.non]; rfl) | (rw [rb.bl]; rfl) | (rw [rb.int]; rfl) | (rw [rb.str.1]; rfl) | cases fb
  | int _ => rw [ra.int]; cases b <;> first | (rw [rb.non]; rfl) | (rw [rb.bl]; rfl) | (rw [rb.int]; rfl) | (rw [rb.str.1]; rfl) | cases fb
  | str s => rw [ra.str.1]; cases b <;> first | (rw [rb.non]; rfl) | (rw [rb.bl]; rfl) | (rw [rb.int]; rfl) | (rw [rb.str.1]; exact mkS_beq _ _) | cases fb
  | _ => cases fa
theorem inV_of {x : V} {a : D} (ra : DR S B H x a) (fa : flatD a = true) : ∀ {vs : List V} {ds : List D}, Reps S B vs ds → ds.all flatD = true → vs.all flatV = true ∧ inV x vs = ds.any (fun y => eqD y a)
  | _, _, .nil, _ => ⟨rfl, rfl⟩
  | v :: vs, d :: ds, .cons r rs, h => by
    obtain ⟨h1, h2⟩ : flatD d = true ∧ ds.all flatD = true := by simpa using h
    obtain ⟨i1, i2⟩ := inV_of ra fa rs h2
    refine ⟨?_, ?_⟩
    · rw [List.all_cons, flat_v (S := S) (B := B) (H := H) h1 (.inl r), i1]; rfl
    · unfold inV at i2 ⊢
      rw [List.any_cons, List.any_cons, i2, eqV_of (S := S) (B := B) (H := H) (.inl r) ra h1 fa]
theorem key_v {y : V} {a : D} (h : isKey a = true) (r : DR S B H y a) : ∃ k, y = kV k ∧ KeyR k a := by
  cases a with
  | int i => exact ⟨.inl i, r.int, rfl⟩
  | str s => obtain ⟨e, k⟩ := r.str; exact ⟨.inr (mkS s), e, rfl, k⟩
  | _ => cases h
theorem keyR_dec {k k' : Key} {a b : D} (ha : KeyR k a) (hb : KeyR k' b) : (k' = k ↔ eqD b a = true) := by
  cases k with
  | inl i =>
    cases a with
    | int j =>
      cases ha
      cases k' with
      | inl i' =>
        cases b with
        | int j' => cases hb; simp [eqD]
        | _ => cases hb
      | inr x =>
        cases b with
        | str s => simp [eqD]
        | _ => cases hb
    | _ => cases ha
  | inr x =>
    cases a with
    | str s =>
      obtain ⟨rfl, _⟩ := ha
      cases k' with
      | inl i' =>
        cases b with
        | int j' => simp [eqD]
        | _ => cases hb
      | inr x =>
        cases b with
        | str s' => obtain ⟨rfl, _⟩ := hb; simp [eqD]
        | _ => cases hb
    | _ => cases ha
theorem look_v {k : Key} {a : D} (ha : KeyR k a) : ∀ {kvs : List (Key × V)} {ds : List (D × D)}, RepK S B kvs ds → (lookD a ds = none ∧ valV kvs k = none) ∨ ∃ d v, lookD a ds = some d ∧ valV kvs k = some v ∧ Rep S B v d
  | _, _, .nil => .inl ⟨rfl, rfl⟩
  | _, _, .cons (k := k') (v := v) (a := b) (d := d) hb r rs => by
    unfold lookD
    by_cases e : eqD b a = true
    · rw [if_pos e]
      exact .inr ⟨d, v, rfl, valV_pos ((keyR_dec ha hb).mpr e), r⟩
    · rw [if_neg e]
      have n : ¬ k' = k := fun z => e ((keyR_dec ha hb).mp z)
      rcases look_v ha rs with ⟨h1, h2⟩ | ⟨d', v', h1, h2, h3⟩
      · exact .inl ⟨h1, (valV_neg n).trans h2⟩
      · exact .inr ⟨d', v', h1, (valV_neg n).trans h2, h3⟩
theorem bTrue (b : Bool) : (b == true) = b := by cases b <;> rfl
theorem bFalse (b : Bool) : (b == false) = !b := by cases b <;> rfl
end
section
variable {S : Stc} {X : Cx}
theorem inD_cases {t : Bool} {a b : D} {w : Bool} {d : D} (h : inD t a b = some (w, d)) :
    (∃ c s, a = .str [c] ∧ b = .str s ∧ w = false ∧ d = .bl (decide (c ∈ s) == t)) ∨
    (∃ xs, (b = .lst xs ∨ b = .tup xs) ∧ flatD a = true ∧ xs.all flatD = true ∧ w = false ∧ d = .bl ((xs.any fun y => eqD y a) == t)) ∨
    (∃ kvs, b = .dic kvs ∧ isKey a = true ∧ w = false ∧ d = .bl ((lookD a kvs).isSome == t)) := by
  cases b with
  | str s =>
    cases a with
    | str x =>
      match x, h with
      | [c], h => cases h; exact .inl ⟨c, s, rfl, rfl, rfl, rfl⟩
      | [], h => cases h
      | _ :: _ :: _, h => cases h
    | _ => cases h
  | lst xs =>
    have h' : (if flatD a && xs.all flatD then b_ ((xs.any fun y => eqD y a) == t) else none) = some (w, d) := by cases a <;> exact h
    split at h'
    · rename_i hc
      obtain ⟨h1, h2⟩ := Bool.and_eq_true_iff.mp hc
      obtain ⟨rfl, rfl⟩ := b_eq h'
      exact .inr (.inl ⟨xs, .inl rfl, h1, h2, rfl, rfl⟩)
    · cases h'
  | tup xs =>
    have h' : (if flatD a && xs.all flatD then b_ ((xs.any fun y => eqD y a) == t) else none) = some (w, d) := by cases a <;> exact h
    split at h'
    · rename_i hc
      obtain ⟨h1, h2⟩ := Bool.and_eq_true_iff.mp hc
      obtain ⟨rfl, rfl⟩ := b_eq h'
      exact .inr (.inl ⟨xs, .inr rfl, h1, h2, rfl, rfl⟩)
    · cases h'
  | dic kvs =>
    have h' : (if isKey a then b_ ((lookD a kvs).isSome == t) else none) = some (w, d) := by cases a <;> exact h
    split at h'
    · rename_i hc
      obtain ⟨rfl, rfl⟩ := b_eq h'
      exact .inr (.inr ⟨kvs, rfl, hc, rfl, rfl⟩)
    · cases h'
  | _ => cases a <;> cases h
theorem ok_in (hK : X.K = S.K) (hu : X.A.units + 80 < cLine) : OpR X (compareOp .In) (r2 S (inD true)) := by
  intro pins s σ H x y v u Q I rx ry h
  obtain ⟨B, a, b, w, d, e, ra, rb, hf, q⟩ := h
  rcases inD_cases hf with ⟨c, z, rfl, rfl, rfl, rfl⟩ | ⟨xs, hb, fa, fx, rfl, rfl⟩ | ⟨kvs, rfl, ka, rfl, rfl⟩
  · refine op_in_sign pins s σ H x y v u Q I rx ry ⟨c, _, ra.str.1, rb.str.1, ?_⟩
    have := q _ _ _ (new_same (S := S) (H := H) e (.bl _))
    rwa [bTrue] at this
  · have : ∃ p vs, y = .ref p ∧ (SqL X.K H p vs ∨ SqT X.K H p vs) ∧ Reps S B vs xs := by
      rcases hb with rfl | rfl
      · obtain ⟨p, vs, rfl, hp, rs⟩ := rb.lst e
        exact ⟨p, vs, rfl, .inl (sqL_of hp), rs⟩
      · obtain ⟨p, vs, rfl, _, hp, rs⟩ := rb.tup e
        exact ⟨p, vs, rfl, .inr (sqT_of hp), rs⟩
    obtain ⟨p, vs, rfl, hs, rs⟩ := this
    obtain ⟨i1, i2⟩ := inV_of ra fa rs fx
    refine op_in_seq pins s σ H x _ v u Q I rx ry ⟨p, vs, rfl, hs, flat_v fa ra, i1, ?_⟩
    have := q _ _ _ (new_same (S := S) (H := H) e (.bl _))
    rw [bTrue, ← i2] at this
    exact this
  · obtain ⟨p, vs, rfl, hp, rk⟩ := rb.dic e
    obtain ⟨k, rfl, kr⟩ := key_v ka ra
    have q := q _ _ _ (new_same (S := S) (H := H) e (.bl _))
    rw [bTrue] at q
    obtain rfl : u = Value.ref p := ry
    refine d_in (by omega) I (DGet.k (k := k) hp) rx fun s' I' => ⟨.bl _, H, I', rfl, ?_⟩
    rcases look_v kr rk with ⟨h1, h2⟩ | ⟨d, v', h1, h2, _⟩
    · rw [h2]; rw [h1] at q; exact q
    · rw [h2]; rw [h1] at q; exact q
theorem ok_notin (hK : X.K = S.K) (hu : X.A.units + 80 < cLine) : OpR X (compareOp .NotIn) (r2 S (inD false)) := by
  intro pins s σ H x y v u Q I rx ry h
  obtain ⟨B, a, b, w, d, e, ra, rb, hf, q⟩ := h
  rcases inD_cases hf with ⟨c, z, rfl, rfl, rfl, rfl⟩ | ⟨xs, hb, fa, fx, rfl, rfl⟩ | ⟨kvs, rfl, ka, rfl, rfl⟩
  · refine op_notIn_sign pins s σ H x y v u Q I rx ry ⟨c, _, ra.str.1, rb.str.1, ?_⟩
    have := q _ _ _ (new_same (S := S) (H := H) e (.bl _))
    rwa [bFalse] at this
  · have : ∃ p vs, y = .ref p ∧ (SqL X.K H p vs ∨ SqT X.K H p vs) ∧ Reps S B vs xs := by
      rcases hb with rfl | rfl
      · obtain ⟨p, vs, rfl, hp, rs⟩ := rb.lst e
        exact ⟨p, vs, rfl, .inl (sqL_of hp), rs⟩
      · obtain ⟨p, vs, rfl, _, hp, rs⟩ := rb.tup e
        exact ⟨p, vs, rfl, .inr (sqT_of hp), rs⟩
    obtain ⟨p, vs, rfl, hs, rs⟩ := this
    obtain ⟨i1, i2⟩ := inV_of ra fa rs fx
    refine op_notIn_seq pins s σ H x _ v u Q I rx ry ⟨p, vs, rfl, hs, flat_v fa ra, i1, ?_⟩
    have := q _ _ _ (new_same (S := S) (H := H) e (.bl _))
    rw [bFalse, ← i2] at this
    exact this
  · obtain ⟨p, vs, rfl, hp, rk⟩ := rb.dic e
    obtain ⟨k, rfl, kr⟩ := key_v ka ra
    have q := q _ _ _ (new_same (S := S) (H := H) e (.bl _))
    rw [bFalse] at q
    obtain rfl : u = Value.ref p := ry
    refine d_notIn (by omega) I (DGet.k (k := k) hp) rx fun s' I' => ⟨.bl _, H, I', rfl, ?_⟩
    rcases look_v kr rk with ⟨h1, h2⟩ | ⟨d, v', h1, h2, _⟩
    · rw [h2]; rw [h1] at q; exact q
    · rw [h2]; rw [h1] at q; exact q
/-! ### x[i] -/
theorem atI_rep {vs : List V} {ds : List D} {B : Hp} {i : Int} {d : D} (r : Reps S B vs ds) (h : atI ds i = some d) : ∃ v, atI vs i = some v ∧ Rep S B v d := by
  unfold atI at h ⊢
  rw [r.length]
  cases q : ixN ds.length i with
  | none => rw [q] at h; cases h
  | some j =>
    rw [q] at h
    exact r.get h
theorem map_some {α β : Type} {x : Option α} {f : α → β} {b : β} (h : x.map f = some b) : ∃ a, x = some a ∧ f a = b := Option.map_eq_some_iff.mp h
theorem ok_ix (hK : X.K = S.K) (hu : X.A.units + 80 < cLine) : IxR X (r2 S ixD) := by
  intro value slice pins s σ H x y v u Q I rx ry h hs
  obtain ⟨B, a, b, w, d, e, ra, rb, hf, q⟩ := h
  cases a with
  | lst xs =>
    cases b with
    | int i =>
      obtain ⟨d', h1, h2⟩ := map_some hf
      cases h2
      obtain ⟨p, vs, rfl, hp, rs⟩ := ra.lst e
      obtain ⟨z, hz, rz⟩ := atI_rep rs h1
      exact ix_list value slice pins s σ H _ _ v u Q I rx ry ⟨p, vs, i, z, rfl, rb.int, sqL_of hp, hz, q _ _ _ (new_same e rz)⟩ hs
    | _ => cases hf
  | tup xs =>
    cases b with
    | int i =>
      obtain ⟨d', h1, h2⟩ := map_some hf
      cases h2
      obtain ⟨p, vs, rfl, _, hp, rs⟩ := ra.tup e
      obtain ⟨z, hz, rz⟩ := atI_rep rs h1
      exact ix_tup value slice pins s σ H _ _ v u Q I rx ry ⟨p, vs, i, z, rfl, rb.int, sqT_of hp, hz, q _ _ _ (new_same e rz)⟩ hs
    | _ => cases hf
  | scr ns =>
    cases b with
    | int i =>
      obtain ⟨d', h1, h2⟩ := map_some hf
      cases h2
      obtain ⟨p, rfl, hp⟩ := ra.scr e
      have hz : atI (ns.map V.int) i = some (.int d') := by
        unfold atI at h1 ⊢
        rw [List.length_map]
        cases q : ixN ns.length i with
        | none => rw [q] at h1; cases h1
        | some j =>
          rw [q] at h1
          show (ns.map V.int)[j]? = _
          rw [List.getElem?_map]
          have h1 : ns[j]? = some d' := h1
          rw [h1]; rfl
      exact ix_list value slice pins s σ H _ _ v u Q I rx ry ⟨p, _, i, _, rfl, rb.int, hK ▸ hp, hz, q _ _ _ (new_same e (.int _))⟩ hs
    | _ => cases hf
  | str z =>
    cases b with
    | int i =>
      obtain ⟨c, h1, h2⟩ := map_some hf
      cases h2
      obtain ⟨rfl, k⟩ := ra.str
      have hc : c ∈ z := by
        obtain ⟨j, _, hj, _⟩ := atI_get h1
        exact List.mem_of_getElem? hj
      refine ix_str value slice pins s σ H _ _ v u Q I rx ry ⟨_, i, c, rfl, rb.int, by rw [mkS_length, lim_eq]; exact k.2, h1, q _ _ _ (new_same e (.str [c] ⟨fun c' hc' => ?_, by simp [LIM]⟩))⟩ hs
      have : c' = c := by simpa using hc'
      rw [this]; exact k.1 c hc
    | _ => cases hf
  | dic kvs =>
    have hf : (if isKey b then (lookD b kvs).map fun d => (false, d) else none) = some (w, d) := by cases b <;> exact hf
    split at hf
    · rename_i kb
      obtain ⟨d', h1, h2⟩ := map_some hf
      cases h2
      obtain ⟨p, vs, rfl, hp, rk⟩ := ra.dic e
      obtain ⟨k, rfl, kr⟩ := key_v kb rb
      rcases look_v kr rk with ⟨h3, _⟩ | ⟨d2, v', h3, h4, r⟩
      · rw [h3] at h1; cases h1
      · rw [h3] at h1
        cases h1
        obtain rfl : v = Value.ref p := rx
        have g : DGet H p (kV k) (some v') := by rw [← h4]; exact DGet.k hp
        exact tail_any (dict_typeIs I g) PySem.F.slot_dict_getitem.lookup (d_getItem (by omega) I g ry fun w' s' I' rw' => ⟨v', H, I', rw', q _ _ _ (new_same e r)⟩) hs
    · cases hf
  | _ => cases b <;> cases hf
end
end Gal
set_option Elab.async false
set_option linter.all false
set_option maxRecDepth 100000
/-! G6: built-in calls on data. -/
namespace Gal
open PySem L2 PyProof.Rows
def rc1 (S : Stc) (f : D → OD) : List V → Hp → VK → Prop := fun xs H Q => ∃ x, xs = [x] ∧ r1 S f x H Q
def rc2 (S : Stc) (f : D → D → OD) : List V → Hp → VK → Prop := fun xs H Q => ∃ x y, xs = [x, y] ∧ r2 S f x y H Q
theorem ints_rep {S : Stc} {B : Hp} : ∀ {vs : List V} {ds : List D} {ns : List Int}, Reps S B vs ds → intsD ds = some ns → vs = ns.map V.int
  | _, _, _, .nil, h => by cases h; rfl
  | _, _, _, .cons (d := d) (ds := ds) r rs, h => by
    cases d with
    | int i =>
      obtain ⟨ms, h1, h2⟩ := map_some (x := intsD ds) h
      cases h2
      cases r
      rw [ints_rep rs h1]
      rfl
    | _ => cases h
theorem bools_rep {S : Stc} {B : Hp} : ∀ {vs : List V} {ds : List D} {ns : List Bool}, Reps S B vs ds → boolsD ds = some ns → vs = ns.map V.bl
  | _, _, _, .nil, h => by cases h; rfl
  | _, _, _, .cons (d := d) (ds := ds) r rs, h => by
    cases d with
    | bl i =>
      obtain ⟨ms, h1, h2⟩ := map_some (x := boolsD ds) h
      cases h2
      cases r
      rw [bools_rep rs h1]
      rfl
    | _ => cases h
theorem strs_rep {S : Stc} {B : Hp} : ∀ {vs : List V} {ds : List D} {ns : List (List Nat)}, Reps S B vs ds → strsD ds = some ns → vs = (ns.map mkS).map V.str ∧ ∀ x ∈ ns, StrOk x
  | _, _, _, .nil, h => by cases h; exact ⟨rfl, fun x hx => absurd hx (by simp)⟩
  | _, _, _, .cons (d := d) (ds := ds) r rs, h => by
    cases d with
    | str i =>
      obtain ⟨ms, h1, h2⟩ := map_some (x := strsD ds) h
      cases h2
      cases r with
      | str _ k =>
        obtain ⟨e1, e2⟩ := strs_rep rs h1
        rw [e1]
        refine ⟨rfl, fun x hx => ?_⟩
        rcases List.mem_cons.mp hx with rfl | hx
        · exact k
        · exact e2 x hx
    | _ => cases h
section
variable {S : Stc} {X : Cx}
theorem ok_neg : UnR X (unaryOp .USub) (r1 S negD) := by
  intro pins s σ H x v Q I rx h
  obtain ⟨B, a, w, d, e, ra, hf, q⟩ := h
  cases a with
  | int i =>
    cases hf
    exact un_neg pins s σ H x v Q I rx ⟨i, ra.int, q _ _ _ (new_same e (.int _))⟩
  | _ => cases hf
theorem ok_len (hK : X.K = S.K) : CallR X (.builtin "len") (rc1 S lenD) := by
  intro pins s σ H xs us Q I rx h
  obtain ⟨x, rfl, B, a, w, d, e, ra, hf, q⟩ := h
  cases a with
  | lst ds =>
    cases hf
    obtain ⟨p, vs, rfl, hp, rs⟩ := ra.lst e
    refine call_len_seq pins s σ H _ us Q I rx ⟨p, vs, rfl, .inl (sqL_of hp), ?_⟩
    rw [rs.length]
    exact q _ _ _ (new_same e (.int _))
  | tup ds =>
    cases hf
    obtain ⟨p, vs, rfl, _, hp, rs⟩ := ra.tup e
    refine call_len_seq pins s σ H _ us Q I rx ⟨p, vs, rfl, .inr (sqT_of hp), ?_⟩
    rw [rs.length]
    exact q _ _ _ (new_same e (.int _))
  | scr ns =>
    cases hf
    obtain ⟨p, rfl, hp⟩ := ra.scr e
    refine call_len_seq pins s σ H _ us Q I rx ⟨p, _, rfl, .inl (hK ▸ hp), ?_⟩
    rw [List.length_map]
    exact q _ _ _ (new_same e (.int _))
  | str z =>
    cases hf
    obtain ⟨rfl, k⟩ := ra.str
    refine call_len_str pins s σ H _ us Q I rx ⟨_, rfl, by rw [mkS_length, lim_eq]; exact k.2, ?_⟩
    rw [mkS_length]
    exact q _ _ _ (new_same e (.int _))
  | _ => cases hf
theorem int_sign {c : Nat} (h : 48 ≤ c ∧ c ≤ 57) : intText? (mkS [c]) = some ((c : Int) - 48) := by
  have hn : c - 48 < 10 := by omega
  have e : mkS [c] = Str.ofString (toString ((c - 48 : Nat) : Int)) := by
    apply TL.ext_tl
    rw [TL.tl_num, TL.numL_lt hn]
    show [c] = _
    congr 1
    omega
  rw [e, TL.int_num (by rw [TL.numL_lt hn]; simp)]
  congr 1
  omega
theorem ok_int : CallR X (.type "int") (rc1 S intD) := by
  intro pins s σ H xs us Q I rx h
  obtain ⟨x, rfl, B, a, w, d, e, ra, hf, q⟩ := h
  cases a with
  | int i =>
    cases hf
    exact call_int1 pins s σ H _ us Q I rx (.inl ⟨i, by rw [ra.int], q _ _ _ (new_same e (.int _))⟩)
  | bl b =>
    cases hf
    exact call_int1 pins s σ H _ us Q I rx (.inr ⟨b, by rw [ra.bl], q _ _ _ (new_same e (.int _))⟩)
  | str z =>
    match z, hf, ra with
    | [c], hf, ra =>
      have hf : (if 48 ≤ c ∧ c ≤ 57 then i_ ((c : Int) - 48) else none) = some (w, d) := hf
      split at hf
      · rename_i hc
        cases hf
        refine call_int_str pins s σ H _ us Q I rx ⟨_, _, by rw [ra.str.1], int_sign hc, ?_, q _ _ _ (new_same e (.int _))⟩
        rw [mkS_length]
        exact (by decide : 1 ≤ 640)
      · cases hf
    | [], hf, _ => cases hf
    | _ :: _ :: _, hf, _ => cases hf
  | _ => cases hf
theorem numS_eq (i : Int) : Str.ofString (toString i) = mkS (numS i) := by
  apply TL.ext_tl
  cases i with
  | ofNat n =>
    show TL.tl (Str.ofString (toString ((n : Nat) : Int))) = numS (n : Int)
    rw [TL.tl_num]
    unfold numS
    rw [if_neg (by omega)]
    rfl
  | negSucc n =>
    have h1 := TL.tl_num (n + 1)
    rw [TL.tl_ofString] at h1 ⊢
    have e1 : toString (Int.negSucc n) = "-" ++ toString (n + 1) := rfl
    have e2 : toString ((n + 1 : Nat) : Int) = toString (n + 1) := rfl
    rw [e2] at h1
    rw [e1, String.toList_append, List.map_append, h1]
    show _ = numS (Int.negSucc n)
    unfold numS
    rw [if_pos (Int.negSucc_lt_zero n)]
    rfl
theorem numS_ok {i : Int} (h : i.natAbs.log2 < 1920) : StrOk (numS i) ∧ (numS i).length ≤ 1921 := by
  have h1 : i.natAbs < 2 ^ 1920 := by
    by_cases h0 : i.natAbs = 0
    · rw [h0]; exact Nat.two_pow_pos _
    · exact (Nat.log2_lt h0).mp h
  have h2 : i.natAbs < 10 ^ 1920 := Nat.lt_of_lt_of_le h1 (Nat.pow_le_pow_left (by decide) _)
  have h3 := TL.numL_len (by decide : 0 < 1920) h2
  have hl : (numS i).length ≤ 1921 := by
    unfold numS
    split <;> simp <;> omega
  refine ⟨⟨fun c hc => ?_, ?_⟩, hl⟩
  · unfold numS at hc
    have : c = 45 ∨ c ∈ TL.numL i.natAbs := by
      split at hc
      · rcases List.mem_append.mp hc with h | h
        · exact .inl (by simpa using h)
        · exact .inr h
      · exact .inr (by simpa using hc)
    rcases this with rfl | h
    · decide
    · have : ¬ (c < 48 ∨ 57 < c) := fun z => TL.numL_free z h
      omega
  · exact Nat.le_trans hl (by decide)
theorem ok_str : CallR X (.type "str") (rc1 S strD) := by
  intro pins s σ H xs us Q I rx h
  obtain ⟨x, rfl, B, a, w, d, e, ra, hf, q⟩ := h
  cases a with
  | int i =>
    have hf : (if i.natAbs.log2 < 1920 then some (false, D.str (numS i)) else none) = some (w, d) := hf
    split at hf
    · rename_i hc
      cases hf
      refine call_str_int pins s σ H _ us Q I rx ⟨i, by rw [ra.int], hc, ?_⟩
      rw [numS_eq]
      exact q _ _ _ (new_same e (.str _ (numS_ok hc).1))
    · cases hf
  | _ => cases hf
theorem ok_abs : CallR X (.builtin "abs") (rc1 S absD) := by
  intro pins s σ H xs us Q I rx h
  obtain ⟨x, rfl, B, a, w, d, e, ra, hf, q⟩ := h
  cases a with
  | int i =>
    cases hf
    exact call_abs pins s σ H _ us Q I rx ⟨i, by rw [ra.int], q _ _ _ (new_same e (.int _))⟩
  | _ => cases hf
theorem ok_max (hc : X.calm = true) : CallR X (.builtin "max") (rc2 S maxD) := by
  intro pins s σ H xs us Q I rx h
  obtain ⟨x, y, rfl, B, a, b, w, d, e, ra, rb, hf, q⟩ := h
  cases a with
  | int i =>
    cases b with
    | int j =>
      cases hf
      exact call_max2 hc pins s σ H _ us Q I rx ⟨i, j, by rw [ra.int, rb.int], q _ _ _ (new_same e (.int _))⟩
    | _ => cases hf
  | _ => cases hf
theorem ok_min (hc : X.calm = true) : CallR X (.builtin "min") (rc2 S minD) := by
  intro pins s σ H xs us Q I rx h
  obtain ⟨x, y, rfl, B, a, b, w, d, e, ra, rb, hf, q⟩ := h
  cases a with
  | int i =>
    cases b with
    | int j =>
      cases hf
      exact call_min2 hc pins s σ H _ us Q I rx ⟨i, j, by rw [ra.int, rb.int], q _ _ _ (new_same e (.int _))⟩
    | _ => cases hf
  | _ => cases hf
theorem ok_sum (hK : X.K = S.K) (hc : X.calm = true) : CallR X (.builtin "sum") (rc1 S sumD) := by
  intro pins s σ H xs us Q I rx h
  obtain ⟨x, rfl, B, a, w, d, e, ra, hf, q⟩ := h
  cases a with
  | lst ds =>
    obtain ⟨p, vs, rfl, hp, rs⟩ := ra.lst e
    have hf : (match intsD ds with | some ns => i_ ns.sum | none => none) = some (w, d) := hf
    cases k : intsD ds with
    | none => rw [k] at hf; cases hf
    | some ns =>
      rw [k] at hf
      cases hf
      exact cr_sum hc pins s σ H _ us Q I rx ⟨p, ns, rfl, by rw [← ints_rep rs k]; exact sqL_of hp, q _ _ _ (new_same e (.int _))⟩
  | scr ns =>
    cases hf
    obtain ⟨p, rfl, hp⟩ := ra.scr e
    exact cr_sum hc pins s σ H _ us Q I rx ⟨p, ns, rfl, hK ▸ hp, q _ _ _ (new_same e (.int _))⟩
  | _ => cases hf
theorem ok_all (hc : X.calm = true) : CallR X (.builtin "all") (rc1 S (allD true)) := by
  intro pins s σ H xs us Q I rx h
  obtain ⟨x, rfl, B, a, w, d, e, ra, hf, q⟩ := h
  cases a with
  | lst ds =>
    obtain ⟨p, vs, rfl, hp, rs⟩ := ra.lst e
    have hf : (match boolsD ds with | some bs => b_ (if true then bs.all id else bs.any id) | none => none) = some (w, d) := hf
    cases k : boolsD ds with
    | none => rw [k] at hf; cases hf
    | some bs =>
      rw [k] at hf
      cases hf
      exact cr_all hc pins s σ H _ us Q I rx ⟨p, bs, rfl, by rw [← bools_rep rs k]; exact sqL_of hp, q _ _ _ (new_same e (.bl _))⟩
  | _ => cases hf
theorem ok_any (hc : X.calm = true) : CallR X (.builtin "any") (rc1 S (allD false)) := by
  intro pins s σ H xs us Q I rx h
  obtain ⟨x, rfl, B, a, w, d, e, ra, hf, q⟩ := h
  cases a with
  | lst ds =>
    obtain ⟨p, vs, rfl, hp, rs⟩ := ra.lst e
    have hf : (match boolsD ds with | some bs => b_ (if false then bs.all id else bs.any id) | none => none) = some (w, d) := hf
    cases k : boolsD ds with
    | none => rw [k] at hf; cases hf
    | some bs =>
      rw [k] at hf
      cases hf
      exact cr_any hc pins s σ H _ us Q I rx ⟨p, bs, rfl, by rw [← bools_rep rs k]; exact sqL_of hp, q _ _ _ (new_same e (.bl _))⟩
  | _ => cases hf
theorem reps_ints {B : Hp} : ∀ ns : List Int, Reps S B (ns.map V.int) (ns.map D.int)
  | [] => .nil
  | n :: r => .cons (.int n) (reps_ints r)
theorem ok_list (hK : X.K = S.K) : CallR X (.type "list") (rc1 S listD) := by
  intro pins s σ H xs us Q I rx h
  obtain ⟨x, rfl, B, a, w, d, e, ra, hf, q⟩ := h
  cases a with
  | lst ds =>
    cases hf
    obtain ⟨p, vs, rfl, hp, rs⟩ := ra.lst e
    exact call_list_of pins s σ H _ us Q I rx ⟨p, vs, rfl, .inl (sqL_of hp), fun l hl => q _ _ _ (new_lst e hl rs)⟩
  | tup ds =>
    cases hf
    obtain ⟨p, vs, rfl, _, hp, rs⟩ := ra.tup e
    exact call_list_of pins s σ H _ us Q I rx ⟨p, vs, rfl, .inr (sqT_of hp), fun l hl => q _ _ _ (new_lst e hl rs)⟩
  | scr ns =>
    cases hf
    obtain ⟨p, rfl, hp⟩ := ra.scr e
    exact call_list_of pins s σ H _ us Q I rx ⟨p, _, rfl, .inl (by rw [hK]; exact hp), fun l hl => q _ _ _ (new_lst e hl (reps_ints ns))⟩
  | _ => cases hf
theorem ok_tuple : CallR X (.type "tuple") (rc1 S tupleD) := by
  intro pins s σ H xs us Q I rx h
  obtain ⟨x, rfl, B, a, w, d, e, ra, hf, q⟩ := h
  cases a with
  | lst ds =>
    cases hf
    obtain ⟨p, vs, rfl, hp, rs⟩ := ra.lst e
    exact call_tuple_of pins s σ H _ us Q I rx ⟨p, vs, rfl, .inl ⟨sqL_of hp, fun l hl => q _ _ _ (new_tup e hl rs)⟩⟩
  | tup ds =>
    cases hf
    obtain ⟨p, vs, rfl, hb, hp, rs⟩ := ra.tup e
    exact call_tuple_of pins s σ H _ us Q I rx ⟨p, vs, rfl, .inr ⟨sqT_of hp, q _ _ _ (new_same e (.tup hb rs))⟩⟩
  | _ => cases hf
/-! ### truth -/
def rt_ (S : Stc) : V → Hp → (Bool → Hp → Prop) → Prop := fun x H Q => ∃ B a b, Ex B H ∧ DR S B H x a ∧ truD a = some b ∧ Q b H
theorem ok_tru : TruR X (rt_ S) := by
  intro pins s σ H x v Q I rx h
  obtain ⟨B, a, b, e, ra, hf, q⟩ := h
  refine tru_ok pins s σ H x v Q I rx ⟨b, ?_, q⟩
  cases a with
  | non => cases hf; rw [ra.non]; rfl
  | bl _ => cases hf; rw [ra.bl]; rfl
  | int _ => cases hf; rw [ra.int]; rfl
  | str z =>
    cases hf
    obtain ⟨rfl, k⟩ := ra.str
    refine ⟨by rw [mkS_length, lim_eq]; exact k.2, ?_⟩
    rw [mkS_length]
    cases z with
    | nil => rfl
    | cons c r => 
      show true = (((r.length + 1 : Nat) : Int) != 0)
      symm
      rw [bne_iff_ne]
      omega
  | lst ds =>
    cases hf
    obtain ⟨p, vs, rfl, hp, rs⟩ := ra.lst e
    exact .inl ⟨vs, sqL_of hp, by cases rs <;> rfl⟩
  | tup ds =>
    cases hf
    obtain ⟨p, vs, rfl, _, hp, rs⟩ := ra.tup e
    exact .inr (.inl ⟨vs, sqT_of hp, by cases rs <;> rfl⟩)
  | _ => cases hf
/-! ### slices -/
def rs_ (S : Stc) : V → Option Int → Option Int → Hp → VK → Prop := fun x lo hi H Q => ∃ B a w d, Ex B H ∧ DR S B H x a ∧ sliceD lo hi a = some (w, d) ∧ ∀ v B' H', NewR S B H w d v B' H' → Q v H'
theorem cutD_length {α : Type} (xs : List α) (lo hi : Option Int) : (cutD xs lo hi).length ≤ xs.length := by
  unfold cutD
  rw [List.length_take, List.length_drop]
  omega
theorem cutD_mem {α : Type} {xs : List α} {lo hi : Option Int} {x : α} (h : x ∈ cutD xs lo hi) : x ∈ xs := List.mem_of_mem_drop (List.mem_of_mem_take h)
theorem cutD_map {α β : Type} (f : α → β) (xs : List α) (lo hi : Option Int) : cutD (xs.map f) lo hi = (cutD xs lo hi).map f := by
  unfold cutD
  rw [List.length_map, ← List.map_drop, ← List.map_take]
theorem ok_slice (hK : X.K = S.K) : L2.SlR X (rs_ S) := by
  intro pins s σ H x v vl vu lo hi sl Q I rx hs pl pu h
  obtain ⟨B, a, w, d, e, ra, hf, q⟩ := h
  cases a with
  | lst ds =>
    cases hf
    obtain ⟨p, vs, rfl, hp, rs⟩ := ra.lst e
    refine sl_list pins s σ H _ v vl vu lo hi sl Q I rx hs pl pu ⟨p, vs, rfl, sqL_of hp, fun l hl => q _ _ _ (new_lst e hl ?_)⟩
    unfold cutV cutD
    rw [rs.length]
    exact (rs.drop _).take _
  | scr ns =>
    cases hf
    obtain ⟨p, rfl, hp⟩ := ra.scr e
    refine sl_list pins s σ H _ v vl vu lo hi sl Q I rx hs pl pu ⟨p, _, rfl, hK ▸ hp, fun l hl => q _ _ _ (new_lst e hl ?_)⟩
    have : cutV (ns.map V.int) lo hi = (cutD ns lo hi).map V.int := cutD_map V.int ns lo hi
    rw [this]
    exact reps_ints _
  | str z =>
    cases hf
    obtain ⟨rfl, k⟩ := ra.str
    refine sl_str pins s σ H _ v vl vu lo hi sl Q I rx hs pl pu ⟨_, rfl, by rw [mkS_length, lim_eq]; exact k.2, ?_⟩
    have : cutS (mkS z) lo hi = mkS (cutD z lo hi) := by
      unfold cutS cutD
      rw [mkS_length]
    rw [this]
    exact q _ _ _ (new_same e (.str _ ⟨fun c hc => k.1 c (cutD_mem hc), Nat.le_trans (cutD_length _ _ _) k.2⟩))
  | _ => cases hf
end
end Gal
set_option Elab.async false
set_option linter.all false
set_option maxRecDepth 100000
/-! G7: built-in methods on data. -/
namespace Gal
open PySem L2 PyProof.Rows
theorem take1 {s : List Nat} {i : Nat} (h : i < s.length) : (s.drop i).take 1 = [s[i]] := by
  rw [List.drop_eq_getElem_cons h]
  rfl
theorem at_sign {s : List Nat} {c i : Nat} : StrLaws.At (mkS s) (mkS [c]) (mkS s).length i ↔ s[i]? = some c := by
  unfold StrLaws.At
  rw [StrLaws.subAt_eq]
  have h1 : (mkS [c]).length = 1 := rfl
  rw [h1, mkS_length, beq_iff_eq]
  show i + 1 ≤ s.length ∧ (s.drop i).take 1 = [c] ↔ _
  constructor
  · rintro ⟨h, e⟩
    rw [take1 (by omega)] at e
    rw [List.getElem?_eq_getElem (by omega)]
    injection e with e _
    rw [e]
  · intro e
    obtain ⟨h, e'⟩ := List.getElem?_eq_some_iff.mp e
    refine ⟨by omega, ?_⟩
    rw [take1 h, e']
theorem find_none {s : List Nat} {c : Nat} (h : ∀ i : Nat, s[i]? ≠ some c) : s.findIdx? (fun x => x == c) = none := by
  rw [List.findIdx?_eq_none_iff]
  intro x hx
  obtain ⟨i, hi⟩ := List.mem_iff_getElem?.mp hx
  have : x ≠ c := fun e => h i (e ▸ hi)
  simpa using this
theorem find_some {s : List Nat} {c i : Nat} (h : s[i]? = some c) (n : ∀ k, k < i → s[k]? ≠ some c) : s.findIdx? (fun x => x == c) = some i := by
  obtain ⟨hl, e⟩ := List.getElem?_eq_some_iff.mp h
  rw [List.findIdx?_eq_some_iff_getElem]
  refine ⟨hl, by simp [e], fun j hj => ?_⟩
  have := n j hj
  rw [List.getElem?_eq_getElem (by omega)] at this
  simpa using this
theorem find_txt (s : List Nat) (c : Nat) : Txt.find (mkS s) (mkS [c]) = findC s c := by
  unfold Txt.find findC
  rcases StrLaws.occ_head (mkS s) (mkS [c]) 1 (Nat.le_refl _) with ⟨h, n⟩ | ⟨i, r, h, hi, n⟩
  · rw [h, find_none fun i q => n i (at_sign.mpr q)]
  · rw [h, find_some (at_sign.mp hi) fun k hk q => n k hk (at_sign.mpr q)]
theorem count_go (s : List Nat) (c limit : Nat) : ∀ (k a : Nat) (acc : Array Nat) (free : Nat), free ≤ a → a + k = s.length + 1 → acc.size + k ≤ limit →
    (forIn (m := Id) (List.range' a k) (acc, free) (StrLaws.occBody (mkS s) (mkS [c]) (mkS s).length limit)).run.fst.size = acc.size + (s.drop a).count c
  | 0, a, acc, free, _, h, _ => by
    rw [List.drop_eq_nil_of_le (by omega)]
    simp
  | k + 1, a, acc, free, hf, h, hl => by
    rw [List.range'_succ, List.forIn_cons]
    unfold StrLaws.occBody
    by_cases q : s[a]? = some c
    · have ha := at_sign.mpr q
      rw [if_pos ⟨⟨⟨(by omega : acc.size < limit), hf⟩, ha.1⟩, ha.2⟩]
      have e := count_go s c limit k (a + 1) (acc.push a) (a + 1) (Nat.le_refl _) (by omega) (by rw [Array.size_push]; omega)
      obtain ⟨hl', e'⟩ := List.getElem?_eq_some_iff.mp q
      rw [List.drop_eq_getElem_cons hl', List.count_cons, e']
      rw [Array.size_push] at e
      simp only [beq_self_eq_true, if_true]
      refine Eq.trans e ?_
      omega
    · rw [if_neg fun z => q (at_sign.mp ⟨z.1.2, z.2⟩)]
      have e := count_go s c limit k (a + 1) acc free (by omega) (by omega) (by omega)
      refine Eq.trans e ?_
      by_cases hl' : a < s.length
      · rw [List.drop_eq_getElem_cons hl', List.count_cons]
        have : (s[a] == c) = false := by
          rw [List.getElem?_eq_getElem hl'] at q
          simpa using q
        rw [this]
        simp
      · rw [List.drop_eq_nil_of_le (by omega), List.drop_eq_nil_of_le (by omega)]
theorem count_txt (s : List Nat) (c : Nat) : Txt.count (mkS s) (mkS [c]) = ((s.count c : Nat) : Int) := by
  unfold Txt.count
  rw [StrLaws.occ_eq, Array.length_toList, mkS_length]
  have h := count_go s c (s.length + 1) (s.length + 1) 0 #[] 0 (Nat.le_refl _) (by omega) (by simp)
  rw [mkS_length] at h
  rw [show s.length + 1 - 0 = s.length + 1 from rfl, h]
  simp
theorem ends_txt (s : List Nat) (c : Nat) : Txt.endswith (mkS s) (mkS [c]) = lastIs s c := by
  unfold Txt.endswith
  rw [StrLaws.subAt_eq, mkS_length]
  rw [mkS_length]
  show (decide (0 + 1 ≤ s.length) && ((s.drop (s.length - 1)).take 1 == [c])) = _
  unfold lastIs
  by_cases h : s = []
  · subst h; rfl
  · have hl : 0 < s.length := List.length_pos_iff.mpr h
    rw [List.getLast?_eq_getElem?, List.getElem?_eq_getElem (by omega), take1 (by omega)]
    rw [decide_eq_true (by omega)]
    simp
theorem spl_ok (S : List Nat) : ∀ (l : List Nat) (k : Nat) (acc : List Nat) (p : List Nat), p ∈ TL.spl S k acc l → (∀ c ∈ p, c ∈ acc ∨ c ∈ l) ∧ p.length ≤ acc.length + l.length
  | [], _, acc, p, h => by
    have : p = acc := by
      unfold TL.spl at h
      simpa using h
    subst this
    exact ⟨fun c hc => .inl hc, by simp⟩
  | c :: r, 0, acc, p, h => by
    unfold TL.spl at h
    split at h
    · rcases List.mem_cons.mp h with rfl | h
      · exact ⟨fun c hc => .inl hc, by simp⟩
      · obtain ⟨a, b⟩ := spl_ok S r _ _ p h
        refine ⟨fun x hx => ?_, ?_⟩
        · rcases a x hx with z | z
          · cases z
          · exact .inr (List.mem_cons_of_mem _ z)
        · simp at b ⊢; omega
    · obtain ⟨a, b⟩ := spl_ok S r _ _ p h
      refine ⟨fun x hx => ?_, ?_⟩
      · rcases a x hx with z | z
        · rcases List.mem_append.mp z with z | z
          · exact .inl z
          · exact .inr (by simp at z; simp [z])
        · exact .inr (List.mem_cons_of_mem _ z)
      · simp at b ⊢; omega
  | c :: r, k + 1, acc, p, h => by
    unfold TL.spl at h
    obtain ⟨a, b⟩ := spl_ok S r _ _ p h
    refine ⟨fun x hx => ?_, ?_⟩
    · rcases a x hx with z | z
      · exact .inl z
      · exact .inr (List.mem_cons_of_mem _ z)
    · simp at b ⊢; omega
theorem split_txt {s : List Nat} {c : Nat} (h : c < 256) : Txt.split (mkS s) (mkS [c]) = (TL.spl [c] 0 [] s).map mkS := by
  refine TL.map_tl_inj ?_
  rw [TL.split_spl (mkS s) (mkS [c]) (by intro z; cases z) (TL.kind_ok (by simp [mkS, h]))]
  rw [List.map_map]
  show TL.spl [c] 0 [] s = _
  rw [show (TL.tl ∘ mkS) = id from funext fun x => rfl, List.map_id]
theorem join_txt (a : List Nat) (ys : List (List Nat)) : Txt.join (mkS a) (ys.map mkS) = mkS (TL.joinL a ys) := by
  have e := TL.tl_join (mkS a) (ys.map mkS)
  rw [List.map_map, show (TL.tl ∘ mkS) = id from funext fun x => rfl, List.map_id] at e
  exact TL.ext_tl ((congrArg TL.tl (TL.join_eq (mkS a) (ys.map mkS))).trans e)
theorem joinL_ok (a : List Nat) : ∀ ys : List (List Nat), (∀ c ∈ TL.joinL a ys, c ∈ a ∨ ∃ y ∈ ys, c ∈ y) ∧ (TL.joinL a ys).length ≤ (ys.map (·.length)).sum + ys.length * a.length
  | [] => ⟨fun c hc => absurd hc (by simp [TL.joinL]), by simp [TL.joinL]⟩
  | [p] => ⟨fun c hc => .inr ⟨p, by simp, hc⟩, by simp [TL.joinL]⟩
  | p :: q :: r => by
    obtain ⟨h1, h2⟩ := joinL_ok a (q :: r)
    refine ⟨fun c hc => ?_, ?_⟩
    · have hc : c ∈ p ++ (a ++ TL.joinL a (q :: r)) := hc
      rcases List.mem_append.mp hc with z | z
      · exact .inr ⟨p, by simp, z⟩
      · rcases List.mem_append.mp z with z | z
        · exact .inl z
        · rcases h1 c z with z | ⟨y, hy, z⟩
          · exact .inl z
          · exact .inr ⟨y, List.mem_cons_of_mem _ hy, z⟩
    · show (p ++ (a ++ TL.joinL a (q :: r))).length ≤ _
      rw [List.length_append, List.length_append, List.map_cons, List.sum_cons, List.length_cons, Nat.succ_mul]
      omega
theorem one1_eq {f : Nat → OD} {y : D} {w : Bool} {d : D} (h : one1 f y = some (w, d)) : ∃ c, y = .str [c] ∧ f c = some (w, d) := by
  cases y with
  | str s =>
    match s, h with
    | [c], h => exact ⟨c, rfl, h⟩
    | [], h => cases h
    | _ :: _ :: _, h => cases h
  | _ => cases h
def rm1 (S : Stc) (f : D → D → OD) : V → List V → Hp → VK → Prop := fun x xs H Q => ∃ y, xs = [y] ∧ r2 S f x y H Q
def mtF : Mt → D → D → OD := fun m x y => mtD m x [y]
theorem drOf1 {S : Stc} {B H : Hp} {vs : List V} {ds : List D} (h : DRs S B H vs ds) {d : D} (e : ds = [d]) : ∃ v, vs = [v] ∧ DR S B H v d := by
  subst e
  cases h with
  | cons r t => cases t; exact ⟨_, rfl, r⟩
section
variable {S : Stc} {X : Cx}
theorem ok_find : MtR X "str.find" (rm1 S (fun x y => if mtT .sFind x then mtF .sFind x y else none)) := by
  intro pins s σ H x xs v us Q I rx rs h
  obtain ⟨y, rfl, B, a, b, w, d, e, ra, rb, hf, q⟩ := h
  cases a with
  | str z =>
    obtain ⟨c, rfl, h2⟩ := one1_eq (f := fun c => i_ (findC z c)) hf
    cases h2
    refine mt_find pins s σ H x _ v us Q I rx rs ⟨_, _, ra.str.1, by rw [rb.str.1], ?_⟩
    rw [find_txt]
    exact q _ _ _ (new_same e (.int _))
  | _ => cases hf
theorem ok_count : MtR X "str.count" (rm1 S (fun x y => if mtT .sCount x then mtF .sCount x y else none)) := by
  intro pins s σ H x xs v us Q I rx rs h
  obtain ⟨y, rfl, B, a, b, w, d, e, ra, rb, hf, q⟩ := h
  cases a with
  | str z =>
    obtain ⟨c, rfl, h2⟩ := one1_eq (f := fun c => i_ (z.count c : Nat)) hf
    cases h2
    refine mt_count pins s σ H x _ v us Q I rx rs ⟨_, _, ra.str.1, by rw [rb.str.1], ?_⟩
    rw [count_txt]
    exact q _ _ _ (new_same e (.int _))
  | _ => cases hf
theorem ok_ends : MtR X "str.endswith" (rm1 S (fun x y => if mtT .sEnds x then mtF .sEnds x y else none)) := by
  intro pins s σ H x xs v us Q I rx rs h
  obtain ⟨y, rfl, B, a, b, w, d, e, ra, rb, hf, q⟩ := h
  cases a with
  | str z =>
    obtain ⟨c, rfl, h2⟩ := one1_eq (f := fun c => b_ (lastIs z c)) hf
    cases h2
    refine mt_endswith pins s σ H x _ v us Q I rx rs ⟨_, _, ra.str.1, by rw [rb.str.1], ?_⟩
    rw [ends_txt]
    exact q _ _ _ (new_same e (.bl _))
  | _ => cases hf
theorem strs_reps {B : Hp} : ∀ {ys : List (List Nat)}, (∀ y ∈ ys, StrOk y) → Reps S B ((ys.map mkS).map V.str) (ys.map D.str)
  | [], _ => .nil
  | y :: r, h => .cons (.str y (h y (List.mem_cons_self ..))) (strs_reps fun z hz => h z (List.mem_cons_of_mem _ hz))
theorem ok_split : MtR X "str.split" (rm1 S (fun x y => if mtT .sSplit x then mtF .sSplit x y else none)) := by
  intro pins s σ H x xs v us Q I rx rs h
  obtain ⟨y, rfl, B, a, b, w, d, e, ra, rb, hf, q⟩ := h
  cases a with
  | str z =>
    cases b with
    | str u =>
      match u, hf, rb with
      | [c], hf, rb =>
        have hf : (if c < 256 ∧ z.length + 2 ≤ LIM then some (true, D.lst ((TL.spl [c] 0 [] z).map D.str)) else none) = some (w, d) := hf
        split at hf
        · rename_i hc
          cases hf
          refine mt_split pins s σ H x _ v us Q I rx rs ⟨_, _, ra.str.1, by rw [rb.str.1], rfl, by rw [mkS_length, lim_eq]; exact hc.2, fun p hp => ?_⟩
          rw [split_txt hc.1]
          refine q _ _ _ (new_lst e hp (strs_reps fun y hy => ?_))
          obtain ⟨h1, h2⟩ := spl_ok [c] z 0 [] y hy
          exact ⟨fun c' hc' => (h1 c' hc').elim (fun q => nomatch q) (ra.str.2.1 c'), by have := ra.str.2.2; simp at h2; omega⟩
        · cases hf
      | [], hf, _ => cases hf
      | _ :: _ :: _, hf, _ => cases hf
    | _ => cases hf
  | _ => cases hf
theorem ok_join : MtR X "str.join" (rm1 S (fun x y => if mtT .sJoin x then mtF .sJoin x y else none)) := by
  intro pins s σ H x xs v us Q I rx rs h
  obtain ⟨y, rfl, B, a, b, w, d, e, ra, rb, hf, q⟩ := h
  cases a with
  | str z =>
    cases b with
    | lst ds =>
      have hf : (match strsD ds with
        | some ss => if (ss.map (·.length)).sum + ss.length * z.length ≤ LIM then some (false, D.str (joinS z ss)) else none
        | none => none) = some (w, d) := hf
      cases k : strsD ds with
      | none => rw [k] at hf; cases hf
      | some ss =>
        rw [k] at hf
        have hf : (if (ss.map (·.length)).sum + ss.length * z.length ≤ LIM then some (false, D.str (joinS z ss)) else none) = some (w, d) := hf
        split at hf
        · rename_i hl
          cases hf
          obtain ⟨p, vs, rfl, hp, rs'⟩ := rb.lst e
          obtain ⟨e1, e2⟩ := strs_rep rs' k
          refine mt_join pins s σ H x _ v us Q I rx rs ⟨_, p, ss.map mkS, ra.str.1, rfl, .inl (by rw [← e1]; exact sqL_of hp), ?_, ?_⟩
          · rw [List.map_map, List.length_map, mkS_length]
            have : (ss.map ((fun x : Str => x.length) ∘ mkS)) = ss.map (·.length) := List.map_congr_left fun y _ => mkS_length y
            rw [this]
            exact hl
          · rw [join_txt]
            obtain ⟨j1, j2⟩ := joinL_ok z ss
            refine q _ _ _ (new_same e (.str _ ⟨fun c hc => ?_, Nat.le_trans j2 hl⟩))
            rcases j1 c hc with h | ⟨y, hy, h⟩
            · exact ra.str.2.1 c h
            · exact (e2 y hy).1 c h
        · cases hf
    | _ => cases hf
  | _ => cases hf
theorem idx_rep {B H : Hp} {y : V} {b : D} (e : Ex B H) (rb : DR S B H y b) (fb : flatD b = true) : ∀ {vs : List V} {ds : List D} {j : Nat}, Reps S B vs ds → ds.all flatD = true → ds.findIdx? (fun z => eqD z b) = some j →
    ∃ z, vs[j]? = some z ∧ eqV z y = true ∧ ∀ (m : Nat) (z' : V), m < j → vs[m]? = some z' → eqV z' y = false := by
  intro vs ds j rs fx h
  obtain ⟨hl, h1, h2⟩ := List.findIdx?_eq_some_iff_getElem.mp h
  obtain ⟨z, hz, rz⟩ := rs.get (List.getElem?_eq_getElem hl)
  have fl : ∀ {i : Nat} {d : D}, ds[i]? = some d → flatD d = true := fun hi => List.all_eq_true.mp fx _ (List.mem_of_getElem? hi)
  refine ⟨z, hz, ?_, fun m z' hm hz' => ?_⟩
  · rw [eqV_of (S := S) (B := B) (H := H) (.inl rz) rb (fl (List.getElem?_eq_getElem hl)) fb]
    exact h1
  · obtain ⟨d', hd', rd'⟩ := rs.getV hz'
    rw [eqV_of (S := S) (B := B) (H := H) (.inl rd') rb (fl hd') fb]
    obtain ⟨hl2, e2⟩ := List.getElem?_eq_some_iff.mp hd'
    have := h2 m hm
    rw [e2] at this
    simpa using this
theorem ok_lindex (hK : X.K = S.K) : MtR X "list.index" (fun x xs H Q => (∃ p vs, x = .ref p ∧ H p = some (.lst vs)) ∧ rm1 S (mtF .lIndex) x xs H Q) := by
  intro pins s σ H x xs v us Q I rx rs h
  obtain ⟨⟨p0, vs0, rfl, hp0⟩, y, rfl, B, a, b, w, d, e, ra, rb, hf, q⟩ := h
  cases a with
  | lst ds =>
    have hf : (if flatD b && ds.all flatD then match ds.findIdx? fun z => eqD z b with | some j => i_ j | none => none else none) = some (w, d) := hf
    split at hf
    · rename_i hc
      obtain ⟨h1, h2⟩ := Bool.and_eq_true_iff.mp hc
      cases k : ds.findIdx? fun z => eqD z b with
      | none => rw [k] at hf; cases hf
      | some j =>
        rw [k] at hf
        cases hf
        obtain ⟨p, vs, hx, hp, rs'⟩ := ra.lst e
        cases hx
        obtain ⟨z, hz, ez, nz⟩ := idx_rep e rb h1 rs' h2 k
        have fv : vs.all flatV = true := (inV_of rb h1 rs' h2).1
        exact mt_index pins s σ H _ _ v us Q I rx rs ⟨_, vs, y, j, z, rfl, rfl, sqL_of hp, flat_v h1 rb, fv, hz, ez, nz, q _ _ _ (new_same e (.int _))⟩
    · cases hf
  | str z => cases ra.str.1
  | _ => cases hf
theorem ok_sindex : MtR X "str.index" (fun x xs H Q => (∃ z, x = .str z) ∧ rm1 S (mtF .lIndex) x xs H Q) := by
  intro pins s σ H x xs v us Q I rx rs h
  obtain ⟨⟨z0, rfl⟩, y, rfl, B, a, b, w, d, e, ra, rb, hf, q⟩ := h
  cases a with
  | str z =>
    obtain ⟨c, rfl, h2⟩ := one1_eq (f := fun c => match z.findIdx? (fun x => x == c) with | some i => i_ i | none => none) hf
    obtain ⟨rfl, kz⟩ : z0 = mkS z ∧ StrOk z := by
      obtain ⟨e1, k⟩ := ra.str
      cases e1
      exact ⟨rfl, k⟩
    rcases StrLaws.occ_head (mkS z) (mkS [c]) 1 (Nat.le_refl _) with ⟨h, n⟩ | ⟨i, r, h, hi, n⟩
    · rw [find_none fun i q => n i (at_sign.mpr q)] at h2
      cases h2
    · rw [find_some (at_sign.mp hi) fun k hk q => n k hk (at_sign.mpr q)] at h2
      cases h2
      exact mt_sindex pins s σ H _ _ v us Q I rx rs ⟨_, _, i, r, rfl, by rw [rb.str.1], h, q _ _ _ (new_same e (.int _))⟩
  | lst ds =>
    obtain ⟨p, vs, e1, _⟩ := ra.lst e
    cases e1
  | _ => cases hf
end
end Gal
set_option Elab.async false
set_option linter.all false
set_option maxRecDepth 100000
/-! G8: steps of a run over the heap. -/
namespace Gal
open PySem L2 PyProof.Rows
def ownish : Option Sl → Prop
  | some (.ow _) => True
  | some (.lk _) => True
  | some (.fz _) => True
  | _ => False
/-- a run's part: T, what else was there and may be written -/
structure Po (Γ : Ct) (σ : L2.St) (T : Addr → Prop) (B H : Hp) (e : Env) (B' H' : Hp) (e' : Env) : Prop where
  pst : Pst Γ σ B' H' e'
  stp : Stp (fun p => Own σ e p ∨ T p) B H B' H'
  own : ∀ p, Own σ e' p → Own σ e p
  kp : ∀ i : Nat, i < Γ.np → ownish e[i]? → ownish e'[i]?
  lk : ∀ (i : Nat) d, e[i]? = some (.lk d) → e'[i]? = some (.lk d)
  lh : ∀ (i : Nat) d p o, e[i]? = some (.lk d) → σ[i]? = some (some (.ref p)) → H p = some o → H' p = some o
abbrev noT : Addr → Prop := fun _ => False
/-- the new objects among operands -/
def Tmps (as : List Ar) (vs : List V) (p : Addr) : Prop := ∃ (i : Nat) (a : Ar) (v : V), as[i]? = some a ∧ vs[i]? = some v ∧ Tmp a v p
section
variable {Γ : Ct} {σ : L2.St} {T T1 : Addr → Prop} {B H B1 H1 B2 H2 B' H' : Hp} {e e1 e2 e' : Env}
theorem Po.refl (p : Pst Γ σ B H e) : Po Γ σ T B H e B H e := ⟨p, Stp.refl _ B H, fun _ h => h, fun _ _ h => h, fun _ _ h => h, fun _ _ _ _ _ _ h => h⟩
theorem Po.trans (a : Po Γ σ T B H e B1 H1 e1) (b : Po Γ σ T1 B1 H1 e1 B2 H2 e2) (h : ∀ p, T1 p → T p ∨ H p = none) : Po Γ σ T B H e B2 H2 e2 := by
  refine ⟨b.pst, a.stp.trans b.stp fun p q => ?_, fun p q => a.own p (b.own p q), fun i hi q => b.kp i hi (a.kp i hi q), fun i d q => b.lk i d (a.lk i d q), fun i d p o h1 h2 h3 => b.lh i d p o (a.lk i d h1) h2 (a.lh i d p o h1 h2 h3)⟩
  rcases q with q | q
  · exact .inl (.inl (a.own p q))
  · rcases h p q with z | z
    · exact .inl (.inr z)
    · exact .inr z
theorem Po.then (a : Po Γ σ noT B H e B1 H1 e1) (b : Po Γ σ noT B1 H1 e1 B2 H2 e2) : Po Γ σ noT B H e B2 H2 e2 := a.trans b fun _ h => h.elim
theorem Po.wide (a : Po Γ σ T B H e B1 H1 e1) (h : ∀ p, T p → T1 p) : Po Γ σ T1 B H e B1 H1 e1 := by
  refine ⟨a.pst, ⟨a.stp.b, fun p o q => a.stp.k p o fun z => q (z.imp id (h p)), fun p o q => ?_, a.stp.a⟩, a.own, a.kp, a.lk, a.lh⟩
  rcases a.stp.n p o q with z | z | z
  · exact .inl z
  · exact .inr (.inl z)
  · exact .inr (.inr (z.imp id (h p)))
theorem arR_stepT {a : Ar} {v : V} (h : ArR Γ σ B H e a v) (s : Stp T B H B' H') (hT : ∀ p, Tmp a v p → ¬ T p) (o : ∀ p, Own σ e' p → Own σ e p ∨ H p = none) : ArR Γ σ B' H' e' a v := by
  cases a with
  | r i => exact h
  | v w d =>
    cases w with
    | false => exact Rep.mono s.b h
    | true =>
      obtain ⟨p, hv, hb, r, no⟩ := h
      obtain ⟨u, hu, _⟩ := r.some
      have nT : ¬ T p := hT p hv
      refine ⟨p, hv, ?_, r.mono s.b ((s.k p u nT hu).trans hu.symm), fun q => ?_⟩
      · cases q : B' p with
        | none => rfl
        | some z =>
          rcases s.n p z q with y | y | y
          · rw [hb] at y; cases y
          · rw [hu] at y; cases y
          · exact absurd y nT
      · rcases o p q with y | y
        · exact no y
        · rw [hu] at y; cases y
theorem arsR_stepT {as : List Ar} {vs : List V} (h : ArsR Γ σ B H e as vs) (s : Stp T B H B' H') (hT : ∀ p, Tmps as vs p → ¬ T p) (o : ∀ p, Own σ e' p → Own σ e p ∨ H p = none) : ArsR Γ σ B' H' e' as vs := by
  induction h with
  | nil => exact .nil
  | cons h t n ih => exact .cons (arR_stepT h s (fun p q => hT p ⟨0, _, _, rfl, rfl, q⟩) o) (ih fun p ⟨i, a, v, h1, h2, h3⟩ => hT p ⟨i + 1, a, v, h1, h2, h3⟩) n
theorem tmp_not_own {a : Ar} {v : V} {p : Addr} (h : ArR Γ σ B H e a v) (t : Tmp a v p) : ¬ Own σ e p ∧ B p = none ∧ ∃ o, H p = some o := by
  cases a with
  | r i => exact t.elim
  | v w d =>
    cases w with
    | false => exact t.elim
    | true =>
      obtain ⟨q, hv, hb, r, no⟩ := h
      have : v = .ref p := t
      rw [hv] at this
      cases this
      obtain ⟨o, ho, _⟩ := r.some
      exact ⟨no, hb, o, ho⟩
theorem Po.ar (p : Po Γ σ noT B H e B' H' e') {a : Ar} {v : V} (h : ArR Γ σ B H e a v) : ArR Γ σ B' H' e' a v :=
  arR_stepT h p.stp (fun q t z => z.elim (fun z => (tmp_not_own h t).1 z) fun z => z) fun q z => .inl (p.own q z)
theorem ArsR.get {as : List Ar} {vs : List V} (h : ArsR Γ σ B H e as vs) : ∀ {i : Nat} {a : Ar} {v : V}, as[i]? = some a → vs[i]? = some v → ArR Γ σ B H e a v := by
  induction h with
  | nil => intro i a v h; simp at h
  | cons h t n ih =>
    intro i a v h1 h2
    cases i with
    | zero => simp at h1 h2; subst h1; subst h2; exact h
    | succ i => exact ih (by simpa using h1) (by simpa using h2)
theorem Po.ars (p : Po Γ σ noT B H e B' H' e') {as : List Ar} {vs : List V} (h : ArsR Γ σ B H e as vs) : ArsR Γ σ B' H' e' as vs :=
  arsR_stepT h p.stp (fun q ⟨i, a, v, h1, h2, t⟩ z => z.elim (fun z => (tmp_not_own (h.get h1 h2) t).1 z) fun z => z) fun q z => .inl (p.own q z)
theorem ArsR.length {as : List Ar} {vs : List V} (h : ArsR Γ σ B H e as vs) : as.length = vs.length := by
  induction h with
  | nil => rfl
  | cons _ _ _ ih => exact congrArg Nat.succ ih
/-- new things -/
theorem new_po {w : Bool} {d : D} {v : V} (p : Pst Γ σ B H e) (n : NewR Γ.S B H w d v B' H') : Po Γ σ noT B H e B' H' e ∧ ArR Γ σ B' H' e (.v w d) v ∧ ∀ q, Tmp (.v w d) v q → H q = none := by
  obtain ⟨h1, h2, h3, h4, h5⟩ := n
  refine ⟨⟨p.grow h1 h2 h3 h4, Stp.of_new h1 h2 h4, fun _ h => h, fun _ _ h => h, fun _ _ h => h, fun _ _ p o _ _ h => h2 p o h⟩, ?_, ?_⟩
  · cases w with
    | false => exact h5
    | true =>
      obtain ⟨q, hv, hH, hB, r⟩ := h5
      refine ⟨q, hv, hB, r, fun z => ?_⟩
      obtain ⟨o, ho⟩ := p.own_some z
      rw [hH] at ho
      cases ho
  · intro q t
    cases w with
    | false => exact t.elim
    | true =>
      obtain ⟨q', hv, hH, hB, r⟩ := h5
      have : v = .ref q := t
      rw [hv] at this
      cases this
      exact hH
/-! ### handing on -/
theorem set_get {α : Type} {e : List α} {i j : Nat} {s t : α} (h : (e.set i s)[j]? = some t) : (i = j ∧ t = s) ∨ (i ≠ j ∧ e[j]? = some t) := by
  by_cases q : i = j
  · subst q
    by_cases hl : i < e.length
    · rw [List.getElem?_set_self hl] at h; cases h; exact .inl ⟨rfl, rfl⟩
    · rw [List.getElem?_eq_none (by simpa using Nat.le_of_not_lt hl)] at h; cases h
  · rw [List.getElem?_set_ne q] at h
    exact .inr ⟨q, h⟩
theorem upd_ext {B H : Hp} {p : Addr} {o : HO} (e : Ex B H) (h : H p = some o) : Ex (upd B p o) H := fun a u q => by
  by_cases ha : a = p
  · subst ha; rw [upd_same] at q; cases q; exact h
  · rw [upd_ne ha] at q; exact e a u q
theorem ownAt_set {i j : Nat} {s : Sl} {q : Addr} (hs : ∀ d, s ≠ .ow d ∧ s ≠ .lk d) (h : OwnAt σ (e.set i s) j q) : i ≠ j ∧ OwnAt σ e j q := by
  obtain ⟨⟨d, hd⟩, h2⟩ := h
  rcases hd with hd | hd
  · rcases set_get hd with ⟨_, z⟩ | ⟨z, hd⟩
    · exact absurd z.symm (hs d).1
    · exact ⟨z, ⟨d, .inl hd⟩, h2⟩
  · rcases set_get hd with ⟨_, z⟩ | ⟨z, hd⟩
    · exact absurd z.symm (hs d).2
    · exact ⟨z, ⟨d, .inr hd⟩, h2⟩
theorem frz_not (np i : Nat) (d x : D) : frz np i d ≠ .ow x ∧ frz np i d ≠ .lk x := by
  unfold frz
  split <;> exact ⟨fun h => (by cases h), fun h => (by cases h)⟩
theorem SlR.mono (b : Ex B B') (bh : Ex B' H') {x : Option V} {s : Sl} (k : ∀ p o, (∃ d, s = .ow d ∨ s = .lk d) → x = some (.ref p) → H p = some o → H' p = some o) (n : ∀ p, (∃ d, s = .ow d ∨ s = .lk d) → x = some (.ref p) → B p = none → B' p = none) (r : SlR Γ B H x s) : SlR Γ B' H' x s := by
  cases s with
  | un => trivial
  | va d => obtain ⟨v, hx, r⟩ := r; exact ⟨v, hx, r.mono b⟩
  | fz d => obtain ⟨p, hx, r, o, ho⟩ := r; exact ⟨p, hx, r.mono b, o, b _ _ ho⟩
  | ow d =>
    obtain ⟨p, hx, hb, r⟩ := r
    obtain ⟨o, ho, _⟩ := r.some
    exact ⟨p, hx, n p ⟨d, .inl rfl⟩ hx hb, r.mono b ((k p o ⟨d, .inl rfl⟩ hx ho).trans ho.symm)⟩
  | lk d =>
    obtain ⟨p, hx, hb, r⟩ := r
    obtain ⟨o, ho, _⟩ := r.some
    exact ⟨p, hx, n p ⟨d, .inr rfl⟩ hx hb, r.mono b ((k p o ⟨d, .inr rfl⟩ hx ho).trans ho.symm)⟩
  | ex c fs => obtain ⟨a, cls, d, h1, h2, h3, h4⟩ := r; exact ⟨a, cls, d, h1, h2, h3, h4.imp id fun ⟨dd, gs, e1, e2, e3, r⟩ => ⟨dd, gs, e1, b _ _ e2, bh _ _ (b _ _ e2), r.mono b⟩⟩
/-- the slot's object becomes data -/
theorem freeze_r {i : Nat} {d : D} {p : Addr} (P : Pst Γ σ B H e) (hi : e[i]? = some (.ow d)) (hs : σ[i]? = some (some (.ref p))) :
    ∃ o, H p = some o ∧ Po Γ σ noT B H e (upd B p o) H (e.set i (frz Γ.np i d)) ∧ Rep Γ.S (upd B p o) (.ref p) d := by
  have z := P.sl i _ hi
  rw [hs] at z
  obtain ⟨q, hq, hb, r⟩ := z
  cases hq
  obtain ⟨o, ho, _⟩ := r.some
  have b : Ex B (upd B p o) := Ex.new hb
  have bh : Ex (upd B p o) H := upd_ext P.ext ho
  have rp : Rep Γ.S (upd B p o) (.ref p) d := r.rep (o := o) b (upd_same.trans ho.symm)
  have me : OwnAt σ e i p := ⟨⟨d, .inl hi⟩, hs⟩
  refine ⟨o, ho, ⟨⟨by rw [List.length_set]; exact P.len, bh, fun j s hj => ?_, fun j k q h1 h2 => ?_⟩, ⟨b, fun _ _ _ h => h, fun a u h => ?_, fun _ o h => ⟨o, h⟩⟩, fun q h => ?_, fun j hj h => ?_, fun j d' h => ?_, fun _ _ _ _ _ _ h => h⟩, rp⟩
  · rcases set_get hj with ⟨rfl, rfl⟩ | ⟨ne, hj⟩
    · rw [hs]
      unfold frz
      split
      · exact ⟨p, rfl, rp, o, upd_same⟩
      · exact ⟨_, rfl, rp⟩
    · refine SlR.mono b bh (fun _ _ _ _ h => h) (fun q hd hx hb => ?_) (P.sl j s hj)
      have : q ≠ p := by
        rintro rfl
        obtain ⟨d', hd⟩ := hd
        have hx' : σ[j]? = some (some (.ref q)) := by
          cases y : σ[j]? with
          | none => rw [y] at hx; cases hx
          | some y' => rw [y] at hx; simp at hx; rw [hx]
        refine ne (P.dj i j q me ⟨⟨d', ?_⟩, hx'⟩)
        rcases hd with hd | hd
        · rw [hd] at hj; exact .inl hj
        · rw [hd] at hj; exact .inr hj
      rw [upd_ne this]
      exact hb
  · exact P.dj j k q (ownAt_set (fun x => frz_not _ _ _ x) h1).2 (ownAt_set (fun x => frz_not _ _ _ x) h2).2
  · by_cases ha : a = p
    · subst ha; exact .inr (.inr (.inl ⟨i, me⟩))
    · rw [upd_ne ha] at h; exact .inl h
  · obtain ⟨j, h⟩ := h
    exact ⟨j, (ownAt_set (fun x => frz_not _ _ _ x) h).2⟩
  · by_cases q : i = j
    · subst q
      rw [List.getElem?_set_self (List.getElem?_eq_some_iff.mp hi).1]
      unfold frz
      rw [if_pos hj]
      trivial
    · rw [List.getElem?_set_ne q]; exact h
  · by_cases q : i = j
    · subst q; rw [hi] at h; cases h
    · rw [List.getElem?_set_ne q]; exact h
/-- a new object becomes data -/
theorem freeze_t {d : D} {p : Addr} (P : Pst Γ σ B H e) (hb : B p = none) (r : RepO Γ.S B H p d) (no : ¬ Own σ e p) :
    ∃ o, H p = some o ∧ Po Γ σ (fun q => q = p) B H e (upd B p o) H e ∧ Rep Γ.S (upd B p o) (.ref p) d := by
  obtain ⟨o, ho, _⟩ := r.some
  have b : Ex B (upd B p o) := Ex.new hb
  have bh : Ex (upd B p o) H := upd_ext P.ext ho
  refine ⟨o, ho, ⟨⟨P.len, bh, fun j s hj => ?_, P.dj⟩, ⟨b, fun _ _ _ h => h, fun a u h => ?_, fun _ o h => ⟨o, h⟩⟩, fun _ h => h, fun _ _ h => h, fun _ _ h => h, fun _ _ _ _ _ _ h => h⟩, r.rep (o := o) b (upd_same.trans ho.symm)⟩
  · refine SlR.mono b bh (fun _ _ _ _ h => h) (fun q hd hx hb => ?_) (P.sl j s hj)
    have : q ≠ p := by
      rintro rfl
      obtain ⟨d', hd⟩ := hd
      have hx' : σ[j]? = some (some (.ref q)) := by
        cases y : σ[j]? with
        | none => rw [y] at hx; cases hx
        | some y' => rw [y] at hx; simp at hx; rw [hx]
      refine no ⟨j, ⟨d', ?_⟩, hx'⟩
      rcases hd with hd | hd
      · rw [hd] at hj; exact .inl hj
      · rw [hd] at hj; exact .inr hj
    rw [upd_ne this]
    exact hb
  · by_cases ha : a = p
    · subst ha; exact .inr (.inr (.inr rfl))
    · rw [upd_ne ha] at h; exact .inl h
theorem settle_ok {a : Ar} {v : V} {w : Bool} {d : D} (P : Pst Γ σ B H e) (h : ArR Γ σ B H e a v) (hs : settle Γ.np a e = some (.ok (w, d) e')) : ∃ B', Po Γ σ (Tmp a v) B H e B' H e' ∧ Rep Γ.S B' v d := by
  cases a with
  | v w' d' =>
    cases hs
    cases w with
    | false => exact ⟨B, Po.refl P, h⟩
    | true =>
      obtain ⟨p, hv, hb, r, no⟩ := h
      subst hv
      obtain ⟨o, ho, po, rp⟩ := freeze_t P hb r no
      exact ⟨_, po.wide fun q z => by subst z; rfl, rp⟩
  | r i =>
    have h : σ[i]? = some (some v) := h
    unfold settle at hs
    cases q : e[i]? with
    | none => simp only [q] at hs; cases hs
    | some s =>
      simp only [q] at hs
      have z := P.sl i s q
      rw [h] at z
      cases s with
      | ow x =>
        cases hs
        obtain ⟨p, hp, _⟩ := z
        cases hp
        obtain ⟨o, ho, po, rp⟩ := freeze_r P q h
        exact ⟨_, po.wide fun _ z => z.elim, rp⟩
      | va x =>
        cases hs
        obtain ⟨v', hv, r⟩ := z
        cases hv
        exact ⟨B, Po.refl P, r⟩
      | fz x =>
        cases hs
        obtain ⟨p, hv, r, _⟩ := z
        cases hv
        exact ⟨B, Po.refl P, r⟩
      | _ => cases hs
theorem settles_ok : ∀ {as : List Ar} {vs : List V} {ds : List D} {B : Hp} {e e' : Env}, Pst Γ σ B H e → ArsR Γ σ B H e as vs → settles Γ.np as e = some (.ok ds e') → ∃ B', Po Γ σ (Tmps as vs) B H e B' H e' ∧ Reps Γ.S B' vs ds
  | [], _, _, B, e, e', P, .nil, hs => by cases hs; exact ⟨B, Po.refl P, .nil⟩
  | a :: as, _, ds, B, e, e', P, .cons (v := v) (vs := vs) h t n, hs => by
    unfold settles at hs
    cases q : settle Γ.np a e with
    | none => simp only [q] at hs; cases hs
    | some r =>
      cases r with
      | ex c fs e1 => simp only [q] at hs; cases hs
      | ok x e1 =>
        obtain ⟨w, d⟩ := x
        simp only [q] at hs
        cases q2 : settles Γ.np as e1 with
        | none => simp only [q2] at hs; cases hs
        | some r2 =>
          cases r2 with
          | ex c fs e2 => simp only [q2] at hs; cases hs
          | ok ds' e2 =>
            simp only [q2] at hs
            cases hs
            obtain ⟨B1, p1, r1⟩ := settle_ok P h q
            have t1 : ArsR Γ σ B1 H e1 as vs := by
              refine arsR_stepT t p1.stp (fun p ⟨i, b, u, h1, h2, h3⟩ z => ?_) fun p z => .inl (p1.own p z)
              rcases z with z | z
              · exact (tmp_not_own (t.get h1 h2) h3).1 z
              · exact n p z i b u h1 h2 h3
            obtain ⟨B2, p2, r2⟩ := settles_ok p1.pst t1 q2
            refine ⟨B2, (p1.wide (T1 := Tmps (a :: as) (v :: vs)) fun p z => ⟨0, a, v, rfl, rfl, z⟩).trans p2 fun p ⟨i, b, u, h1, h2, h3⟩ => .inl ⟨i + 1, b, u, h1, h2, h3⟩, .cons (r1.mono p2.stp.b) r2⟩
end
end Gal
set_option Elab.async false
set_option linter.all false
set_option maxRecDepth 100000
/-! G9: calls: what is passed, what comes back. -/
namespace Gal
open PySem L2 PyProof.Rows
def SlV (S : Stc) (B H : Hp) : Sl → V → Prop
  | .va d, v => Rep S B v d
  | .ow d, v => ∃ p, v = .ref p ∧ B p = none ∧ RepO S B H p d
  | _, _ => False
inductive SlVs (S : Stc) (B H : Hp) : List Sl → List V → Prop
  | nil : SlVs S B H [] []
  | cons {s : Sl} {v : V} {ss : List Sl} {vs : List V} : SlV S B H s v → SlVs S B H ss vs → SlVs S B H (s :: ss) (v :: vs)
def OwnVAt (ss : List Sl) (vs : List V) (i : Nat) (p : Addr) : Prop := ∃ d, ss[i]? = some (.ow d) ∧ vs[i]? = some (.ref p)
def OwnV (ss : List Sl) (vs : List V) (p : Addr) : Prop := ∃ i, OwnVAt ss vs i p
def OutR (S : Stc) (B H : Hp) (p : Addr) : Option Sl → Prop
  | some (.ow d) => B p = none ∧ RepO S B H p d
  | some (.lk d) => B p = none ∧ RepO S B H p d
  | some (.fz d) => Rep S B (.ref p) d ∧ ∃ o, B p = some o
  | _ => False
/-- what is passed -/
structure PaR (S : Stc) (B H : Hp) (ss : List Sl) (vs : List V) : Prop where
  ext : Ex B H
  rel : SlVs S B H ss vs
  dj : ∀ i j p, OwnVAt ss vs i p → OwnVAt ss vs j p → i = j
/-- what a call leaves -/
structure RtR (S : Stc) (B H : Hp) (ss : List Sl) (vs : List V) (outs : List Sl) (B' H' : Hp) : Prop where
  stp : Stp (OwnV ss vs) B H B' H'
  ext : Ex B' H'
  len : outs.length = ss.length
  out : ∀ (i : Nat) p, OwnVAt ss vs i p → OutR S B' H' p outs[i]?
def ValR (S : Stc) (B H B' H' : Hp) (w : Bool) (d : D) (v : V) : Prop := if w = true then ∃ p, v = .ref p ∧ H p = none ∧ B' p = none ∧ RepO S B' H' p d else Rep S B' v d
/-- a def's promise by its pure run -/
def spR (S : Stc) (F : Callee) (f : Nat) (vs : List V) (H : Hp) (Q : VK) (E : XK) : Prop :=
  ∃ B ss r, PaR S B H ss vs ∧ F f ss = some r ∧
    match r with
    | .rt w d outs => ∀ v B' H', RtR S B H ss vs outs B' H' → ValR S B H B' H' w d v → Q v H'
    | .ex c fs outs => ∀ cls dd B' H', RtR S B H ss vs outs B' H' → ExR S B' H' cls dd c fs → E cls dd H'
/-! ### the operands that are passed -/
section
variable {Γ : Ct} {σ : L2.St} {B H B1 H1 B' H' : Hp} {e e1 e' : Env}
theorem passed_len : ∀ {as : List Ar} {ss : List Sl}, passed e as = some ss → as.length = ss.length
  | [], _, h => by cases h; rfl
  | .v w d :: r, _, h => by
    obtain ⟨ss, h1, h2⟩ := map_some (x := passed e r) h
    subst h2
    exact congrArg Nat.succ (passed_len h1)
  | .r i :: r, _, h => by
    unfold passed at h
    split at h
    · obtain ⟨ss, h1, h2⟩ := map_some (x := passed e r) h
      subst h2
      exact congrArg Nat.succ (passed_len h1)
    · cases h
theorem passed_get : ∀ {as : List Ar} {ss : List Sl} {i : Nat}, passed e as = some ss →
    (∀ w d, as[i]? = some (.v w d) → ss[i]? = some (if w then .ow d else .va d)) ∧ (∀ j, as[i]? = some (.r j) → ∃ d, e[j]? = some (.ow d) ∧ ss[i]? = some (.ow d))
  | [], _, i, h => ⟨fun _ _ q => by simp at q, fun _ q => by simp at q⟩
  | .v w d :: r, _, i, h => by
    obtain ⟨ss, h1, h2⟩ := map_some (x := passed e r) h
    subst h2
    cases i with
    | zero => exact ⟨fun w' d' q => by simp at q; obtain ⟨rfl, rfl⟩ := q; rfl, fun j q => by simp at q⟩
    | succ i => exact passed_get (i := i) h1
  | .r k :: r, _, i, h => by
    unfold passed at h
    split at h
    · rename_i d hd
      obtain ⟨ss, h1, h2⟩ := map_some (x := passed e r) h
      subst h2
      cases i with
      | zero => exact ⟨fun w' d' q => by simp at q, fun j q => by simp at q; subst q; exact ⟨d, hd, rfl⟩⟩
      | succ i => exact passed_get (i := i) h1
    · cases h
theorem distinct_mem : ∀ {l : List Nat}, distinct l = true → l.Nodup
  | [], _ => .nil
  | a :: r, h => by
    obtain ⟨h1, h2⟩ : (!r.contains a) = true ∧ distinct r = true := Bool.and_eq_true_iff.mp h
    refine List.nodup_cons.mpr ⟨?_, distinct_mem h2⟩
    intro hm
    simp at h1
    exact h1 hm
theorem refs_at : ∀ {as : List Ar} {i j : Nat}, as[i]? = some (.r j) → j ∈ refs as
  | [], i, j, h => by simp at h
  | .v _ _ :: r, 0, j, h => by simp at h
  | .v _ _ :: r, i + 1, j, h => refs_at (as := r) (i := i) (by simpa using h)
  | .r k :: r, 0, j, h => by simp at h; subst h; exact List.mem_cons_self ..
  | .r k :: r, i + 1, j, h => List.mem_cons_of_mem _ (refs_at (as := r) (i := i) (by simpa using h))
theorem refs_inj : ∀ {as : List Ar} {i k j : Nat}, (refs as).Nodup → as[i]? = some (.r j) → as[k]? = some (.r j) → i = k
  | [], i, k, j, _, h, _ => by simp at h
  | .v _ _ :: r, 0, k, j, _, h, _ => by simp at h
  | .v _ _ :: r, i + 1, 0, j, _, _, h => by simp at h
  | .v _ _ :: r, i + 1, k + 1, j, n, h, h' => congrArg Nat.succ (refs_inj (as := r) n (by simpa using h) (by simpa using h'))
  | .r x :: r, 0, 0, j, _, _, _ => rfl
  | .r x :: r, 0, k + 1, j, n, h, h' => by
    simp at h; subst h
    exact absurd (refs_at (as := r) (i := k) (by simpa using h')) (List.nodup_cons.mp n).1
  | .r x :: r, i + 1, 0, j, n, h, h' => by
    simp at h'; subst h'
    exact absurd (refs_at (as := r) (i := i) (by simpa using h)) (List.nodup_cons.mp n).1
  | .r x :: r, i + 1, k + 1, j, n, h, h' => congrArg Nat.succ (refs_inj (as := r) (List.nodup_cons.mp n).2 (by simpa using h) (by simpa using h'))
theorem tmps_inj {as : List Ar} {vs : List V} (h : ArsR Γ σ B H e as vs) : ∀ {i j : Nat} {a b : Ar} {v u : V} {p : Addr}, as[i]? = some a → vs[i]? = some v → as[j]? = some b → vs[j]? = some u → Tmp a v p → Tmp b u p → i = j := by
  induction h with
  | nil => intro i j a b v u p h; simp at h
  | cons h t n ih =>
    intro i j a b v u p h1 h2 h3 h4 t1 t2
    cases i with
    | zero =>
      cases j with
      | zero => rfl
      | succ j =>
        simp at h1 h2; subst h1; subst h2
        exact absurd t2 (n p t1 j b u (by simpa using h3) (by simpa using h4))
    | succ i =>
      cases j with
      | zero =>
        simp at h3 h4; subst h3; subst h4
        exact absurd t1 (n p t2 i a v (by simpa using h1) (by simpa using h2))
      | succ j => exact congrArg Nat.succ (ih (by simpa using h1) (by simpa using h2) (by simpa using h3) (by simpa using h4) t1 t2)
theorem slVs_of {S : Stc} : ∀ {ss : List Sl} {vs : List V}, ss.length = vs.length → (∀ (i : Nat) s v, ss[i]? = some s → vs[i]? = some v → SlV S B H s v) → SlVs S B H ss vs
  | [], [], _, _ => .nil
  | [], _ :: _, h, _ => by cases h
  | _ :: _, [], h, _ => by cases h
  | s :: ss, v :: vs, h, f => .cons (f 0 s v rfl rfl) (slVs_of (Nat.succ.inj h) fun i s' v' h1 h2 => f (i + 1) s' v' h1 h2)
/-- an own parameter is a slot's object or a new one -/
theorem own_passed {as : List Ar} {vs : List V} {ss : List Sl} (h : ArsR Γ σ B H e as vs) (q : passed e as = some ss) {i : Nat} {p : Addr} (o : OwnVAt ss vs i p) :
    (∃ j, as[i]? = some (.r j) ∧ OwnAt σ e j p) ∨ (∃ a v, as[i]? = some a ∧ vs[i]? = some v ∧ Tmp a v p) := by
  obtain ⟨d, h1, h2⟩ := o
  have hl := passed_len q
  have hi : i < as.length := by rw [hl]; exact (List.getElem?_eq_some_iff.mp h1).1
  obtain ⟨g1, g2⟩ := passed_get (i := i) q
  cases ha : as[i] with
  | v w d' =>
    have ha : as[i]? = some (.v w d') := by rw [List.getElem?_eq_getElem hi, ha]
    have := g1 _ _ ha
    rw [h1] at this
    cases w with
    | true => exact .inr ⟨_, _, ha, h2, rfl⟩
    | false => cases this
  | r j =>
    have ha : as[i]? = some (.r j) := by rw [List.getElem?_eq_getElem hi, ha]
    obtain ⟨d', h3, _⟩ := g2 _ ha
    have hv : σ[j]? = some (some (.ref p)) := h.get ha h2
    exact .inl ⟨j, ha, ⟨d', .inl h3⟩, hv⟩
theorem pass_ok {as : List Ar} {vs : List V} {ss : List Sl} (P : Pst Γ σ B H e) (h : ArsR Γ σ B H e as vs) (q : passed e as = some ss) (dn : distinct (refs as) = true) : PaR Γ.S B H ss vs := by
  refine ⟨P.ext, slVs_of ((passed_len q).symm.trans h.length) fun i s v h1 h2 => ?_, fun i j p o1 o2 => ?_⟩
  · have hi : i < as.length := by rw [passed_len q]; exact (List.getElem?_eq_some_iff.mp h1).1
    obtain ⟨g1, g2⟩ := passed_get (i := i) q
    cases ha : as[i] with
    | v w d =>
      have ha : as[i]? = some (.v w d) := by rw [List.getElem?_eq_getElem hi, ha]
      have g := g1 _ _ ha
      rw [h1] at g
      cases g
      have z := h.get ha h2
      cases w with
      | true => obtain ⟨p, a, b, c, _⟩ := z; exact ⟨p, a, b, c⟩
      | false => exact z
    | r j =>
      have ha : as[i]? = some (.r j) := by rw [List.getElem?_eq_getElem hi, ha]
      obtain ⟨d, h3, h4⟩ := g2 _ ha
      rw [h1] at h4
      cases h4
      have hv : σ[j]? = some (some v) := h.get ha h2
      have z := P.sl j _ h3
      rw [hv] at z
      obtain ⟨p, a, b, c⟩ := z
      cases a
      exact ⟨p, rfl, b, c⟩
  · have nd := distinct_mem dn
    rcases own_passed h q o1 with ⟨a, ha, oa⟩ | ⟨a, v, ha, hv, ta⟩
    · rcases own_passed h q o2 with ⟨b, hb, ob⟩ | ⟨b, u, hb, hu, tb⟩
      · have := P.dj a b p oa ob
        subst this
        exact refs_inj nd ha hb
      · exact absurd ⟨a, oa⟩ (tmp_not_own (h.get hb hu) tb).1
    · rcases own_passed h q o2 with ⟨b, hb, ob⟩ | ⟨b, u, hb, hu, tb⟩
      · exact absurd ⟨b, ob⟩ (tmp_not_own (h.get ha hv) ta).1
      · exact tmps_inj h ha hv hb hu ta tb
def bkS (np i : Nat) : Sl → Sl
  | .ow d => .ow d
  | .lk d => .ow d
  | .fz d => frz np i d
  | .va d => frz np i d
  | s => s
def okS : Sl → Prop
  | .ow _ => True
  | .lk _ => True
  | .fz _ => True
  | _ => False
theorem given_len (np : Nat) : ∀ (as : List Ar) (outs : List Sl) (e : Env), (given np as outs e).length = e.length
  | [], _, e => by unfold given; rfl
  | .v _ _ :: r, [], e => by unfold given; rfl
  | .v _ _ :: r, s :: o, e => by unfold given; exact given_len np r o e
  | .r i :: r, [], e => by unfold given; rfl
  | .r i :: r, s :: o, e => by
    cases s <;> simp only [given] <;> first | rfl | (rw [given_len np r o, List.length_set])
theorem given_other (np : Nat) : ∀ (as : List Ar) (outs : List Sl) (e : Env) (i : Nat), i ∉ refs as → (given np as outs e)[i]? = e[i]?
  | [], _, e, i, _ => by unfold given; rfl
  | .v _ _ :: r, [], e, i, _ => by unfold given; rfl
  | .v _ _ :: r, s :: o, e, i, h => by unfold given; exact given_other np r o e i h
  | .r k :: r, [], e, i, _ => by unfold given; rfl
  | .r k :: r, s :: o, e, i, h => by
    have h1 : i ≠ k := fun z => h (z ▸ List.mem_cons_self ..)
    have h2 : i ∉ refs r := fun z => h (List.mem_cons_of_mem _ z)
    cases s <;> simp only [given] <;> first | rfl | (rw [given_other np r o _ i h2, List.getElem?_set_ne (Ne.symm h1)])
theorem given_at (np : Nat) : ∀ (as : List Ar) (outs : List Sl) (e : Env) (j i : Nat) (s : Sl), (refs as).Nodup → (∀ (j' i' : Nat) s', as[j']? = some (.r i') → outs[j']? = some s' → okS s') → as.length = outs.length → as[j]? = some (.r i) → outs[j]? = some s → i < e.length →
    (given np as outs e)[i]? = some (bkS np i s)
  | [], _, e, j, i, s, _, _, _, h, _, _ => by simp at h
  | a :: r, [], e, j, i, s, _, _, hl, _, _, _ => by cases hl
  | .v _ _ :: r, t :: o, e, 0, i, s, _, _, _, h, _, _ => by simp at h
  | .v _ _ :: r, t :: o, e, j + 1, i, s, n, f, hl, h, h', hi => by
    unfold given
    exact given_at np r o e j i s n (fun j' i' s' a b => f (j' + 1) i' s' a b) (Nat.succ.inj hl) (by simpa using h) (by simpa using h') hi
  | .r k :: r, t :: o, e, 0, i, s, n, f, hl, h, h', hi => by
    simp at h h'
    subst h; subst h'
    have ok := f 0 k t rfl rfl
    have nk : k ∉ refs r := (List.nodup_cons.mp n).1
    cases t with
    | ow d => simp only [given]; rw [given_other np r o _ k nk, List.getElem?_set_self hi]; rfl
    | lk d => simp only [given]; rw [given_other np r o _ k nk, List.getElem?_set_self hi]; rfl
    | fz d => simp only [given]; rw [given_other np r o _ k nk, List.getElem?_set_self hi]; rfl
    | _ => exact ok.elim
  | .r k :: r, t :: o, e, j + 1, i, s, n, f, hl, h, h', hi => by
    have ok := f 0 k t rfl rfl
    have ih := fun e' (hi : i < e'.length) => given_at np r o e' j i s (List.nodup_cons.mp n).2 (fun j' i' s' a b => f (j' + 1) i' s' a b) (Nat.succ.inj hl) (by simpa using h) (by simpa using h') hi
    cases t with
    | ow d => simp only [given]; exact ih _ (by rw [List.length_set]; exact hi)
    | lk d => simp only [given]; exact ih _ (by rw [List.length_set]; exact hi)
    | fz d => simp only [given]; exact ih _ (by rw [List.length_set]; exact hi)
    | _ => exact ok.elim
/-- behind a call -/
theorem given_ok {as : List Ar} {vs : List V} {ss outs : List Sl} (P : Pst Γ σ B H e) (h : ArsR Γ σ B H e as vs) (q : passed e as = some ss) (dn : distinct (refs as) = true) (r : RtR Γ.S B H ss vs outs B' H') :
    Po Γ σ (Tmps as vs) B H e B' H' (given Γ.np as outs e) := by
  have nd := distinct_mem dn
  have ol : as.length = outs.length := (passed_len q).trans r.len.symm
  have vl := h.length
  have el : (given Γ.np as outs e).length = e.length := given_len _ _ _ _
  have T : ∀ p, OwnV ss vs p → Own σ e p ∨ Tmps as vs p := fun p ⟨i, o⟩ => by
    rcases own_passed h q o with ⟨j, _, oj⟩ | ⟨a, v, ha, hv, t⟩
    · exact .inl ⟨j, oj⟩
    · exact .inr ⟨i, a, v, ha, hv, t⟩
  -- a slot that was passed
  have at_ : ∀ {i : Nat}, i ∈ refs as → ∃ (j : Nat) (p : Addr) (s : Sl), as[j]? = some (Ar.r i) ∧ outs[j]? = some s ∧ OwnAt σ e i p ∧ OutR Γ.S B' H' p (some s) ∧ ∃ d, e[i]? = some (.ow d) := by
    intro i hi
    have : ∃ j : Nat, as[j]? = some (Ar.r i) := by
      clear q h ol vl el T r nd dn
      induction as with
      | nil => cases hi
      | cons a r ih =>
        cases a with
        | v w d => obtain ⟨j, hj⟩ := ih hi; exact ⟨j + 1, hj⟩
        | r k =>
          rcases List.mem_cons.mp hi with rfl | hi
          · exact ⟨0, rfl⟩
          · obtain ⟨j, hj⟩ := ih hi; exact ⟨j + 1, hj⟩
    obtain ⟨j, hj⟩ := this
    have hjl : j < as.length := (List.getElem?_eq_some_iff.mp hj).1
    obtain ⟨_, g2⟩ := passed_get (i := j) q
    obtain ⟨d, h3, h4⟩ := g2 i hj
    have hv : vs[j]? = some vs[j] := List.getElem?_eq_getElem (by omega)
    have hs : σ[i]? = some (some vs[j]) := h.get hj hv
    have z := P.sl i _ h3
    rw [hs] at z
    obtain ⟨p, hp, _⟩ := z
    have hp : vs[j] = .ref p := by simpa using hp
    rw [hp] at hv hs
    have ho := r.out j p ⟨d, h4, hv⟩
    have : outs[j]? = some outs[j] := List.getElem?_eq_getElem (by omega)
    rw [this] at ho
    exact ⟨j, p, _, hj, this, ⟨⟨d, .inl h3⟩, hs⟩, ho, d, h3⟩
  have okO : ∀ {p : Addr} {s : Sl}, OutR Γ.S B' H' p (some s) → okS s := fun {p s} h => by cases s <;> first | trivial | exact h.elim
  have allok : ∀ (j' i' : Nat) s', as[j']? = some (.r i') → outs[j']? = some s' → okS s' := by
    intro j' i' s' h1 h2
    obtain ⟨j, p, s, a, b, _, c, _⟩ := at_ (refs_at h1)
    have := refs_inj nd h1 a
    subst this
    rw [h2] at b
    cases b
    exact okO c
  have ilt : ∀ {i : Nat} {p : Addr}, OwnAt σ e i p → i < e.length := fun {i p} ⟨⟨d, hd⟩, _⟩ => by
    rcases hd with hd | hd <;> exact (List.getElem?_eq_some_iff.mp hd).1
  -- what an own slot behind the call is
  have ownB : ∀ {i : Nat} {p : Addr}, OwnAt σ (given Γ.np as outs e) i p → OwnAt σ e i p := by
    intro i p ⟨⟨d, hd⟩, hs⟩
    by_cases hi : i ∈ refs as
    · obtain ⟨j, p', s, a, b, o, c, _⟩ := at_ hi
      have : p' = p := by
        have := o.2
        rw [hs] at this
        cases this; rfl
      subst this
      exact o
    · rw [given_other _ _ _ _ _ hi] at hd
      exact ⟨⟨d, hd⟩, hs⟩
  refine ⟨⟨el.trans P.len, r.ext, fun i s hi => ?_, fun i j p o1 o2 => P.dj i j p (ownB o1) (ownB o2)⟩, ⟨r.stp.b, fun a o nT ha => r.stp.k a o (fun z => nT (T a z)) ha, fun a o ha => ?_, r.stp.a⟩, fun p ⟨i, o⟩ => ⟨i, ownB o⟩, fun i hi hw => ?_, fun i d hd => ?_, fun i d p o hd hs ho => ?_⟩
  · by_cases hm : i ∈ refs as
    · obtain ⟨j, p, t, a, b, o, c, _⟩ := at_ hm
      have g := given_at Γ.np as outs e j i t nd allok ol a b (ilt o)
      rw [g] at hi
      cases hi
      rw [o.2]
      cases t with
      | ow d => exact ⟨p, rfl, c.1, c.2⟩
      | lk d => exact ⟨p, rfl, c.1, c.2⟩
      | fz d =>
        show SlR Γ B' H' _ (frz Γ.np i d)
        unfold frz
        split
        · exact ⟨p, rfl, c.1, c.2⟩
        · exact ⟨_, rfl, c.1⟩
      | _ => exact (okO c).elim
    · rw [given_other _ _ _ _ _ hm] at hi
      -- an object that was not passed
      have np_ : ∀ p, (∃ d, s = .ow d ∨ s = .lk d) → σ[i]?.join = some (.ref p) → ¬ OwnV ss vs p := by
        intro p hd hx ⟨k, ok⟩
        have hx' : σ[i]? = some (some (.ref p)) := by
          cases y : σ[i]? with
          | none => rw [y] at hx; cases hx
          | some y' => rw [y] at hx; simp at hx; rw [hx]
        have oi : OwnAt σ e i p := by
          obtain ⟨d, hd⟩ := hd
          refine ⟨⟨d, ?_⟩, hx'⟩
          rcases hd with hd | hd
          · rw [hd] at hi; exact .inl hi
          · rw [hd] at hi; exact .inr hi
        rcases own_passed h q ok with ⟨j, hj, oj⟩ | ⟨a, v, ha, hv, t⟩
        · have := P.dj i j p oi oj
          subst this
          exact hm (refs_at hj)
        · exact (tmp_not_own (h.get ha hv) t).1 ⟨i, oi⟩
      refine SlR.mono r.stp.b r.ext (fun p o hd hx ho => r.stp.k p o (np_ p hd hx) ho) (fun p hd hx hb => ?_) (P.sl i s hi)
      cases z : B' p with
      | none => rfl
      | some u =>
        rcases r.stp.n p u z with y | y | y
        · rw [hb] at y; cases y
        · have sl := P.sl i s hi
          obtain ⟨d, hd⟩ := hd
          rcases hd with rfl | rfl
          · obtain ⟨p', hp', _, rr⟩ := sl
            rw [hx] at hp'; cases hp'
            obtain ⟨o', ho', _⟩ := rr.some
            rw [y] at ho'; cases ho'
          · obtain ⟨p', hp', _, rr⟩ := sl
            rw [hx] at hp'; cases hp'
            obtain ⟨o', ho', _⟩ := rr.some
            rw [y] at ho'; cases ho'
        · exact absurd y (np_ p hd hx)
  · rcases r.stp.n a o ha with z | z | z
    · exact .inl z
    · exact .inr (.inl z)
    · exact .inr (.inr (T a z))
  · by_cases hm : i ∈ refs as
    · obtain ⟨j, p, t, a, b, o, c, _⟩ := at_ hm
      rw [given_at Γ.np as outs e j i t nd allok ol a b (ilt o)]
      cases t with
      | ow d => trivial
      | lk d => trivial
      | fz d =>
        show ownish (some (frz Γ.np i d))
        unfold frz
        rw [if_pos hi]
        trivial
      | _ => exact (okO c).elim
    · rw [given_other _ _ _ _ _ hm]
      exact hw
  · by_cases hm : i ∈ refs as
    · obtain ⟨j, p, t, a, b, o, c, d', h⟩ := at_ hm
      rw [hd] at h; cases h
    · rw [given_other _ _ _ _ _ hm]
      exact hd
  · refine r.stp.k p o (fun ⟨j, oj⟩ => ?_) ho
    have oi : OwnAt σ e i p := ⟨⟨d, .inr hd⟩, hs⟩
    rcases own_passed h q oj with ⟨j', hj, oj'⟩ | ⟨a, v, ha, hv, t⟩
    · have := P.dj i j' p oi oj'
      subst this
      obtain ⟨_, g2⟩ := passed_get (i := j) q
      obtain ⟨d', h3, _⟩ := g2 i hj
      rw [hd] at h3; cases h3
    · exact (tmp_not_own (h.get ha hv) t).1 ⟨i, oi⟩
end
end Gal
set_option Elab.async false
set_option linter.all false
set_option maxRecDepth 100000
/-! G10: rules for calls where what is raised is wished for at the slots. -/
namespace Gal
open PySem L2 PyProof.Rows PySem.Spec
def CallSt (X : Cx) (f : Value) (r : L2.St → List V → Hp → VK → Prop) : Prop :=
  ∀ (pins : List (Addr × Obj)) (s : Shared) (σ : L2.St) (H : Hp) (xs : List V) (us : List Value) (Q : VK), Inv X pins σ H s → Vals xs us → r σ xs H Q →
    wpAny (model X.prog X.w) X.A (call f us) (EP X pins σ Q) X.xe s
def OpSt (X : Cx) (f : Value → Value → Sem Value) (r : L2.St → R2) : Prop :=
  ∀ (pins : List (Addr × Obj)) (s : Shared) (σ : L2.St) (H : Hp) (x y : V) (v u : Value) (Q : VK), Inv X pins σ H s → RelV x v → RelV y u → r σ x y H Q →
    wpAny (model X.prog X.w) X.A (f v u) (EP X pins σ Q) X.xe s
def UnSt (X : Cx) (f : Value → Sem Value) (r : L2.St → V → Hp → VK → Prop) : Prop :=
  ∀ (pins : List (Addr × Obj)) (s : Shared) (σ : L2.St) (H : Hp) (x : V) (v : Value) (Q : VK), Inv X pins σ H s → RelV x v → r σ x H Q →
    wpAny (model X.prog X.w) X.A (f v) (EP X pins σ Q) X.xe s
def IxSt (X : Cx) (r : L2.St → R2) : Prop :=
  ∀ (value slice : Expr) (pins : List (Addr × Obj)) (s : Shared) (σ : L2.St) (H : Hp) (x y : V) (v u : Value) (Q : VK), Inv X pins σ H s → RelV x v → RelV y u → r σ x y H Q →
    subscripted slice false v u = operate [v, u] (getItem v u) → wpAny (model X.prog X.w) X.A (subscriptTail value slice v u) (EP X pins σ Q) X.xe s
theorem Vals.inv1 {x : V} {us : List Value} (h : Vals [x] us) : ∃ u, us = [u] ∧ RelV x u := h.one
section
variable {X : Cx} {x : PySem.Str} {p pos apos : Pos} {es : List Expr} {t : TA} {f : Addr} {a b c o : Expr} {ta tb tc to : TE}
theorem any_cons {e : Expr} (h : (e :: es).all noStar = true) : starEach (e :: es) X.env = (false, eval e X.env) :: starEach es X.env ∧ (backTo pos (starEach es X.env)).any (·.1) = false := by
  have h1 : (noStar e && es.all noStar) = true := by simpa using h
  obtain ⟨h2, h3⟩ := Bool.and_eq_true_iff.mp h1
  exact ⟨starEach_of h2, noStars_plain h3⟩
/-- the arguments are evaluated, the callee is kept -/
theorem args_K {Γ : Ct} (hX : Cxt Γ X) {first : List Value} {u : Value} {pins : List (Addr × Obj)} {s : Shared} {σ : L2.St} {H : Hp} {R : List V → Hp → Prop} {Q : Value → Shared → Prop} (I : Inv X pins σ H s) (hk : PySem.W.keepIn X.K u = true) (hs : es.all noStar = true)
    (h : wA Γ es σ H R) (hq : ∀ us s1 vs H1, Inv X pins σ H1 s1 → Vals vs us → R vs H1 → wpAny (model X.prog X.w) X.A (call u (first ++ us)) Q X.xe s1) :
    wpAny (model X.prog X.w) X.A (callWith pos u first (backTo pos (starEach es X.env)) []) Q X.xe s := by
  cases es with
  | nil => exact PySem.W.callWith_K0 I.kIn hk (hq [] s [] H I .nil h)
  | cons e es =>
    obtain ⟨h1, h2⟩ := any_cons (X := X) (pos := pos) hs
    exact PySem.W.callWith_K (h₀ := X.base) I.ok.mod.kin hk (thn ((wA_pa hX hs).run pos pins s σ H _ I h) fun us s1 ⟨vs, H1, I1, rv, q⟩ => ⟨I1.kIn, hq us s1 vs H1 I1 rv q⟩) h1 h2
/-- f(..), f a module's name whose value is kept -/
theorem pe_callF {Γ : Ct} (hX : Cxt Γ X) {r : L2.St → List V → Hp → VK → Prop} (hc : CallSt X (.ref f) r) (hg : Gl X x) (hm : X.mg x = some (.ref f)) (hk : PySem.W.keepIn X.K (.ref f) = true) (hs : es.all noStar = true)
    (hdb : (x == ("__debug__" : PySem.Str)) = false) : PE X (.Call (.Name x p) es [] pos) (fun σ H Q => wA Γ es σ H fun vs H1 => r σ vs H1 Q) := by
  refine ⟨fun pins s σ H Q I h => ?_⟩
  refine wpAny_Call_Name_kw (ld_glob I hg hm ?_ hdb)
  exact args_K (first := []) hX I hk hs h fun us s1 vs H1 I1 rv q => hc pins s1 σ H1 vs us Q I1 rv q
/-- super() is not asked -/
def noSuper : Expr → Bool
  | .Call (.Name id _) [] [] _ => id != "super"
  | _ => true
theorem noSuper_base {attr : PySem.Str} {env : PySem.Env} {whole : Sem Value} (h : noSuper o = true) : attributeBase o attr env whole = whole := by
  cases o with
  | Call func args kws pos =>
    cases func with
    | Name id q =>
      cases args with
      | nil =>
        cases kws with
        | nil =>
          have h : (id != "super") = true := h
          unfold attributeBase
          simp [h]
        | cons _ _ => rfl
      | cons _ _ => rfl
    | _ => rfl
  | _ => rfl
theorem form_ok {env : PySem.Env} (hs : es.all noStar = true) (hl : es.length < 30) : methodCallForm (es.length + ([] : List Keyword).length) (backTo pos (starEach es env)) (backToKw pos (keywordEach [] env)) = true := by
  have h0 : (backTo pos (starEach es env)).any (·.1) = false := noStars_plain hs
  have h1 : (backTo pos (starEach es env)).all (fun x => !x.1) = true := by
    rw [List.all_eq_true]
    intro x hx
    have := List.any_eq_false.mp h0 x hx
    simpa using this
  unfold methodCallForm
  rw [h1]
  simp [backToKw, keywordEach]
  exact hl
theorem meth_eval {m : PySem.Str} (hb : noSuper o = true) (hs : es.all noStar = true) (hl : es.length < 30) (hline : (apos.endLine == pos.line) = true) : eval (.Call (.Attribute o m apos) es [] pos) X.env = (do
      let ov ← eval o X.env
      standAt apos.atName
      let (f, first) ← holding [ov] (getMethod ov m (do return (← importBound o X.env).getD true))
      callWith pos f first (backTo pos (starEach es X.env)) (backToKw pos (keywordEach [] X.env))) := by
  rw [arm_eval_Call, noSuper_base hb]
  unfold methodCall calleeOf methodCallPos
  rw [form_ok hs hl]
  simp [hline]
/-- o.m(..), an own method -/
theorem pe_methF {Γ : Ct} (hX : Cxt Γ X) {m : PySem.Str} (ho : PE X o to) (hb : noSuper o = true) (hs : es.all noStar = true) (hl : es.length < 30) (hline : (apos.endLine == pos.line) = true) :
    PE X (.Call (.Attribute o m apos) es [] pos) (fun σ H Q => to σ H fun y H1 => ∃ a C dx fs g r, y = .ref a ∧ H1 a = some (.ins C dx fs) ∧ fs.lookup m = none ∧ Cls Γ.S.K C ∧ Meth Γ.S.K C m g ∧ (∀ X, Cxt Γ X → CallSt X (.ref g) r) ∧ wA Γ es σ H1 fun vs H2 => r σ (y :: vs) H2 Q) := by
  refine ⟨fun pins s σ H Q I h => ?_⟩
  refine PySem.W.methodCall_KW (thn (ho.run pins s σ H _ I h) fun u s1 ⟨y, H1, I1, ry, a, C, dx, fs, g, r, ey, ea, l, c, mt, hc, q⟩ => ?_) (meth_eval hb hs hl hline)
  subst ey
  obtain rfl : u = Value.ref a := ry
  rw [← hX.K] at c mt
  refine getmeth_ok I1 ea c mt l ?_
  exact args_K (first := [.ref a]) hX I1 mt.kp hs q fun us s2 vs H2 I2 rv q2 => hc X hX pins s2 σ H2 (.ref a :: vs) (.ref a :: us) Q I2 (.cons rfl rv) q2
/-- a built-in by name -/
theorem pe_bltF {Γ : Ct} (hX : Cxt Γ X) {id : String} {r : List V → Hp → VK → Prop} {e : Expr} (hc : CallR X (.builtin id) r) (hg : Gl X x) (hm : X.mg x = none) (hv : bootBuiltins x = some (.builtin id)) (hs : (e :: es).all noStar = true) (hn : x ≠ "__name__") (hdb : (x == ("__debug__" : PySem.Str)) = false) :
    PE X (.Call (.Name x p) (e :: es) [] pos) (fun σ H Q => wA Γ (e :: es) σ H fun vs H1 => r vs H1 Q) := by
  obtain ⟨h1, h2⟩ := any_cons (X := X) (pos := pos) hs
  exact pe_callB hc hg hm hv (wA_pa hX hs) hn hdb h1 h2
theorem pe_tyF {Γ : Ct} (hX : Cxt Γ X) {T : String} {r : List V → Hp → VK → Prop} {e : Expr} (hc : CallR X (.type T) r) (hg : Gl X x) (hm : X.mg x = none) (hv : bootBuiltins x = some (.type T)) (hs : (e :: es).all noStar = true) (hn : x ≠ "__name__") (hdb : (x == ("__debug__" : PySem.Str)) = false) :
    PE X (.Call (.Name x p) (e :: es) [] pos) (fun σ H Q => wA Γ (e :: es) σ H fun vs H1 => r vs H1 Q) := by
  obtain ⟨h1, h2⟩ := any_cons (X := X) (pos := pos) hs
  exact pe_callTy hc hg hm hv (wA_pa hX hs) hn hdb h1 h2
/-- with the slots -/
theorem pe_opSt {op : Operator} {r : L2.St → R2} (ho : OpSt X (binaryOp op) r) (ha : PE X a ta) (hb : PE X b tb) : PE X (.BinOp a op b pos) (fun σ H Q => ta σ H fun x H1 => tb σ H1 fun y H2 => r σ x y H2 Q) := by
  refine ⟨fun pins s σ H Q I h => ?_⟩
  exact wpAny_BinOp (binT ha hb I h fun v u s2 x y H2 I2 rx ry q => ho pins s2 σ H2 x y v u Q I2 rx ry q)
theorem pe_unSt {op : UnaryOp} {r : L2.St → V → Hp → VK → Prop} (ho : UnSt X (unaryOp op) r) (ha : PE X a ta) : PE X (.UnaryOp op a pos) (fun σ H Q => ta σ H fun x H1 => r σ x H1 Q) := by
  refine ⟨fun pins s σ H Q I h => ?_⟩
  exact UnaryOp_ (thn (ha.run pins s σ H _ I h) fun v s1 ⟨x, H1, I1, r1, q1⟩ => ho pins s1 σ H1 x v Q I1 r1 q1)
theorem pe_cmpSt {op : CmpOp} {r : L2.St → R2} (ho : OpSt X (compareOp op) r) (ha : PE X a ta) (hb : PE X b tb) (hm : behindInMarks op b = false) : PE X (.Compare a [op] [b] pos) (fun σ H Q => ta σ H fun x H1 => tb σ H1 fun y H2 => r σ x y H2 Q) := by
  refine ⟨fun pins s σ H Q I h => ?_⟩
  exact wpAny_Compare1 (binT ha hb I h fun v u s2 x y H2 I2 rx ry q => ho pins s2 σ H2 x y v u Q I2 rx ry q) hm
theorem pt_cmpSt {S : Stc} {op : CmpOp} {r : L2.St → R2} (ho : OpSt X (compareOp op) r) (ha : PE X a ta) (hb : PE X b tb) (hm : behindInMarks op b = false) :
    PT X (.Compare a [op] [b] pos) (fun σ H Q => ta σ H fun x H1 => tb σ H1 fun y H2 => r σ x y H2 fun z H3 => rt_ S z H3 Q) := by
  refine ⟨fun pins s σ H Q I h => ?_⟩
  exact wpAny_isTrue_Compare1 (thn (ha.run pins s σ H _ I h) fun v s1 ⟨x, H1, I1, r1, q1⟩ => thn (hb.run pins s1 σ H1 _ I1 q1) fun u s2 ⟨y, H2, I2, r2, q2⟩ =>
    thn (ho pins s2 σ H2 x y v u _ I2 r1 r2 q2) fun c s3 ⟨z, H3, I3, r3, q3⟩ => ok_tru pins s3 σ H3 z c _ I3 r3 q3) hm
theorem pe_ixSt {r : L2.St → R2} (hr : IxSt X r) (ha : PE X a ta) (hb : PE X b tb) (hs : PlainIx b) : PE X (.Subscript a b pos) (fun σ H Q => ta σ H fun x H1 => tb σ H1 fun y H2 => r σ x y H2 Q) := by
  refine ⟨fun pins s σ H Q I h => ?_⟩
  exact Subscript_ (binT ha hb I h fun v u s2 x y H2 I2 rx ry q => hr a b pins s2 σ H2 x y v u Q I2 rx ry q (hs _ _))
theorem chain_St {op op' : CmpOp} {r r' : L2.St → R2} (ho : OpSt X (compareOp op) r) (ho' : OpSt X (compareOp op') r') (ha : PE X a ta) (hb : PE X b tb) (hc : PE X c tc) (hm : lastMarks [op, op'] [b, c] = false) :
    PE X (.Compare a [op, op'] [b, c] pos) (fun σ H Q => ta σ H fun x H1 => tb σ H1 fun y H2 => r σ x y H2 fun z H3 => ∃ k, z = .bl k ∧ (if k = true then tc σ H3 fun w' H4 => r' σ y w' H4 Q else Q (.bl false) H3)) := by
  refine ⟨fun pins s σ H Q I h => ?_⟩
  refine Compare_chain (thn (ha.run pins s σ H _ I h) fun v s1 ⟨x, H1, I1, r1, q1⟩ => chain_link (thn (hb.run pins s1 σ H1 _ I1 q1) fun u s2 ⟨y, H2, I2, r2, q2⟩ =>
    thn (ho pins s2 σ H2 x y v u _ I2 r1 r2 q2) fun d s3 ⟨z, H3, I3, r3, k, e, q3⟩ => ?_)) hm
  subst e
  cases r3
  refine wpAny_truthy_bool ?_
  cases k with
  | false => exact ite_ff ⟨.bl false, H3, I3, rfl, q3⟩
  | true => exact ite_tt (chain_last (thn (hc.run pins s3 σ H3 _ I3 q3) fun w' s4 ⟨z', H4, I4, r4, q4⟩ => ho' pins s4 σ H4 y z' u w' Q I4 r2 r4 q4))
theorem chain_Tt {op op' : CmpOp} {r r' : L2.St → R2} (ho : OpSt X (compareOp op) r) (ho' : OpSt X (compareOp op') r') (ha : PE X a ta) (hb : PE X b tb) (hc : PE X c tc) (hm : lastMarks [op, op'] [b, c] = false) :
    PT X (.Compare a [op, op'] [b, c] pos) (fun σ H Q => ta σ H fun x H1 => tb σ H1 fun y H2 => r σ x y H2 fun z H3 => ∃ k, z = .bl k ∧ (if k = true then tc σ H3 fun w' H4 => r' σ y w' H4 fun z' H5 => ∃ k', z' = .bl k' ∧ Q k' H5 else Q false H3)) := by
  refine ⟨fun pins s σ H Q I h => ?_⟩
  refine isTrue_chain (thn (ha.run pins s σ H _ I h) fun v s1 ⟨x, H1, I1, r1, q1⟩ => test_link (thn (hb.run pins s1 σ H1 _ I1 q1) fun u s2 ⟨y, H2, I2, r2, q2⟩ =>
    thn (ho pins s2 σ H2 x y v u _ I2 r1 r2 q2) fun d s3 ⟨z, H3, I3, r3, k, e, q3⟩ => ?_)) hm
  subst e
  cases r3
  refine wpAny_truthy_bool ?_
  cases k with
  | false => exact ite_ff ⟨H3, I3, q3⟩
  | true =>
    refine ite_tt (test_last (thn (hc.run pins s3 σ H3 _ I3 q3) fun w' s4 ⟨z', H4, I4, r4, q4⟩ => thn (ho' pins s4 σ H4 y z' u w' _ I4 r2 r4 q4) fun d' s5 ⟨z2, H5, I5, r5, k2, e2, q5⟩ => ?_))
    subst e2
    cases r5
    exact wpAny_truthy_bool ⟨H5, I5, q5⟩
/-- not x, by truth -/
theorem pe_notF {S : Stc} (ha : PE X a ta) : PE X (.UnaryOp .Not a pos) (fun σ H Q => ta σ H fun x H1 => rt_ S x H1 fun k H2 => Q (.bl (!k)) H2) := by
  refine ⟨fun pins s σ H Q I h => ?_⟩
  refine UnaryOp_ (thn (ha.run pins s σ H _ I h) fun v s1 ⟨x, H1, I1, r1, q1⟩ => ?_)
  exact not_of (thn (ok_tru pins s1 σ H1 x v _ I1 r1 q1) fun k s2 ⟨H2, I2, q2⟩ => ⟨.bl (!k), H2, I2, rfl, q2⟩)
/-- a test by a value's truth -/
theorem pt_truF {S : Stc} (ha : PE X a ta) (he : ∀ whole, isTrue a X.env whole = (do let v ← whole; standAt a.pos; holding [v] (truthy v))) : PT X a (fun σ H Q => ta σ H fun x H1 => rt_ S x H1 Q) := by
  refine ⟨fun pins s σ H Q I h => ?_⟩
  exact isTrue_plain (thn (ha.run pins s σ H _ I h) fun v s1 ⟨x, H1, I1, r1, q1⟩ => ok_tru pins s1 σ H1 x v Q I1 r1 q1) (he _)
/-- e.f: an attribute of the instance or a constant of its class -/
theorem pe_fldF {Γ : Ct} (hX : Cxt Γ X) {m : PySem.Str} (ho : PE X o to) (hb : noSuper o = true) :
    PE X (.Attribute o m pos) (fun σ H Q => to σ H fun y H1 => ∃ a C dx fs v, y = .ref a ∧ H1 a = some (.ins C dx fs) ∧ Cls Γ.S.K C ∧ ((fs.lookup m = some v ∧ NoAttr Γ.S.K C m) ∨ (fs.lookup m = none ∧ ∃ u, Con Γ.S.K C m v u)) ∧ Q v H1) := by
  refine ⟨fun pins s σ H Q I h => ?_⟩
  refine attr_of (noSuper_base hb) (thn (ho.run pins s σ H _ I h) fun u s1 ⟨y, H1, I1, ry, a, C, dx, fs, v, ey, ea, c, k, q⟩ => ?_)
  subst ey
  obtain rfl : u = Value.ref a := ry
  rw [← hX.K] at c k
  rcases k with ⟨l, n⟩ | ⟨l, u0, k⟩
  · exact getattr_ok I1 ea c n l fun u' s2 I2 ru => ⟨v, H1, I2, ru, q⟩
  · exact getcon_ok I1 ea c k l fun s2 I2 => ⟨v, H1, I2, k.rel, q⟩
end
end Gal
set_option Elab.async false
set_option linter.all false
set_option maxRecDepth 100000
/-! G11: what the text must give; calls and operations of the pure run over the heap. -/
namespace Gal
open PySem L2 PyProof.Rows PySem.Spec
theorem isC_rep {S : Stc} {B : Hp} : ∀ {d : D}, isC d = true → Rep S B (cV d) d
  | .non, _ => .non
  | .bl b, _ => .bl b
  | .int i, _ => .int i
  | .str s, h => by
    obtain ⟨h1, h2⟩ := Bool.and_eq_true_iff.mp h
    exact .str s ⟨fun c hc => of_decide_eq_true (List.all_eq_true.mp h1 c hc), of_decide_eq_true h2⟩
theorem isC_reps {S : Stc} {B : Hp} : ∀ {ds : List D}, ds.all isC = true → Reps S B (ds.map cV) ds
  | [], _ => .nil
  | d :: r, h => by
    have h : (isC d && r.all isC) = true := by simpa using h
    obtain ⟨h1, h2⟩ := Bool.and_eq_true_iff.mp h
    exact .cons (isC_rep h1) (isC_reps h2)
/-- .. with the defaults that lack -/
def spD (S : Stc) (F : Callee) (f : Nat) (vs : List V) (H : Hp) (Q : VK) (E : XK) : Prop :=
  ∃ j, j ≤ S.jm f ∧ spR S F f (vs ++ ((S.dd f).drop j).map cV) H Q E
/-- the own operation m of the first operand -/
def rDun (Γ : Ct) (F : Callee) (m : Nat) (σ : L2.St) (vs : List V) (H : Hp) (Q : VK) : Prop :=
  ∃ B v vs' c fs f, vs = v :: vs' ∧ Ex B H ∧ DR Γ.S B H v (.obj c fs) ∧ (Γ.S.P.cl c).meths.lookup m = some f ∧ (∃ ds, DRs Γ.S B H vs' ds ∧ okArg Γ.S.P m c ds = true) ∧ spR Γ.S F f vs H Q (WE Γ.W σ)
def postQ : Op → VK → VK
  | .ne, Q => fun v H => ∃ b, v = .bl b ∧ Q (.bl (!b)) H
  | .len, Q => fun v H => ∃ n : Int, v = .int n ∧ 0 ≤ n ∧ n < 2 ^ 60 ∧ Q (.int n) H
  | .str_, Q => fun v H => ∃ s, v = .str s ∧ s.length ≤ sizeLine ∧ Q (.str s) H
  | _, Q => Q
/-- an operation by the pure run -/
def rOp (Γ : Ct) (F : Callee) (o : Op) (σ : L2.St) (vs : List V) (H : Hp) (Q : VK) : Prop :=
  (∃ B ds w d, Ex B H ∧ DRs Γ.S B H vs ds ∧ opD o ds = some (w, d) ∧ ∀ v B' H', NewR Γ.S B H w d v B' H' → Q v H') ∨
  (Γ.hot = false ∧ ∃ m, dunder o = some m ∧ rDun Γ F m σ vs H (postQ o Q))
def rOp2 (Γ : Ct) (F : Callee) (o : Op) (σ : L2.St) : R2 := fun x y H Q => rOp Γ F o σ [x, y] H Q
def rOp1 (Γ : Ct) (F : Callee) (o : Op) (σ : L2.St) : V → Hp → VK → Prop := fun x H Q => rOp Γ F o σ [x] H Q
/-- the type of data; a type as a value -/
def dTy (S : Stc) : D → Option Value
  | .non => some (.type "NoneType")
  | .bl _ => some (.type "bool")
  | .int _ => some (.type "int")
  | .str _ => some (.type "str")
  | .lst _ => some (.type "list")
  | .tup _ => some (.type "tuple")
  | .dic _ => some (.type "dict")
  | .obj c _ => some (.ref (S.ca c))
  | _ => none
def tyVal (S : Stc) : Ty → Value
  | .int => .type "int"
  | .str => .type "str"
  | .bool => .type "bool"
  | .list => .type "list"
  | .tuple => .type "tuple"
  | .dict => .type "dict"
  | .none_ => .type "NoneType"
  | .ve => .type "ValueError"
  | .cls c => .ref (S.ca c)
/-- the class may be asked for -/
def okTy (P : Prog) : Ty → Bool
  | .cls k => decide (k < P.cls.length)
  | _ => true
/-- an exception class called -/
def MkSt (X : Cx) (f : Value) (r : List V → Hp → XK → Prop) : Prop :=
  ∀ (pins : List (Addr × Obj)) (s : Shared) (σ : L2.St) (H : Hp) (vs : List V) (us : List Value) (Q : XK), Inv X pins σ H s → Vals vs us → r vs H Q → wpAny (model X.prog X.w) X.A (call f us) (MkP X pins σ Q) X.xe s
def rExc (C : Addr) (fs : List PySem.Str) : List V → Hp → XK → Prop := fun vs H Q => vs.length = fs.length ∧ ∀ d, H d = none → Q (.ref C) (some d) (upd H d (.xd (fs.zip vs).reverse))
def rExc0 (C : Addr) : List V → Hp → XK → Prop := fun vs H Q => vs = [] ∧ Q (.ref C) none H
def rExcS (S : Stc) (c : Nat) (fs : List Nat) : List V → Hp → XK → Prop := if fs = [] then rExc0 (S.ca c) else rExc (S.ca c) (fs.map S.an)
/-- what isinstance and fields of a caught exception ask of its class -/
structure XcF (K : PySem.W.Frag) (C : Addr) : Prop where
  cl : (PySem.W.clsIn K C).isSome = true
  ga : PySem.W.findIn K (.ref C) "__getattribute__" = some (some (.builtin "BaseException.__getattribute__"))
  gg : PySem.W.findIn K (.ref C) "__getattr__" = some none
  exC : PySem.W.subIn K (.ref C) (.type "BaseException") = some true
  hdC : PySem.W.hasDictIn K C = true
  ca : PySem.W.findIn K (.ref C) "__class__" = some (some (.builtin "object.__class__"))
  om : PySem.W.mroIn K C (.type "object") = some true
/-- f(.., k = v) with keywords -/
def FnRK (P : Program) (w : World) (K : PySem.W.Frag) (mg : PySem.Str → Option Value) (base : Heap) (CX : CXT) (k : Nat) (f : Addr) (n : Nat) (ks : List PySem.Str) (sp : Sp) : Prop :=
  ∀ (A : Around) (outer : List PySem.Env) (s : Shared) (H : Hp) (us ws : List Value) (vs zs : List V) (Q : VK) (E : XK), Room k A → Env0 P w K mg base A outer s H → Vals vs us → Vals zs ws → us.length = n → ws.length = ks.length → sp (vs ++ zs) H Q E →
    codeAny (model P w) A (.call (.ref f) ⟨us, ks.zip ws⟩) (L2.CR CX outer P w H s Q E) s
structure Fac (Γ : Ct) (F : Callee) (k : Nat) : Prop where
  room : k + 2 ≤ Γ.k
  gls : ∀ x g, Γ.S.gl x = some g → match g with
    | .fn f => Γ.S.mg x = some (.ref (Γ.S.fa f)) ∧ PySem.W.keepIn Γ.S.K (.ref (Γ.S.fa f)) = true
    | .cls c => Γ.S.mg x = some (.ref (Γ.S.ca c)) ∧ PySem.W.keepIn Γ.S.K (.ref (Γ.S.ca c)) = true
    | .val i => ∃ v u, Γ.S.mg x = some u ∧ RelV v u ∧ ∀ d, Γ.S.P.gls[i]? = some d → ∀ B, Rep Γ.S B v d
  blt : ∀ x, (x ∈ bltIds ∨ x ∈ bltTys) → Γ.S.mg x = none
  dd : ∀ f, (Γ.S.dd f).all isC = true
  fld : ∀ c f, (Γ.S.P.cl c).free f = true → f < Γ.S.nA → Cls Γ.S.K (Γ.S.ca c) ∧ NoAttr Γ.S.K (Γ.S.ca c) (Γ.S.an f)
  con : ∀ c f d, (Γ.S.P.cl c).cons.lookup f = some d → Cls Γ.S.K (Γ.S.ca c) ∧ ∃ v u, Con Γ.S.K (Γ.S.ca c) (Γ.S.an f) v u ∧ ∀ B, Rep Γ.S B v d
  meth : ∀ c m f, (Γ.S.P.cl c).meths.lookup m = some f → m < Γ.S.nA → Cls Γ.S.K (Γ.S.ca c) ∧ Meth Γ.S.K (Γ.S.ca c) (Γ.S.an m) (Γ.S.fa f)
  mko : ∀ c m f, (Γ.S.P.cl c).meths.lookup m = some f → Γ.S.ko f = false
  mki : ∀ c f, (Γ.S.P.cl c).init = some f → Mk Γ.S.K (Γ.S.ca c) (Γ.S.fa f)
  isi : ∀ d t v b, dTy Γ.S d = some v → isiD Γ.S.P t d = some b → okTy Γ.S.P t = true → PySem.W.kitOne Γ.S.K v (tyVal Γ.S t) = some b
  tyo : ∀ c, (Γ.S.P.cl c).own = true → Cls Γ.S.K (Γ.S.ca c) ∧ PySem.W.findIn Γ.S.K (.ref (Γ.S.ca c)) "__class__" = some (some (.builtin "object.__class__")) ∧ PySem.W.mroIn Γ.S.K (Γ.S.ca c) (.type "object") = some true
  tyc : PySem.W.specialIn Γ.S.K (.builtin "object.__class__") "__get__" = some (some (.builtin "getset_descriptor.__get__")) ∧ PySem.W.takesIn Γ.S.K (.builtin "object.__class__") = some true
  run : Γ.hot = false → ∀ f, FnR Γ.S.pg Γ.S.w Γ.S.K Γ.S.mg Γ.S.base (L2.CX Γ.S.pg Γ.S.w) k (Γ.S.fa f) (spD Γ.S F f)
  runK : Γ.hot = false → ∀ f n ks, (n, ks) ∈ Γ.S.kw f → FnRK Γ.S.pg Γ.S.w Γ.S.K Γ.S.mg Γ.S.base (L2.CX Γ.S.pg Γ.S.w) k (Γ.S.fa f) n ks (spR Γ.S F f)
  rz : Γ.hot = false → ∀ c fs, (Γ.S.P.cl c).exf = some fs → (∀ f ∈ fs, f < Γ.S.nA) ∧ ∀ X, Cxt Γ X → MkSt X (.ref (Γ.S.ca c)) (rExcS Γ.S c fs)
  xf : ∀ c fs, (Γ.S.P.cl c).exf = some fs → XcF Γ.S.K (Γ.S.ca c) ∧ ∀ f ∈ fs, f < Γ.S.nA ∧ PySem.W.findIn Γ.S.K (.ref (Γ.S.ca c)) (Γ.S.an f) = some none
  xm : ∀ c fs k, (Γ.S.P.cl c).exf = some fs → ((Γ.S.P.cl k).exf).isSome = true → PySem.W.exmOne Γ.S.K (.ref (Γ.S.ca c)) (.ref (Γ.S.ca k)) = some ((Γ.S.P.cl c).sup.contains k)
  xi : ∀ c fs, (Γ.S.P.cl c).exf = some fs → PySem.W.kitOne Γ.S.K (.ref (Γ.S.ca c)) (.type "ValueError") = some true ∧ ∀ k, ((Γ.S.P.cl k).exf).isSome = true → PySem.W.kitOne Γ.S.K (.ref (Γ.S.ca c)) (.ref (Γ.S.ca k)) = some ((Γ.S.P.cl c).sup.contains k)
  cm : Γ.hot = false → ∀ c m f, (Γ.S.P.cl c).cms.lookup m = some f → m < Γ.S.nA ∧ ∃ mc p, ClX.CRead Γ.S.K (Γ.S.ca c) mc ∧ ClX.CMet Γ.S.K (Γ.S.ca c) mc (Γ.S.an m) p (Γ.S.fa f)
  callo : Γ.hot = false → ∀ c f, (Γ.S.P.cl c).meths.lookup 1011 = some f → StX.CallO Γ.S.K (Γ.S.ca c) (Γ.S.fa f)
  d_add : Γ.hot = false → ∀ X, Cxt Γ X → OpSt X (binaryOp .Add) fun σ x y H Q => rDun Γ F 1000 σ [x, y] H Q
  d_sub : Γ.hot = false → ∀ X, Cxt Γ X → OpSt X (binaryOp .Sub) fun σ x y H Q => rDun Γ F 1001 σ [x, y] H Q
  d_mul : Γ.hot = false → ∀ X, Cxt Γ X → OpSt X (binaryOp .Mult) fun σ x y H Q => rDun Γ F 1002 σ [x, y] H Q
  d_and : Γ.hot = false → ∀ X, Cxt Γ X → OpSt X (binaryOp .BitAnd) fun σ x y H Q => rDun Γ F 1003 σ [x, y] H Q
  d_or : Γ.hot = false → ∀ X, Cxt Γ X → OpSt X (binaryOp .BitOr) fun σ x y H Q => rDun Γ F 1004 σ [x, y] H Q
  d_xor : Γ.hot = false → ∀ X, Cxt Γ X → OpSt X (binaryOp .BitXor) fun σ x y H Q => rDun Γ F 1005 σ [x, y] H Q
  d_eq : Γ.hot = false → ∀ X, Cxt Γ X → OpSt X (compareOp .Eq) fun σ x y H Q => rDun Γ F 1006 σ [x, y] H Q
  d_ne : Γ.hot = false → ∀ X, Cxt Γ X → OpSt X (compareOp .NotEq) fun σ x y H Q => rDun Γ F 1006 σ [x, y] H (postQ .ne Q)
  d_inv : Γ.hot = false → ∀ X, Cxt Γ X → UnSt X (unaryOp .Invert) fun σ x H Q => rDun Γ F 1007 σ [x] H Q
  d_ix : Γ.hot = false → ∀ X, Cxt Γ X → IxSt X fun σ x y H Q => rDun Γ F 1008 σ [x, y] H Q
  d_len : Γ.hot = false → ∀ X, Cxt Γ X → CallSt X (.builtin "len") fun σ vs H Q => rDun Γ F 1009 σ vs H (postQ .len Q)
  d_str : Γ.hot = false → ∀ X, Cxt Γ X → CallSt X (.type "str") fun σ vs H Q => rDun Γ F 1010 σ vs H (postQ .str_ Q)
theorem Fac.jm {Γ : Ct} {F : Callee} {k : Nat} (Fa : Fac Γ F k) {c m f : Nat} (h : (Γ.S.P.cl c).meths.lookup m = some f) : (Γ.S.dd f).length ≤ Γ.S.jm f := by
  unfold Stc.jm
  rw [Fa.mko c m f h]
  exact Nat.le_refl _
/-! ### a call of the pure run -/
section
variable {Γ : Ct} {F : Callee} {σ : L2.St} {B H : Hp} {e : Env}
theorem val_ar {B1 H1 B' H' : Hp} {e' : Env} {w : Bool} {d : D} {v : V} (own : ∀ p, Own σ e' p → ∃ o, H1 p = some o) (h : ValR Γ.S B1 H1 B' H' w d v) : ArR Γ σ B' H' e' (.v w d) v ∧ ∀ q, Tmp (.v w d) v q → H1 q = none := by
  cases w with
  | false => exact ⟨h, fun q t => t.elim⟩
  | true =>
    obtain ⟨p, hv, hp, hb, r⟩ := h
    refine ⟨⟨p, hv, hb, r, fun z => ?_⟩, fun q t => ?_⟩
    · obtain ⟨o, ho⟩ := own p z
      rw [hp] at ho; cases ho
    · have : v = .ref q := t
      rw [hv] at this
      cases this
      exact hp
theorem refs_v (ds : List D) : refs (ds.map (Ar.v false)) = [] := by
  induction ds with
  | nil => rfl
  | cons d r ih => exact ih
theorem arsR_v {B : Hp} : ∀ {vs : List V} {ds : List D}, Reps Γ.S B vs ds → ArsR Γ σ B H e (ds.map (Ar.v false)) vs
  | _, _, .nil => .nil
  | _, _, .cons r t => .cons r (arsR_v t) fun p q => q.elim
theorem tmps_v {vs : List V} {ds : List D} {p : Addr} : ¬ Tmps (ds.map (Ar.v false)) vs p := fun ⟨i, a, v, h, _, t⟩ => by
  rw [List.getElem?_map] at h
  cases q : ds[i]? with
  | none => rw [q] at h; cases h
  | some d => rw [q] at h; cases h; exact t.elim
theorem call_ok {f : Nat} {as : List Ar} {vs : List V} {r : R Ar} {Q : VK} {E : XK} (P : Pst Γ σ B H e) (h : ArsR Γ σ B H e as vs) (hc : callD F Γ.np f as e = some r)
    (K : ∀ a e', r = .ok a e' → ∀ v B' H', Po Γ σ (Tmps as vs) B H e B' H' e' → ArR Γ σ B' H' e' a v → (∀ q, Tmp a v q → H q = none) → Q v H')
    (X : ∀ c fs e', r = .ex c fs e' → ∀ cls dd B' H', Po Γ σ (Tmps as vs) B H e B' H' e' → ExR Γ.S B' H' cls dd c fs → E cls dd H') : spR Γ.S F f vs H Q E := by
  unfold callD M.bind at hc
  -- the operands apart
  have ap : ∃ as' B1 e1, apart Γ.np as e = some (.ok as' e1) ∧ Po Γ σ (Tmps as vs) B H e B1 H e1 ∧ ArsR Γ σ B1 H e1 as' vs ∧ distinct (refs as') = true ∧ (∀ p, Tmps as' vs p → Tmps as vs p) := by
    unfold apart at hc ⊢
    by_cases hd : distinct (refs as) = true
    · simp only [if_pos hd]
      exact ⟨as, B, e, rfl, Po.refl P, h, hd, fun _ z => z⟩
    · simp only [if_neg hd] at hc ⊢
      cases q : settles Γ.np as e with
      | none => simp only [q] at hc; cases hc
      | some x =>
        cases x with
        | ex c fs e' => simp only [q] at hc; cases hc
        | ok ds e1 =>
          obtain ⟨B1, p1, r1⟩ := settles_ok P h q
          exact ⟨_, B1, e1, rfl, p1, arsR_v r1, by rw [refs_v]; rfl, fun p z => (tmps_v z).elim⟩
  obtain ⟨as', B1, e1, ea, p1, h1, dn, tm⟩ := ap
  simp only [ea] at hc
  cases q : passed e1 as' with
  | none => simp only [q] at hc; cases hc
  | some ss =>
    simp only [q] at hc
    cases q2 : F f ss with
    | none => simp only [q2] at hc; cases hc
    | some cr =>
      refine ⟨B1, ss, cr, pass_ok p1.pst h1 q dn, q2, ?_⟩
      cases cr with
      | rt w d outs =>
        simp only [q2] at hc
        cases hc
        intro v B' H' rt val
        have g := given_ok p1.pst h1 q dn rt
        have po := p1.trans g fun p z => .inl (tm p z)
        obtain ⟨ar, fr⟩ := val_ar (e' := given Γ.np as' outs e1) (fun p z => p1.pst.own_some (g.own p z)) val
        exact K _ _ rfl v B' H' po ar fr
      | ex c fs outs =>
        simp only [q2] at hc
        cases hc
        intro cls dd B' H' rt ex
        have g := given_ok p1.pst h1 q dn rt
        exact X _ _ _ rfl cls dd B' H' (p1.trans g fun p z => .inl (tm p z)) ex
/-- an operation -/
theorem op_ok {o : Op} {as : List Ar} {vs : List V} {r : R Ar} {Q : VK} (P : Pst Γ σ B H e) (h : ArsR Γ σ B H e as vs) (hc : opM Γ.S.P F Γ.np Γ.hot o as e = some r)
    (K : ∀ a e', r = .ok a e' → ∀ v B' H', Po Γ σ (Tmps as vs) B H e B' H' e' → ArR Γ σ B' H' e' a v → (∀ q, Tmp a v q → H q = none) → Q v H')
    (X : ∀ c fs e', r = .ex c fs e' → ∀ cls dd B' H', Po Γ σ (Tmps as vs) B H e B' H' e' → ExR Γ.S B' H' cls dd c fs → Γ.W cls dd σ H') : rOp Γ F o σ vs H Q := by
  unfold opM at hc
  cases q : derefs e as with
  | none => simp only [q] at hc; cases hc
  | some ds =>
    simp only [q] at hc
    have dr := h.drs P q
    cases q2 : opD o ds with
    | some x =>
      obtain ⟨w, d⟩ := x
      simp only [q2] at hc
      cases hc
      refine .inl ⟨B, ds, w, d, P.ext, dr, q2, fun v B' H' n => ?_⟩
      obtain ⟨po, ar, fr⟩ := new_po P n
      exact K _ _ rfl v B' H' (po.wide fun _ z => z.elim) ar fr
    | none =>
      simp only [q2] at hc
      cases ds with
      | nil => cases hc
      | cons d ds' =>
        cases d with
        | obj c fs =>
          simp only at hc
          cases q3 : dunder o with
          | none => simp only [q3, Option.bind_none] at hc; cases hc
          | some m =>
            simp only [q3, Option.bind_some] at hc
            cases q4 : (Γ.S.P.cl c).meths.lookup m with
            | none => simp only [q4] at hc; cases hc
            | some f =>
              simp only [q4] at hc
              cases hh : Γ.hot with
              | true => rw [hh] at hc; cases hc
              | false =>
                rw [hh] at hc
                have hc : (if okArg Γ.S.P m c ds' = true then turnM o (callD F Γ.np f as e) else none) = some r := hc
                by_cases hty : okArg Γ.S.P m c ds' = true
                case neg => rw [if_neg hty] at hc; cases hc
                rw [if_pos hty] at hc
                cases dr with
                | cons d1 dr =>
                  rename_i v vs'
                  refine .inr ⟨hh, m, q3, B, v, vs', c, fs, f, rfl, P.ext, d1, q4, ⟨_, dr, hty⟩, ?_⟩
                  cases q5 : callD F Γ.np f as e with
                  | none => rw [q5] at hc; cases hc
                  | some r0 =>
                    rw [q5] at hc
                    refine call_ok P h q5 (fun a e' ea u B' H' po ar fr => ?_) (fun c fs e' ea cls dd B' H' po ex => ?_)
                    · subst ea
                      cases a with
                      | r i => cases hc
                      | v w d =>
                        obtain ⟨x, e1, e2⟩ := map_some (x := postD o d) hc
                        have K := K _ _ e2.symm
                        cases o with
                        | ne =>
                          cases d with
                          | bl b =>
                            cases e1
                            cases w with
                            | false =>
                              cases ar
                              exact ⟨b, rfl, K _ B' H' po (show Rep Γ.S B' _ _ from .bl (!b)) (fun _ t => t.elim)⟩
                            | true => obtain ⟨p, _, _, z, _⟩ := ar; cases z
                          | _ => cases e1
                        | len =>
                          cases d with
                          | int n =>
                            have e1 : (if 0 ≤ n ∧ n < 2 ^ 60 then some (D.int n) else none) = some x := e1
                            split at e1
                            · rename_i hn
                              cases e1
                              cases w with
                              | false =>
                                cases ar
                                exact ⟨n, rfl, hn.1, hn.2, K _ B' H' po (show Rep Γ.S B' _ _ from .int n) (fun _ t => t.elim)⟩
                              | true => obtain ⟨p, _, _, z, _⟩ := ar; cases z
                            · cases e1
                          | _ => cases e1
                        | str_ =>
                          cases d with
                          | str s =>
                            cases e1
                            cases w with
                            | false =>
                              have ar' := ar
                              cases ar with
                              | str _ k => exact ⟨mkS s, rfl, by rw [mkS_length, lim_eq]; exact k.2, K _ B' H' po ar' fr⟩
                            | true => obtain ⟨p, _, _, z, _⟩ := ar; cases z
                          | _ => cases e1
                        | _ =>
                          cases e1
                          exact K _ B' H' po ar fr
                    · subst ea
                      cases hc
                      exact X _ _ _ rfl cls dd B' H' po ex
        | _ => cases hc
end
/-! ### the callee's run -/
section
variable {Γ : Ct} {F : Callee} {k : Nat} {X : Cx}
theorem fn_run (Fa : Fac Γ F k) (hh : Γ.hot = false) (hX : Cxt Γ X) {pins : List (Addr × Obj)} {s : Shared} {σ : L2.St} {H : Hp} {vs : List V} {us : List Value} {Q : VK} {f : Nat} (I : Inv X pins σ H s) (r : Vals vs us) (h : spD Γ.S F f vs H Q (WE Γ.W σ)) :
    codeAny (model X.prog X.w) X.A (.call (.ref (Γ.S.fa f)) ⟨us, []⟩) (fun r s' => match r with | .ok (.ret v) => EP X pins σ Q v s' | .ok _ => False | .error e => X.xe e s') s := by
  have FR := Fa.run hh f
  rw [← hX.pg, ← hX.w, ← hX.K, ← hX.mg, ← hX.base] at FR
  have hx := passAt hX.takes σ
  refine codeAny_mono (FR X.A X.stack s H us vs Q (WE Γ.W σ) ((hX.calm hh).2.mono (Nat.le_trans (by omega) Fa.room)) I.env0 r h) fun r s' hq => ?_
  cases r with
  | error e => exact hx pins H s e s' I hq
  | ok fl =>
    cases fl with
    | ret u => exact I.after hq
    | next => exact False.elim hq
    | brk => exact False.elim hq
    | cont => exact False.elim hq
theorem fn_call (Fa : Fac Γ F k) (hh : Γ.hot = false) (hX : Cxt Γ X) (f : Nat) : CallSt X (.ref (Γ.S.fa f)) fun σ vs H Q => spD Γ.S F f vs H Q (WE Γ.W σ) := by
  intro pins s σ H xs us Q I r h
  refine wpAny_call (codeAny_mono (fn_run Fa hh hX I r h) fun r s' hq => ?_)
  cases r with
  | error e => exact hq
  | ok fl => cases fl <;> exact hq
/-- C(..) -/
theorem mk_call (Fa : Fac Γ F k) (hh : Γ.hot = false) (hX : Cxt Γ X) {c f : Nat} (hi : (Γ.S.P.cl c).init = some f) : CallSt X (.ref (Γ.S.ca c)) fun σ vs H Q => ∀ x dx, H x = none → H dx = none → dx ≠ x →
    spD Γ.S F f (.ref x :: vs) (upd (upd H dx (.own x)) x (.ins (Γ.S.ca c) dx [])) (fun v H2 => v = .non ∧ Q (.ref x) H2) (WE Γ.W σ) := by
  intro pins s σ H vs us Q I r h
  have M := Fa.mki c f hi
  rw [← hX.K] at M
  have FR := Fa.run hh f
  rw [← hX.pg, ← hX.w, ← hX.K, ← hX.mg, ← hX.base] at FR
  have hx := passAt hX.takes σ
  have hq := h (s.heap.objs.size + 1) s.heap.objs.size (I.hok.fresh (Nat.le_succ _)) (I.hok.fresh (Nat.le_refl _)) (Nat.ne_of_lt (Nat.lt_succ_self _))
  have I2 := Inv.made (C := Γ.S.ca c) I
  have r2 : Vals (V.ref (s.heap.objs.size + 1) :: vs) (Value.ref (s.heap.objs.size + 1) :: us) := .cons rfl r
  refine wpAny_call (make_map (f := Γ.S.fa f) I.kIn M.makes M.init (beq_iff_eq.mp M.fn) (codeAny_mono (FR _ X.stack _ _ (Value.ref (s.heap.objs.size + 1) :: us) _ _ (WE Γ.W σ) ((((hX.calm hh).2).mono (Nat.le_trans (by omega) Fa.room) : Room (k + 1) X.A).make (Γ.S.ca c) us [])
    (I2.env0.make (Γ.S.ca c) us []) r2 hq) fun r s' hq' => ?_))
  cases r with
  | error e => exact hx pins _ _ e s' I2 hq'
  | ok fl =>
    cases fl with
    | ret u =>
      obtain ⟨v, H', I3, rv, ev, q3⟩ := I2.after hq'
      subst ev
      exact ⟨rv, ⟨V.ref (s.heap.objs.size + 1), H', I3, rfl, q3⟩⟩
    | next => exact False.elim hq'
    | brk => exact False.elim hq'
    | cont => exact False.elim hq'
end
end Gal
set_option Elab.async false
set_option linter.all false
set_option maxRecDepth 100000
/-! G12: making an instance; the check of a written expression against the small one. -/
namespace Gal
open PySem L2 PyProof.Rows PySem.Spec
section
variable {Γ : Ct} {F : Callee} {σ : L2.St} {B H : Hp} {e : Env}
theorem ownV_succ {s : Sl} {v : V} {ss : List Sl} {vs : List V} {i : Nat} {p : Addr} : OwnVAt (s :: ss) (v :: vs) (i + 1) p ↔ OwnVAt ss vs i p := Iff.rfl
theorem SlV.mono {S : Stc} {B H H' : Hp} {s : Sl} {v : V} (k : ∀ p o, H p = some o → H' p = some o) (h : SlV S B H s v) : SlV S B H' s v := by
  cases s with
  | va d => exact h
  | ow d =>
    obtain ⟨p, hv, hb, r⟩ := h
    obtain ⟨o, ho, _⟩ := r.some
    exact ⟨p, hv, hb, r.mono (Ex.refl B) ((k p o ho).trans ho.symm)⟩
  | _ => exact h.elim
theorem SlVs.mono {S : Stc} {B H H' : Hp} (k : ∀ p o, H p = some o → H' p = some o) : ∀ {ss : List Sl} {vs : List V}, SlVs S B H ss vs → SlVs S B H' ss vs
  | _, _, .nil => .nil
  | _, _, .cons h t => .cons (h.mono k) (SlVs.mono k t)
theorem SlVs.get {S : Stc} {B H : Hp} : ∀ {ss : List Sl} {vs : List V} {i : Nat} {s : Sl} {v : V}, SlVs S B H ss vs → ss[i]? = some s → vs[i]? = some v → SlV S B H s v
  | _, _, _, _, _, .nil, h, _ => by simp at h
  | _, _, 0, _, _, .cons h t, h1, h2 => by simp at h1 h2; subst h1; subst h2; exact h
  | _, _, i + 1, _, _, .cons h t, h1, h2 => SlVs.get (i := i) t (by simpa using h1) (by simpa using h2)
theorem PaR.alive {S : Stc} {B H : Hp} {ss : List Sl} {vs : List V} (p : PaR S B H ss vs) {i : Nat} {a : Addr} (h : OwnVAt ss vs i a) : ∃ o, H a = some o := by
  obtain ⟨d, h1, h2⟩ := h
  obtain ⟨q, hq, _, r⟩ := p.rel.get h1 h2
  cases hq
  obtain ⟨o, ho, _⟩ := r.some
  exact ⟨o, ho⟩
theorem make_ok {c : Nat} {as : List Ar} {vs : List V} {r : R Ar} {Q : VK} {E : XK} (P : Pst Γ σ B H e) (h : ArsR Γ σ B H e as vs) (hc : mkObj Γ.S.P F Γ.np c as e = some r)
    (K : ∀ a e', r = .ok a e' → ∀ v B' H', Po Γ σ (Tmps as vs) B H e B' H' e' → ArR Γ σ B' H' e' a v → (∀ q, Tmp a v q → H q = none) → Q v H')
    (X : ∀ c fs e', r = .ex c fs e' → ∀ cls dd B' H', Po Γ σ (Tmps as vs) B H e B' H' e' → ExR Γ.S B' H' cls dd c fs → E cls dd H') :
    ∃ f, (Γ.S.P.cl c).init = some f ∧ ∀ x dx, H x = none → H dx = none → dx ≠ x → spR Γ.S F f (.ref x :: vs) (upd (upd H dx (.own x)) x (.ins (Γ.S.ca c) dx [])) (fun v H2 => v = .non ∧ Q (.ref x) H2) E := by
  unfold mkObj M.bind at hc
  have ap : ∃ as' B1 e1, apart Γ.np as e = some (.ok as' e1) ∧ Po Γ σ (Tmps as vs) B H e B1 H e1 ∧ ArsR Γ σ B1 H e1 as' vs ∧ distinct (refs as') = true ∧ (∀ p, Tmps as' vs p → Tmps as vs p) := by
    unfold apart at hc ⊢
    by_cases hd : distinct (refs as) = true
    · simp only [if_pos hd]
      exact ⟨as, B, e, rfl, Po.refl P, h, hd, fun _ z => z⟩
    · simp only [if_neg hd] at hc ⊢
      cases q : settles Γ.np as e with
      | none => simp only [q] at hc; cases hc
      | some x =>
        cases x with
        | ex c fs e' => simp only [q] at hc; cases hc
        | ok ds e1 =>
          obtain ⟨B1, p1, r1⟩ := settles_ok P h q
          exact ⟨_, B1, e1, rfl, p1, arsR_v r1, by rw [refs_v]; rfl, fun p z => (tmps_v z).elim⟩
  obtain ⟨as', B1, e1, ea, p1, h1, dn, tm⟩ := ap
  simp only [ea] at hc
  cases qi : (Γ.S.P.cl c).init with
  | none => simp only [qi] at hc; cases hc
  | some f =>
    cases q : passed e1 as' with
    | none => simp only [qi, q] at hc; cases hc
    | some ss =>
      simp only [qi, q] at hc
      refine ⟨f, rfl, fun x dx hx hdx ne => ?_⟩
      have pa := pass_ok p1.pst h1 q dn
      have up : ∀ p o, H p = some o → upd (upd H dx (.own x)) x (.ins (Γ.S.ca c) dx []) p = some o := fun p o hp => by
        rw [upd_ne (ne_of_none hp hx), upd_ne (ne_of_none hp hdx)]; exact hp
      have up' : ∀ p, upd (upd H dx (.own x)) x (.ins (Γ.S.ca c) dx []) p = none → H p = none := fun p hp => by
        cases z : H p with
        | none => rfl
        | some o => rw [up p o z] at hp; cases hp
      have bx : B1 x = none := b_none p1.pst.ext hx
      have pa1 : PaR Γ.S B1 (upd (upd H dx (.own x)) x (.ins (Γ.S.ca c) dx [])) (.ow (.obj c []) :: ss) (.ref x :: vs) := by
        refine ⟨p1.pst.ext.trans up, .cons ⟨x, rfl, bx, .obj upd_same .nil⟩ (pa.rel.mono up), fun i j p o1 o2 => ?_⟩
        cases i with
        | zero =>
          obtain ⟨d, _, hv⟩ := o1
          have : x = p := by simpa using hv
          subst this
          cases j with
          | zero => rfl
          | succ j => obtain ⟨o, ho⟩ := pa.alive (ownV_succ.mp o2); rw [hx] at ho; cases ho
        | succ i =>
          cases j with
          | zero =>
            obtain ⟨d, _, hv⟩ := o2
            have : x = p := by simpa using hv
            subst this
            obtain ⟨o, ho⟩ := pa.alive (ownV_succ.mp o1); rw [hx] at ho; cases ho
          | succ j => exact congrArg Nat.succ (pa.dj i j p (ownV_succ.mp o1) (ownV_succ.mp o2))
      cases q2 : F f (.ow (.obj c []) :: ss) with
      | none => simp only [q2] at hc; cases hc
      | some cr =>
        refine ⟨B1, _, cr, pa1, q2, ?_⟩
        have back : ∀ {s0 : Sl} {outs : List Sl} {B' H' : Hp}, RtR Γ.S B1 (upd (upd H dx (.own x)) x (.ins (Γ.S.ca c) dx [])) (.ow (.obj c []) :: ss) (.ref x :: vs) (s0 :: outs) B' H' → RtR Γ.S B1 H ss vs outs B' H' := by
          intro s0 outs B' H' rt
          refine ⟨⟨rt.stp.b, fun a o nT ha => rt.stp.k a o (fun ⟨i, o'⟩ => ?_) (up a o ha), fun a o ha => ?_, fun p o hp => rt.stp.a p o (up p o hp)⟩, rt.ext, Nat.succ.inj rt.len, fun i p o => rt.out (i + 1) p (ownV_succ.mpr o)⟩
          · cases i with
            | zero =>
              obtain ⟨d, _, hv⟩ := o'
              have : x = a := by simpa using hv
              subst this
              rw [hx] at ha; cases ha
            | succ i => exact nT ⟨i, ownV_succ.mp o'⟩
          · rcases rt.stp.n a o ha with z | z | ⟨i, o'⟩
            · exact .inl z
            · exact .inr (.inl (up' a z))
            · cases i with
              | zero =>
                obtain ⟨d, _, hv⟩ := o'
                have : x = a := by simpa using hv
                subst this
                exact .inr (.inl hx)
              | succ i => exact .inr (.inr ⟨i, ownV_succ.mp o'⟩)
        cases cr with
        | rt w d outs =>
          simp only [q2] at hc
          cases d with
          | non =>
            cases outs with
            | nil => cases hc
            | cons s0 outs =>
              cases s0 with
              | ow o =>
                cases hc
                intro v B' H' rt val
                have vn : v = .non := by
                  cases w with
                  | false => cases val; rfl
                  | true => obtain ⟨p, _, _, _, z⟩ := val; cases z
                have g := given_ok p1.pst h1 q dn (back rt)
                have o0 := rt.out 0 x ⟨_, rfl, rfl⟩
                refine ⟨vn, K _ _ rfl (.ref x) B' H' (p1.trans g fun p z => .inl (tm p z)) ⟨x, rfl, o0.1, o0.2, fun z => ?_⟩ fun p t => ?_⟩
                · obtain ⟨u, hu⟩ := p1.pst.own_some (g.own x z)
                  rw [hx] at hu; cases hu
                · have : V.ref x = .ref p := t
                  cases this
                  exact hx
              | _ => cases hc
          | _ => cases hc
        | ex c' fs outs =>
          simp only [q2] at hc
          cases outs with
          | nil => cases hc
          | cons s0 outs =>
            cases hc
            intro cls dd B' H' rt ex
            have g := given_ok p1.pst h1 q dn (back rt)
            exact X _ _ _ rfl cls dd B' H' (p1.trans g fun p z => .inl (tm p z)) ex
end
/-! ### the check -/
def binOf : Operator → Option Op
  | .Add => some .add
  | .Sub => some .sub
  | .Mult => some .mul
  | .FloorDiv => some .fdiv
  | .Mod => some .mod
  | .Pow => some .pow
  | .BitAnd => some .band
  | .BitOr => some .bor
  | .BitXor => some .bxor
  | _ => none
def unOf : UnaryOp → Option Op
  | .USub => some .neg
  | .Invert => some .inv
  | _ => none
def cmpOf : CmpOp → Option Op
  | .Eq => some .eq
  | .NotEq => some .ne
  | .Lt => some .lt
  | .LtE => some .le
  | .Gt => some .gt
  | .GtE => some .ge
  | .Is => some .is_
  | .IsNot => some .isnot
  | .In => some .in_
  | .NotIn => some .notin
/-- a built-in's name: its operation, how many arguments, may it stand in an except suite -/
def bltOf (x : PySem.Str) (n : Nat) : Option (Op × Bool) :=
  if n = 1 then
    if x = "len" then some (.len, true) else if x = "int" then some (.int_, true) else if x = "str" then some (.str_, true) else if x = "abs" then some (.abs_, true)
    else if x = "sum" then some (.sum_, false) else if x = "all" then some (.all_, false) else if x = "any" then some (.any_, false)
    else if x = "list" then some (.list_, true) else if x = "tuple" then some (.tuple_, true) else none
  else if n = 2 then if x = "min" then some (.min2, false) else if x = "max" then some (.max2, false) else none
  else none
def mtOf (x : PySem.Str) : Option Mt :=
  if x = "find" then some .sFind else if x = "join" then some .sJoin else if x = "split" then some .sSplit else if x = "count" then some .sCount
  else if x = "endswith" then some .sEnds else if x = "index" then some .lIndex else none
def tyOf (x : PySem.Str) : Option Ty :=
  if x = "int" then some .int else if x = "str" then some .str else if x = "bool" then some .bool else if x = "list" then some .list
  else if x = "tuple" then some .tuple else if x = "dict" then some .dict else if x = "ValueError" then some .ve else none
def constOf : Const → Option D
  | .none => some .non
  | .bool b => some (.bl b)
  | .int i => some (.int i)
  | .str s => some (.str s.cps.toList)
  | _ => none
def isGl (sc : Scope) (x : PySem.Str) : Bool := decide (sc.names.lookup x = some .globalImplicit) && !(x == ("__debug__" : PySem.Str)) && !(x == ("__name__" : PySem.Str))
def isVis (sc : Scope) (x : PySem.Str) : Bool := (decide (sc.names.lookup x = some .local) || decide (sc.names.lookup x = some .cell)) && !(x == ("__debug__" : PySem.Str)) && !(x == ("__classdict__" : PySem.Str))
def plainIx : Expr → Bool
  | .Slice _ _ none _ => false
  | _ => true
theorem plainIx_ok {b : Expr} (h : plainIx b = true) : PlainIx b := by
  intro o i
  cases b with
  | Slice lo hi st p =>
    cases st with
    | none => cases h
    | some _ => rfl
  | _ => rfl
/-- the test of such an expression is its value's truth -/
def plainT : Expr → Bool
  | .UnaryOp .Not _ _ => false
  | .BoolOp _ _ _ => false
  | .IfExp _ _ _ _ => false
  | .Compare _ _ _ _ => false
  | _ => true
theorem plainT_ok {a : Expr} (h : plainT a = true) (env : PySem.Env) : ∀ whole, isTrue a env whole = (do let v ← whole; standAt a.pos; holding [v] (truthy v)) := by
  intro whole
  cases a with
  | UnaryOp op x p => cases op <;> first | rfl | cases h
  | BoolOp _ _ _ => cases h
  | IfExp _ _ _ _ => cases h
  | Compare _ _ _ _ => cases h
  | _ => rfl
end Gal
set_option Elab.async false
set_option linter.all false
set_option maxRecDepth 100000
/-! G13: what is shown of an expression; the forms one by one. -/
namespace Gal
open PySem L2 PyProof.Rows PySem.Spec
section
variable (Γ : Ct) (σ : L2.St) (B H : Hp) (e : Env)
def KO (r : R Ar) (Q : VK) : Prop := ∀ a e', r = .ok a e' → ∀ v B' H', Po Γ σ noT B H e B' H' e' → ArR Γ σ B' H' e' a v → (∀ q, Tmp a v q → H q = none) → Q v H'
def KX {α : Type} (r : R α) : Prop := ∀ c fs e', r = .ex c fs e' → ∀ cls dd B' H', Po Γ σ noT B H e B' H' e' → ExR Γ.S B' H' cls dd c fs → Γ.W cls dd σ H'
def KL (r : R (List Ar)) (Q : List V → Hp → Prop) : Prop := ∀ as e', r = .ok as e' → ∀ vs B' H', Po Γ σ noT B H e B' H' e' → ArsR Γ σ B' H' e' as vs → (∀ q, Tmps as vs q → H q = none) → Q vs H'
def KT (r : R Bool) (Q : Bool → Hp → Prop) : Prop := ∀ b e', r = .ok b e' → ∀ B' H', Po Γ σ noT B H e B' H' e' → Q b H'
def KP (r : R (Option Int)) (Q : Option Int → Hp → Prop) : Prop := ∀ b e', r = .ok b e' → ∀ B' H', Po Γ σ noT B H e B' H' e' → Q b H'
end
def WO (Γ : Ct) (x : Option Expr) : TO := fun σ H Q => ∃ te, (∀ X, Cxt Γ X → L2.PO X x te) ∧ te σ H Q
theorem WO_po {Γ : Ct} {X : Cx} {x : Option Expr} (h : Cxt Γ X) : L2.PO X x (WO Γ x) := ⟨fun pins s σ H Q I ⟨_, f, q⟩ => (f X h).run pins s σ H Q I q⟩
section
variable (Γ : Ct) (F : Callee)
abbrev evG (m : E) : Sm := ev Γ.S.P F Γ.np Γ.hot m
def SO (m : E) (x : Expr) : Prop := ∀ σ B H e r Q, Pst Γ σ B H e → (evG Γ F m).o e = some r → KO Γ σ B H e r Q → KX Γ σ B H e r → W Γ x σ H Q
def ST (m : E) (x : Expr) : Prop := ∀ σ B H e r Q, Pst Γ σ B H e → (evG Γ F m).t e = some r → KT Γ σ B H e r Q → KX Γ σ B H e r → WT Γ x σ H Q
def SL (m : E) (xs : List Expr) (ds : List D) : Prop := ∀ σ B H e r Q, Pst Γ σ B H e → (evG Γ F m).l e = some r → KL Γ σ B H e r Q → KX Γ σ B H e r → wA Γ xs σ H fun vs H1 => Q (vs ++ ds.map cV) H1
def SP (m : E) (x : Option Expr) : Prop := ∀ σ B H e r Q, Pst Γ σ B H e → (evG Γ F m).p e = some r → KP Γ σ B H e r Q → KX Γ σ B H e r → WO Γ x σ H Q
/-- operands of and, or: as values, as tests -/
def SJ (a : Bool) (m : E) (op : BoolOp) (xs : List Expr) : Prop := ∀ pos σ B H e r Q, Pst Γ σ B H e → (evG Γ F m).j a e = some r → KT Γ σ B H e r Q → KX Γ σ B H e r → W Γ (.BoolOp op xs pos) σ H fun v H' => ∃ b, v = .bl b ∧ Q b H'
def SK (a : Bool) (m : E) (op : BoolOp) (xs : List Expr) : Prop := ∀ pos σ B H e r Q, Pst Γ σ B H e → (evG Γ F m).k a e = some r → KT Γ σ B H e r Q → KX Γ σ B H e r → WW Γ (.BoolOp op xs pos) σ H Q
end
section
variable {Γ : Ct} {F : Callee} {k : Nat} {σ : L2.St} {B H B1 H1 : Hp} {e e1 : Env}
theorem KX.step {α β : Type} {r : R α} {r' : R β} (po : Po Γ σ noT B H e B1 H1 e1) (h : KX Γ σ B H e r) (q : ∀ c fs e', r' = .ex c fs e' → r = .ex c fs e') : KX Γ σ B1 H1 e1 r' :=
  fun c fs e' he cls dd B' H' p x => h c fs e' (q c fs e' he) cls dd B' H' (po.then p) x
theorem KX.to {α β : Type} {r : R α} {r' : R β} (h : KX Γ σ B H e r) (q : ∀ c fs e', r' = .ex c fs e' → r = .ex c fs e') : KX Γ σ B H e r' :=
  fun c fs e' he => h c fs e' (q c fs e' he)
theorem KO.step {r : R Ar} {Q : VK} (po : Po Γ σ noT B H e B1 H1 e1) (h : KO Γ σ B H e r Q) : KO Γ σ B1 H1 e1 r Q :=
  fun a e' he v B' H' p ar fr => h a e' he v B' H' (po.then p) ar fun q t => po.stp.fresh (fr q t)
theorem KL.step {r : R (List Ar)} {Q : List V → Hp → Prop} (po : Po Γ σ noT B H e B1 H1 e1) (h : KL Γ σ B H e r Q) : KL Γ σ B1 H1 e1 r Q :=
  fun a e' he v B' H' p ar fr => h a e' he v B' H' (po.then p) ar fun q t => po.stp.fresh (fr q t)
theorem KT.step {r : R Bool} {Q : Bool → Hp → Prop} (po : Po Γ σ noT B H e B1 H1 e1) (h : KT Γ σ B H e r Q) : KT Γ σ B1 H1 e1 r Q :=
  fun a e' he B' H' p => h a e' he B' H' (po.then p)
/-- a run's first part -/
theorem bind_inv {α β : Type} {m : M α} {f : α → M β} {r : R β} (h : M.bind m f e = some r) : (∃ a e1, m e = some (.ok a e1) ∧ f a e1 = some r) ∨ ∃ c fs e1, m e = some (.ex c fs e1) ∧ r = .ex c fs e1 := by
  unfold M.bind at h
  cases q : m e with
  | none => rw [q] at h; cases h
  | some x =>
    rw [q] at h
    cases x with
    | ok a e1 => exact .inl ⟨a, e1, rfl, h⟩
    | ex c fs e1 => cases h; exact .inr ⟨c, fs, e1, rfl, rfl⟩
theorem exR {α β : Type} {c : Nat} {fs : List (Nat × D)} {e1 : Env} {r : R β} (h : r = .ex c fs e1) : ∀ c' fs' e', (R.ex c fs e1 : R α) = .ex c' fs' e' → r = .ex c' fs' e' := fun c' fs' e' q => by cases q; exact h
theorem okX {α : Type} {a : α} {e1 : Env} : KX Γ σ B H e (R.ok a e1) := fun c fs e' q => by cases q
/-- an operand list, then a def's or a built-in's work over it -/
theorem list_step {as : E} {xs : List Expr} {ds : List D} {β : Type} {f : List Ar → M β} {r : R β} {R' : List V → Hp → Prop} (hl : SL Γ F as xs ds) (P : Pst Γ σ B H e) (hr : M.bind (evG Γ F as).l f e = some r) (X : KX Γ σ B H e r)
    (h : ∀ as' e1 vs B1 H1, f as' e1 = some r → Pst Γ σ B1 H1 e1 → Po Γ σ noT B H e B1 H1 e1 → ArsR Γ σ B1 H1 e1 as' vs → (∀ q, Tmps as' vs q → H q = none) → R' vs H1) : wA Γ xs σ H fun vs H1 => R' (vs ++ ds.map cV) H1 := by
  rcases bind_inv hr with ⟨as', e1, h1, h2⟩ | ⟨c, fs, e1, h1, h2⟩
  · exact hl σ B H e _ R' P h1 (fun a e' he vs B1 H1 po ar fr => by cases he; exact h as' e1 vs B1 H1 h2 po.pst po ar fr) okX
  · exact hl σ B H e _ R' P h1 (fun a e' he => by cases he) (X.to (exR h2))
/-- behind the operands: what the work leaves, seen from ahead of them -/
theorem fin_KO {as' : List Ar} {vs : List V} {r : R Ar} {Q : VK} (po : Po Γ σ noT B H e B1 H1 e1) (fr : ∀ q, Tmps as' vs q → H q = none) (K : KO Γ σ B H e r Q) :
    ∀ a e', r = .ok a e' → ∀ v B' H', Po Γ σ (Tmps as' vs) B1 H1 e1 B' H' e' → ArR Γ σ B' H' e' a v → (∀ q, Tmp a v q → H1 q = none) → Q v H' :=
  fun a e' he v B' H' p ar f => K a e' he v B' H' (po.trans p fun q t => .inr (fr q t)) ar fun q t => po.stp.fresh (f q t)
theorem fin_KX {as' : List Ar} {vs : List V} {r : R Ar} (po : Po Γ σ noT B H e B1 H1 e1) (fr : ∀ q, Tmps as' vs q → H q = none) (K : KX Γ σ B H e r) :
    ∀ c fs e', r = .ex c fs e' → ∀ cls dd B' H', Po Γ σ (Tmps as' vs) B1 H1 e1 B' H' e' → ExR Γ.S B' H' cls dd c fs → Γ.W cls dd σ H' :=
  fun c fs e' he cls dd B' H' p x => K c fs e' he cls dd B' H' (po.trans p fun q t => .inr (fr q t)) x
/-! ### lists of operands -/
theorem sl_nil : SL Γ F .nil [] [] := by
  intro σ B H e r Q P hr K X
  cases hr
  exact K [] e rfl [] B H (Po.refl P) .nil (fun q ⟨i, a, v, h, _⟩ => by simp at h)
/-- the same constant -/
def sameC : D → D → Bool
  | .non, .non => true
  | .bl a, .bl b => a == b
  | .int a, .int b => a == b
  | .str a, .str b => a == b
  | _, _ => false
theorem sameC_eq : ∀ {a b : D}, sameC a b = true → a = b := by
  intro a b h
  cases a <;> cases b <;> simp [sameC] at h ⊢ <;> exact h
def conL : E → List D → Bool
  | .nil, ds => ds.isEmpty
  | .cons (.con d) r, d' :: ds => sameC d d' && isC d && conL r ds
  | _, _ => false
theorem conL_run (m : E) : ∀ {ds : List D} {e : Env} {r : R (List Ar)}, conL m ds = true → (evG Γ F m).l e = some r → r = .ok (ds.map (Ar.v false)) e ∧ ds.all isC = true := by
  induction m with
  | nil =>
    intro ds e r h hr
    cases ds with
    | nil => cases hr; exact ⟨rfl, rfl⟩
    | cons _ _ => cases h
  | cons a m _ ih =>
    intro ds e r h hr
    cases a with
    | con d =>
      cases ds with
      | nil => cases h
      | cons d' ds =>
        have h : (sameC d d' && isC d && conL m ds) = true := h
        obtain ⟨h1, h3⟩ := Bool.and_eq_true_iff.mp h
        obtain ⟨h1, h2⟩ := Bool.and_eq_true_iff.mp h1
        have := sameC_eq h1
        subst this
        have hr : M.bind (M.pure (.v false d)) (fun a => M.bind (evG Γ F m).l fun as => M.pure (a :: as)) e = some r := hr
        rcases bind_inv hr with ⟨a, e1, q1, q2⟩ | ⟨c, fs, e1, q1, q2⟩
        · cases q1
          rcases bind_inv q2 with ⟨as, e2, q3, q4⟩ | ⟨c, fs, e2, q3, q4⟩
          · obtain ⟨i1, i2⟩ := ih h3 q3
            cases i1
            cases q4
            refine ⟨rfl, ?_⟩
            rw [List.all_cons, h2, i2]
            rfl
          · obtain ⟨i1, i2⟩ := ih h3 q3
            cases i1
        · cases q1
    | _ => cases h
  | _ => intro ds e r h hr; cases h
theorem sl_con {m : E} {ds : List D} (h : conL m ds = true) : SL Γ F m [] ds := by
  intro σ B H e r Q P hr K X
  obtain ⟨rfl, hc⟩ := conL_run m h hr
  exact K _ _ rfl _ B H (Po.refl P) (arsR_v (isC_reps hc)) fun q t => (tmps_v t).elim
theorem sl_cons {m rest : E} {x : Expr} {xs : List Expr} {ds : List D} (hm : SO Γ F m x) (hs : SL Γ F rest xs ds) : SL Γ F (.cons m rest) (x :: xs) ds := by
  intro σ B H e r Q P hr K X
  have hr : M.bind (evG Γ F m).o (fun a => M.bind (evG Γ F rest).l fun as => M.pure (a :: as)) e = some r := hr
  show W Γ x σ H fun v H1 => wA Γ xs σ H1 fun vs H2 => Q (v :: vs ++ ds.map cV) H2
  rcases bind_inv hr with ⟨a, e1, q1, q2⟩ | ⟨c, fs, e1, q1, q2⟩
  · refine hm σ B H e _ _ P q1 (fun a' e' he v B1 H1 po ar fr => ?_) okX
    cases he
    rcases bind_inv q2 with ⟨as, e2, q3, q4⟩ | ⟨c, fs, e2, q3, q4⟩
    · cases q4
      refine hs σ B1 H1 e1 _ (fun vs H2 => Q (v :: vs) H2) po.pst q3 (fun as' e' he vs B2 H2 po2 ars fr2 => ?_) okX
      cases he
      refine K _ _ rfl _ B2 H2 (po.then po2) (.cons (po2.ar ar) ars fun p t i b u h1 h2 t2 => ?_) fun q ⟨i, b, u, h1, h2, t⟩ => ?_
      · obtain ⟨_, _, o, ho⟩ := tmp_not_own ar t
        have := fr2 p ⟨i, b, u, h1, h2, t2⟩
        rw [ho] at this
        cases this
      · cases i with
        | zero => simp at h1 h2; subst h1; subst h2; exact fr q t
        | succ i => exact po.stp.fresh (fr2 q ⟨i, b, u, by simpa using h1, by simpa using h2, t⟩)
    · subst q4
      exact hs σ B1 H1 e1 _ (fun vs H2 => Q (v :: vs) H2) po.pst q3 (fun as' e' he => by cases he) (X.step po (exR rfl))
  · subst q2
    exact hm σ B H e _ _ P q1 (fun a' e' he => by cases he) (X.to (exR rfl))
/-! ### the forms -/
theorem so_var {i : Nat} {id : PySem.Str} {p : Pos} (hN : Γ.N[i]? = some id) (hv : isVis Γ.sc id = true) : SO Γ F (.var i) (.Name id p) := by
  intro σ B H e r Q P hr K X
  have hr : varM i e = some r := hr
  refine ⟨tVar i, fun X hX => ?_, ?_⟩
  · unfold isVis at hv
    simp only [Bool.and_eq_true, Bool.or_eq_true, decide_eq_true_eq, Bool.not_eq_true'] at hv
    refine pe_var (by rw [hX.N]; exact hN) ?_ hv.1.2 hv.2
    rw [hX.sc]
    exact hv.1.1.imp _root_.id .inl
  · unfold varM at hr
    cases q : e[i]? with
    | none => simp only [q] at hr; cases hr
    | some s =>
      simp only [q] at hr
      have z := P.sl i s q
      have jn : ∀ {v : V}, σ[i]?.join = some v → σ[i]? = some (some v) := fun {v} h => by
        cases y : σ[i]? with
        | none => rw [y] at h; cases h
        | some y' => rw [y] at h; simp at h; rw [h]
      cases s with
      | va d => cases hr; obtain ⟨v, hv, rp⟩ := z; exact ⟨v, jn hv, K _ _ rfl v B H (Po.refl P) rp fun _ t => t.elim⟩
      | fz d => cases hr; obtain ⟨v, hv, rp, _⟩ := z; exact ⟨_, jn hv, K _ _ rfl _ B H (Po.refl P) rp fun _ t => t.elim⟩
      | ow d => cases hr; obtain ⟨v, hv, _⟩ := z; exact ⟨_, jn hv, K _ _ rfl _ B H (Po.refl P) (jn hv) fun _ t => t.elim⟩
      | lk d => cases hr; obtain ⟨v, hv, _⟩ := z; exact ⟨_, jn hv, K _ _ rfl _ B H (Po.refl P) (jn hv) fun _ t => t.elim⟩
      | _ => cases hr
def constEq : Const → D → Bool
  | .none, .non => true
  | .bool a, .bl b => a == b
  | .int a, .int b => a == b
  | .str a, .str b => (a.cps.toList == b) && isC (.str b)
  | _, _ => false
theorem so_con {d : D} {c : Const} {n : Nat} {p : Pos} (h : constEq c d = true) : SO Γ F (.con d) (.Constant c n p) := by
  intro σ B H e r Q P hr K X
  cases hr
  have k : ∀ v, Rep Γ.S B v d → Q v H := fun v rp => K _ _ rfl v B H (Po.refl P) rp fun _ t => t.elim
  cases c with
  | none =>
    cases d with
    | non => exact ⟨tC .non, fun X hX => pe_non, k _ .non⟩
    | _ => cases h
  | bool a =>
    cases d with
    | bl b => have : a = b := by simpa [constEq] using h
              subst this; exact ⟨tC (.bl a), fun X hX => pe_bl, k _ (.bl a)⟩
    | _ => cases h
  | int a =>
    cases d with
    | int b => have : a = b := by simpa [constEq] using h
               subst this; exact ⟨tC (.int a), fun X hX => pe_int, k _ (.int a)⟩
    | _ => cases h
  | str a =>
    cases d with
    | str b =>
      have h : ((a.cps.toList == b) && isC (.str b)) = true := h
      obtain ⟨h1, h2⟩ := Bool.and_eq_true_iff.mp h
      have : a = mkS b := by
        have h1 := beq_iff_eq.mp h1
        apply TL.ext_tl
        exact h1
      subst this
      exact ⟨tC (.str (mkS b)), fun X hX => pe_str, k _ (isC_rep h2)⟩
    | _ => cases h
  | _ => cases d <;> cases h
theorem isGl_ok {X : Cx} (hX : Cxt Γ X) {x : PySem.Str} (h : isGl Γ.sc x = true) : Gl X x ∧ (x == ("__debug__" : PySem.Str)) = false ∧ x ≠ "__name__" := by
  unfold isGl at h
  simp only [Bool.and_eq_true, decide_eq_true_eq, Bool.not_eq_true'] at h
  refine ⟨?_, h.1.2, fun z => ?_⟩
  · show X.env.scope.names.lookup x = _
    rw [hX.sc]; exact h.1.1
  · subst z
    exact absurd h.2 (by decide)
theorem so_gl (Fa : Fac Γ F k) {i : Nat} {id : PySem.Str} {p : Pos} (hg : isGl Γ.sc id = true) (hv : Γ.S.gl id = some (.val i)) : SO Γ F (.gl i) (.Name id p) := by
  intro σ B H e r Q P hr K X
  obtain ⟨v, u, h1, h2, h3⟩ := Fa.gls id _ hv
  obtain ⟨d, h4, h5⟩ := map_some (x := Γ.S.P.gls[i]?) hr
  subst h5
  refine ⟨tC v, fun X hX => ?_, K _ _ rfl v B H (Po.refl P) (h3 d h4 B) fun _ t => t.elim⟩
  obtain ⟨g1, g2, _⟩ := isGl_ok hX hg
  exact pe_glob g1 (by rw [hX.mg]; exact h1) h2 g2
theorem so_op2 {o : Op} {as : E} {a b : Expr} {op : Operator} {pos : Pos} (ho : ∀ X, Cxt Γ X → OpSt X (binaryOp op) (rOp2 Γ F o)) (hl : SL Γ F as [a, b] []) : SO Γ F (.op o as) (.BinOp a op b pos) := by
  intro σ B H e r Q P hr K X
  refine ⟨_, fun X hX => pe_opSt (ho X hX) (W_pe hX) (W_pe hX), ?_⟩
  exact list_step (R' := fun vs H2 => rOp Γ F o σ vs H2 Q) hl P hr X fun as' e1 vs B1 H1 hf P1 po ars fr => op_ok P1 ars hf (fin_KO po fr K) (fin_KX po fr X)
theorem so_op1 {o : Op} {as : E} {a : Expr} {op : UnaryOp} {pos : Pos} (ho : ∀ X, Cxt Γ X → UnSt X (unaryOp op) (rOp1 Γ F o)) (hl : SL Γ F as [a] []) : SO Γ F (.op o as) (.UnaryOp op a pos) := by
  intro σ B H e r Q P hr K X
  refine ⟨_, fun X hX => pe_unSt (ho X hX) (W_pe hX), ?_⟩
  exact list_step (R' := fun vs H2 => rOp Γ F o σ vs H2 Q) hl P hr X fun as' e1 vs B1 H1 hf P1 po ars fr => op_ok P1 ars hf (fin_KO po fr K) (fin_KX po fr X)
theorem so_cmp {o : Op} {as : E} {a b : Expr} {op : CmpOp} {pos : Pos} (ho : ∀ X, Cxt Γ X → OpSt X (compareOp op) (rOp2 Γ F o)) (hm : behindInMarks op b = false) (hl : SL Γ F as [a, b] []) : SO Γ F (.op o as) (.Compare a [op] [b] pos) := by
  intro σ B H e r Q P hr K X
  refine ⟨_, fun X hX => pe_cmpSt (ho X hX) (W_pe hX) (W_pe hX) hm, ?_⟩
  exact list_step (R' := fun vs H2 => rOp Γ F o σ vs H2 Q) hl P hr X fun as' e1 vs B1 H1 hf P1 po ars fr => op_ok P1 ars hf (fin_KO po fr K) (fin_KX po fr X)
theorem so_ix {as : E} {a b : Expr} {pos : Pos} (ho : ∀ X, Cxt Γ X → IxSt X (rOp2 Γ F .ix)) (hb : plainIx b = true) (hl : SL Γ F as [a, b] []) : SO Γ F (.op .ix as) (.Subscript a b pos) := by
  intro σ B H e r Q P hr K X
  refine ⟨_, fun X hX => pe_ixSt (ho X hX) (W_pe hX) (W_pe hX) (plainIx_ok hb), ?_⟩
  exact list_step (R' := fun vs H2 => rOp Γ F .ix σ vs H2 Q) hl P hr X fun as' e1 vs B1 H1 hf P1 po ars fr => op_ok P1 ars hf (fin_KO po fr K) (fin_KX po fr X)
/-- a built-in or a type by its name, or a module's def or class: what is called is known at every such context -/
theorem so_callG {o : Op} {as : E} {x : PySem.Str} {p pos : Pos} {y : Expr} {ys : List Expr} (ho : ∀ X, Cxt Γ X → PE X (.Call (.Name x p) (y :: ys) [] pos) (fun σ H Q => wA Γ (y :: ys) σ H fun vs H1 => rOp Γ F o σ vs H1 Q)) (hl : SL Γ F as (y :: ys) []) : SO Γ F (.op o as) (.Call (.Name x p) (y :: ys) [] pos) := by
  intro σ B H e r Q P hr K X
  refine ⟨_, ho, ?_⟩
  have := list_step (R' := fun vs H2 => rOp Γ F o σ vs H2 Q) hl P hr X fun as' e1 vs B1 H1 hf P1 po ars fr => op_ok P1 ars hf (fin_KO po fr K) (fin_KX po fr X)
  simpa using this
theorem fn_callJ {X : Cx} (Fa : Fac Γ F k) (hh : Γ.hot = false) (hX : Cxt Γ X) {f j : Nat} (hj : j ≤ Γ.S.jm f) : CallSt X (.ref (Γ.S.fa f)) fun σ vs H Q => spR Γ.S F f (vs ++ ((Γ.S.dd f).drop j).map cV) H Q (WE Γ.W σ) :=
  fun pins s σ H xs us Q I r h => fn_call Fa hh hX f pins s σ H xs us Q I r ⟨j, hj, h⟩
theorem so_call (Fa : Fac Γ F k) (hh : Γ.hot = false) {f : Nat} {as : E} {x : PySem.Str} {p pos : Pos} {ys : List Expr} {j : Nat} (hj : j ≤ Γ.S.jm f) (hg : isGl Γ.sc x = true) (hv : Γ.S.gl x = some (.fn f)) (hs : ys.all noStar = true) (hl : SL Γ F as ys ((Γ.S.dd f).drop j)) :
    SO Γ F (.call f as) (.Call (.Name x p) ys [] pos) := by
  intro σ B H e r Q P hr K X
  obtain ⟨h1, h2⟩ := Fa.gls x _ hv
  refine ⟨_, fun X hX => pe_callF hX (fn_callJ Fa hh hX hj) (isGl_ok hX hg).1 (by rw [hX.mg]; exact h1) (by rw [hX.K]; exact h2) hs (isGl_ok hX hg).2.1, ?_⟩
  have hr : cold Γ.hot (M.bind (evG Γ F as).l (callD F Γ.np f)) e = some r := hr
  rw [hh] at hr
  exact list_step (R' := fun vs H2 => spR Γ.S F f vs H2 Q (WE Γ.W σ)) hl P hr X fun as' e1 vs B1 H1 hf P1 po ars fr => call_ok P1 ars hf (fin_KO po fr K) (fin_KX po fr X)
end
end Gal
set_option Elab.async false
set_option linter.all false
set_option maxRecDepth 100000
/-! G14: the other forms of expressions. -/
namespace Gal
open PySem L2 PyProof.Rows PySem.Spec
section
variable {Γ : Ct} {F : Callee} {k : Nat} {σ : L2.St} {B H B1 H1 : Hp} {e e1 : Env}
theorem nil_map (vs : List V) : vs ++ ([] : List D).map cV = vs := by simp
theorem list_step0 {as : E} {xs : List Expr} {β : Type} {f : List Ar → M β} {r : R β} {R' : List V → Hp → Prop} (hl : SL Γ F as xs []) (P : Pst Γ σ B H e) (hr : M.bind (evG Γ F as).l f e = some r) (X : KX Γ σ B H e r)
    (h : ∀ as' e1 vs B1 H1, f as' e1 = some r → Pst Γ σ B1 H1 e1 → Po Γ σ noT B H e B1 H1 e1 → ArsR Γ σ B1 H1 e1 as' vs → (∀ q, Tmps as' vs q → H q = none) → R' vs H1) : wA Γ xs σ H R' := by
  have := list_step (R' := R') hl P hr X h
  simpa using this
/-- one operand, then the rest -/
theorem one_step {m : E} {x : Expr} {β : Type} {f : Ar → M β} {r : R β} {R' : VK} (hm : SO Γ F m x) (P : Pst Γ σ B H e) (hr : M.bind (evG Γ F m).o f e = some r) (X : KX Γ σ B H e r)
    (h : ∀ a e1 v B1 H1, f a e1 = some r → Po Γ σ noT B H e B1 H1 e1 → ArR Γ σ B1 H1 e1 a v → (∀ q, Tmp a v q → H q = none) → R' v H1) : W Γ x σ H R' := by
  rcases bind_inv hr with ⟨a, e1, h1, h2⟩ | ⟨c, fs, e1, h1, h2⟩
  · exact hm σ B H e _ R' P h1 (fun a' e' he v B1 H1 po ar fr => by cases he; exact h a e1 v B1 H1 h2 po ar fr) okX
  · exact hm σ B H e _ R' P h1 (fun a e' he => by cases he) (X.to (exR h2))
theorem onD_inv {α : Type} {a : Ar} {f : D → M α} {r : R α} (h : onD a f e = some r) : ∃ d, deref e a = some d ∧ f d e = some r := by
  unfold onD at h
  cases q : deref e a with
  | none => rw [q] at h; cases h
  | some d => rw [q] at h; exact ⟨d, rfl, h⟩
theorem mk_callJ {X : Cx} (Fa : Fac Γ F k) (hh : Γ.hot = false) (hX : Cxt Γ X) {c f j : Nat} (hi : (Γ.S.P.cl c).init = some f) (hj : j ≤ Γ.S.jm f) : CallSt X (.ref (Γ.S.ca c)) fun σ vs H Q => ∀ x dx, H x = none → H dx = none → dx ≠ x →
    spR Γ.S F f (.ref x :: (vs ++ ((Γ.S.dd f).drop j).map cV)) (upd (upd H dx (.own x)) x (.ins (Γ.S.ca c) dx [])) (fun v H2 => v = .non ∧ Q (.ref x) H2) (WE Γ.W σ) :=
  fun pins s σ H xs us Q I r h => mk_call Fa hh hX hi pins s σ H xs us Q I r fun x dx h1 h2 h3 => ⟨j, hj, h x dx h1 h2 h3⟩
theorem make_inv {c f : Nat} {as : List Ar} {vs : List V} {r : R Ar} {Q : VK} {E : XK} (hi : (Γ.S.P.cl c).init = some f) (P : Pst Γ σ B H e) (h : ArsR Γ σ B H e as vs) (hc : mkObj Γ.S.P F Γ.np c as e = some r)
    (K : ∀ a e', r = .ok a e' → ∀ v B' H', Po Γ σ (Tmps as vs) B H e B' H' e' → ArR Γ σ B' H' e' a v → (∀ q, Tmp a v q → H q = none) → Q v H')
    (X : ∀ c fs e', r = .ex c fs e' → ∀ cls dd B' H', Po Γ σ (Tmps as vs) B H e B' H' e' → ExR Γ.S B' H' cls dd c fs → E cls dd H') :
    ∀ x dx, H x = none → H dx = none → dx ≠ x → spR Γ.S F f (.ref x :: vs) (upd (upd H dx (.own x)) x (.ins (Γ.S.ca c) dx [])) (fun v H2 => v = .non ∧ Q (.ref x) H2) E := by
  obtain ⟨f', e1, q⟩ := make_ok P h hc K X
  rw [hi] at e1
  cases e1
  exact q
theorem so_make (Fa : Fac Γ F k) (hh : Γ.hot = false) {c f : Nat} {as : E} {x : PySem.Str} {p pos : Pos} {ys : List Expr} {j : Nat} (hi : (Γ.S.P.cl c).init = some f) (hj : j ≤ Γ.S.jm f) (hg : isGl Γ.sc x = true) (hv : Γ.S.gl x = some (.cls c)) (hs : ys.all noStar = true)
    (hl : SL Γ F as ys ((Γ.S.dd f).drop j)) : SO Γ F (.make c as) (.Call (.Name x p) ys [] pos) := by
  intro σ B H e r Q P hr K X
  obtain ⟨h1, h2⟩ := Fa.gls x _ hv
  refine ⟨_, fun X hX => pe_callF hX (mk_callJ Fa hh hX hi hj) (isGl_ok hX hg).1 (by rw [hX.mg]; exact h1) (by rw [hX.K]; exact h2) hs (isGl_ok hX hg).2.1, ?_⟩
  have hr : cold Γ.hot (M.bind (evG Γ F as).l (mkObj Γ.S.P F Γ.np c)) e = some r := hr
  rw [hh] at hr
  exact list_step (R' := fun vs H2 => ∀ x dx, H2 x = none → H2 dx = none → dx ≠ x → spR Γ.S F f (.ref x :: vs) (upd (upd H2 dx (.own x)) x (.ins (Γ.S.ca c) dx [])) (fun v H3 => v = .non ∧ Q (.ref x) H3) (WE Γ.W σ)) hl P hr X
    fun as' e1 vs B1 H1 hf P1 po ars fr => make_inv hi P1 ars hf (fin_KO po fr K) (fin_KX po fr X)
/-- fields by their names -/
theorem repF_lookup {S : Stc} {B : Hp} {m : Nat} (hm : m < S.nA) : ∀ {gs : List (PySem.Str × V)} {fs : List (Nat × D)}, RepF S B gs fs → (fs.lookup m = none → gs.lookup (S.an m) = none) ∧ (∀ d, fs.lookup m = some d → ∃ v, gs.lookup (S.an m) = some v ∧ Rep S B v d)
  | _, _, .nil => ⟨fun _ => rfl, fun _ h => by cases h⟩
  | _, _, .cons (n := n) (gs := gs) (fs := fs) hn r t => by
    obtain ⟨i1, i2⟩ := repF_lookup hm t
    by_cases q : m = n
    · subst q
      refine ⟨fun h => ?_, fun d h => ?_⟩
      · simp at h
      · simp at h
        subst h
        exact ⟨_, by simp, r⟩
    · have q2 : ¬ S.an m = S.an n := fun z => q (S.inj m n hm hn z)
      have b1 : (m == n) = false := by simpa using q
      have b2 : (S.an m == S.an n) = false := by simpa using q2
      refine ⟨fun h => ?_, fun d h => ?_⟩
      · simp only [List.lookup, b1] at h
        simp only [List.lookup, b2]
        exact i1 h
      · simp only [List.lookup, b1] at h
        simp only [List.lookup, b2]
        exact i2 d h
theorem tmps_cons {a : Ar} {v : V} {as : List Ar} {vs : List V} {q : Addr} (h : Tmps (a :: as) (v :: vs) q) : Tmp a v q ∨ Tmps as vs q := by
  obtain ⟨i, b, u, h1, h2, t⟩ := h
  cases i with
  | zero => simp at h1 h2; subst h1; subst h2; exact .inl t
  | succ i => exact .inr ⟨i, b, u, by simpa using h1, by simpa using h2, t⟩
theorem cons_ars {B2 H2 : Hp} {e2 : Env} {a : Ar} {v : V} {as : List Ar} {vs : List V} (ar : ArR Γ σ B1 H1 e1 a v) (po : Po Γ σ noT B1 H1 e1 B2 H2 e2) (ars : ArsR Γ σ B2 H2 e2 as vs) (fr : ∀ q, Tmps as vs q → H1 q = none) : ArsR Γ σ B2 H2 e2 (a :: as) (v :: vs) :=
  .cons (po.ar ar) ars fun p t i b u h1 h2 t2 => by
    obtain ⟨_, _, o, ho⟩ := tmp_not_own ar t
    have := fr p ⟨i, b, u, h1, h2, t2⟩
    rw [ho] at this
    cases this
theorem so_meth (Fa : Fac Γ F k) (hh : Γ.hot = false) {m : Nat} {ob as : E} {o : Expr} {ys : List Expr} {apos pos : Pos} (hm : m < Γ.S.nA) (ho : SO Γ F ob o) (hl : SL Γ F as ys []) (hb : noSuper o = true) (hs : ys.all noStar = true) (h30 : ys.length < 30) (hline : (apos.endLine == pos.line) = true) :
    SO Γ F (.meth m ob as) (.Call (.Attribute o (Γ.S.an m) apos) ys [] pos) := by
  intro σ B H e r Q P hr K X
  have hr : cold Γ.hot (M.bind (evG Γ F ob).o fun a => onD a fun d => match d with
    | .obj c fs => match methP Γ.S.P c fs m with
      | some f => M.bind (evG Γ F as).l fun xs => callD F Γ.np f (a :: xs)
      | none => M.fail
    | _ => M.fail) e = some r := hr
  rw [hh] at hr
  refine ⟨_, fun X hX => pe_methF hX (W_pe hX) hb hs h30 hline, ?_⟩
  refine one_step ho P hr X fun a e1 v B1 H1 hf po ar fr => ?_
  obtain ⟨d, hd, hf⟩ := onD_inv hf
  cases d with
  | obj c fs =>
    have hf : (match methP Γ.S.P c fs m with
      | some f => M.bind (evG Γ F as).l fun xs => callD F Γ.np f (a :: xs)
      | none => M.fail) e1 = some r := hf
    unfold methP at hf
    cases q1 : fs.lookup m with
    | some _ => simp only [q1] at hf; cases hf
    | none =>
      cases q2 : (Γ.S.P.cl c).meths.lookup m with
      | none => simp only [q1, q2] at hf; cases hf
      | some f =>
        simp only [q1, q2] at hf
        obtain ⟨p, dx, gs, rfl, hp, rf⟩ := (ar.dr po.pst hd).obj po.pst.ext
        obtain ⟨c1, c2⟩ := Fa.meth c m f q2 hm
        refine ⟨p, Γ.S.ca c, dx, gs, Γ.S.fa f, fun σ vs H Q => spR Γ.S F f vs H Q (WE Γ.W σ), rfl, hp, (repF_lookup hm rf).1 q1, c1, c2, fun X hX pins s σ H xs us Q I r h => ?_, ?_⟩
        · exact fn_call Fa hh hX f pins s σ H xs us Q I r ⟨_, Fa.jm q2, by rw [List.drop_length]; simpa using h⟩
        · refine list_step0 (R' := fun vs H2 => spR Γ.S F f (.ref p :: vs) H2 Q (WE Γ.W σ)) hl po.pst hf (X.step po (fun _ _ _ h => h)) fun as' e2 vs B2 H2 hf P2 po2 ars fr2 => ?_
          have fr' : ∀ q, Tmps (a :: as') (.ref p :: vs) q → H q = none := fun q t => (tmps_cons t).elim (fr q) fun t => po.stp.fresh (fr2 q t)
          exact call_ok P2 (cons_ars ar po2 ars fr2) hf (fin_KO (po.then po2) fr' K) (fin_KX (po.then po2) fr' X)
  | _ => cases hf
theorem so_fld (Fa : Fac Γ F k) {f : Nat} {ob : E} {o : Expr} {pos : Pos} (hm : f < Γ.S.nA) (ho : SO Γ F ob o) (hb : noSuper o = true) : SO Γ F (.fld f ob) (.Attribute o (Γ.S.an f) pos) := by
  intro σ B H e r Q P hr K X
  have hr : M.bind (evG Γ F ob).o (fun a => onD a fun d => fun e => (fldD Γ.S.P f d).map fun x => .ok (.v false x) e) e = some r := hr
  refine ⟨_, fun X hX => pe_fldF hX (W_pe hX) hb, ?_⟩
  refine one_step ho P hr X fun a e1 v B1 H1 hf po ar fr => ?_
  obtain ⟨d, hd, hf⟩ := onD_inv hf
  obtain ⟨x, h1, h2⟩ := map_some hf
  subst h2
  cases d with
  | obj c fs =>
    obtain ⟨p, dx, gs, rfl, hp, rf⟩ := (ar.dr po.pst hd).obj po.pst.ext
    unfold fldD at h1
    cases q1 : fs.lookup f with
    | some y =>
      simp only [q1] at h1
      split at h1
      · rename_i hfree
        cases h1
        obtain ⟨u, hu, ru⟩ := (repF_lookup hm rf).2 _ q1
        obtain ⟨c1, c2⟩ := Fa.fld c f hfree hm
        exact ⟨p, _, dx, gs, u, rfl, hp, c1, .inl ⟨hu, c2⟩, K _ _ rfl u B1 H1 po ru fun _ t => t.elim⟩
      · cases h1
    | none =>
      simp only [q1] at h1
      obtain ⟨c1, u, w, c2, c3⟩ := Fa.con c f x h1
      exact ⟨p, _, dx, gs, u, rfl, hp, c1, .inr ⟨(repF_lookup hm rf).1 q1, w, c2⟩, K _ _ rfl u B1 H1 po (c3 B1) fun _ t => t.elim⟩
  | _ => cases h1
/-! ### literals -/
theorem so_lst {as : E} {ys : List Expr} {pos : Pos} (hs : ys.all noStar = true) (hl : SL Γ F as ys []) : SO Γ F (.lst as) (.List ys pos) := by
  intro σ B H e r Q P hr K X
  have hr : M.bind (evG Γ F as).l (fun xs => M.bind (settles Γ.np xs) fun ds => if ds.length ≤ LIM then M.pure (.v true (.lst ds)) else M.fail) e = some r := hr
  refine ⟨_, fun X hX => pe_lst (wA_pa hX hs), ?_⟩
  refine list_step0 (R' := fun xs H1 => xs.length ≤ sizeLine ∧ ∀ p, H1 p = none → Q (.ref p) (upd H1 p (.lst xs))) hl P hr X fun as' e1 vs B1 H1 hf P1 po ars fr => ?_
  rcases bind_inv hf with ⟨ds, e2, h1, h2⟩ | ⟨c, fs, e2, h1, h2⟩
  · obtain ⟨B2, po2, rs⟩ := settles_ok P1 ars h1
    split at h2
    · rename_i hl
      cases h2
      refine ⟨by rw [rs.length, lim_eq]; exact hl, fun p hp => ?_⟩
      have po3 := po.trans po2 fun q t => .inr (fr q t)
      obtain ⟨po4, ar, fr4⟩ := new_po po3.pst (new_lst po3.pst.ext hp rs)
      exact K _ _ rfl _ B2 _ (po3.then po4) ar fun q t => po3.stp.fresh (fr4 q t)
    · cases h2
  · exfalso
    revert h1
    clear hf ars fr
    generalize e1 = e1
    intro h1
    induction as' generalizing e1 with
    | nil => cases h1
    | cons a as' ih =>
      unfold settles at h1
      cases q : settle Γ.np a e1 with
      | none => simp only [q] at h1; cases h1
      | some y =>
        cases y with
        | ex _ _ _ => simp only [q] at h1; cases h1
        | ok y e3 =>
          simp only [q] at h1
          cases q2 : settles Γ.np as' e3 with
          | none => simp only [q2] at h1; cases h1
          | some z => cases z <;> (simp only [q2] at h1; cases h1)
end
end Gal
set_option Elab.async false
set_option linter.all false
set_option maxRecDepth 100000
/-! G15: more forms: tuples, dicts, slices, and/or/not, tests, methods of built-in types. -/
namespace Gal
open PySem L2 PyProof.Rows PySem.Spec
section
variable {Γ : Ct} {F : Callee} {k : Nat} {σ : L2.St} {B H B1 H1 : Hp} {e e1 : Env}
theorem settles_ex {np : Nat} : ∀ {as : List Ar} {e : Env} {c : Nat} {fs : List (Nat × D)} {e' : Env}, settles np as e ≠ some (.ex c fs e')
  | [], _, _, _, _, h => by cases h
  | a :: as, e, c, fs, e', h => by
    unfold settles at h
    cases q : settle np a e with
    | none => simp only [q] at h; cases h
    | some y =>
      cases y with
      | ex _ _ _ => simp only [q] at h; cases h
      | ok y e3 =>
        simp only [q] at h
        cases q2 : settles np as e3 with
        | none => simp only [q2] at h; cases h
        | some z => cases z <;> (simp only [q2] at h; cases h)
theorem so_tup {as : E} {ys : List Expr} {n : Nat} {pos : Pos} (hs : ys.all noStar = true) (hl : SL Γ F as ys []) : SO Γ F (.tup as) (.Tuple ys n pos) := by
  intro σ B H e r Q P hr K X
  have hr : M.bind (evG Γ F as).l (fun xs => M.bind (settles Γ.np xs) fun ds => if ds.length ≤ LIM then M.pure (.v false (.tup ds)) else M.fail) e = some r := hr
  refine ⟨_, fun X hX => pe_tup (wA_pa hX hs), ?_⟩
  refine list_step0 (R' := fun xs H1 => xs.length ≤ sizeLine ∧ ∀ p, H1 p = none → Q (.ref p) (upd H1 p (.tup xs))) hl P hr X fun as' e1 vs B1 H1 hf P1 po ars fr => ?_
  rcases bind_inv hf with ⟨ds, e2, h1, h2⟩ | ⟨c, fs, e2, h1, h2⟩
  · obtain ⟨B2, po2, rs⟩ := settles_ok P1 ars h1
    split at h2
    · rename_i hl
      cases h2
      refine ⟨by rw [rs.length, lim_eq]; exact hl, fun p hp => ?_⟩
      have po3 := po.trans po2 fun q t => .inr (fr q t)
      obtain ⟨po4, ar, fr4⟩ := new_po po3.pst (new_tup po3.pst.ext hp rs)
      exact K _ _ rfl _ _ _ (po3.then po4) ar fun q t => po3.stp.fresh (fr4 q t)
    · cases h2
  · exact (settles_ex h1).elim
theorem so_dct {pos : Pos} : SO Γ F .dct (.Dict [] [] pos) := by
  intro σ B H e r Q P hr K X
  cases hr
  refine ⟨_, fun X hX => pe_dnewK, fun p hp => ?_⟩
  have n : NewR Γ.S B H true (.dic []) (.ref p) B (upd H p (.dK [])) := ⟨Ex.refl B, Ex.new hp, P.ext.trans (Ex.new hp), fun _ _ h => .inl h, p, rfl, hp, b_none P.ext hp, .dic upd_same .nil⟩
  obtain ⟨po, ar, fr⟩ := new_po P n
  exact K _ _ rfl _ _ _ po ar fr
/-! ### slices -/
theorem sp_none : SP Γ F .nil none := by
  intro σ B H e r Q P hr K X
  cases hr
  exact ⟨_, fun X hX => po_none, K none e rfl B H (Po.refl P)⟩
theorem sp_some {m : E} {x : Expr} (hm : SO Γ F m x) (hp : (evG Γ F m).p = part (evG Γ F m).o) : SP Γ F m (some x) := by
  intro σ B H e r Q P hr K X
  rw [hp] at hr
  refine ⟨_, fun X hX => po_some (W_pe hX), ?_⟩
  show W Γ x σ H fun v H1 => ∃ i, v = .int i ∧ Q (some i) H1
  unfold part at hr
  cases q : (evG Γ F m).o e with
  | none => simp only [q] at hr; cases hr
  | some y =>
    cases y with
    | ex c fs e1 =>
      simp only [q] at hr
      cases hr
      exact hm σ B H e _ _ P q (fun a' e' he => by cases he) (X.to (exR rfl))
    | ok a e1 =>
      simp only [q] at hr
      refine hm σ B H e _ _ P q (fun a' e' he v B1 H1 po ar fr => ?_) okX
      cases he
      cases q2 : deref e1 a with
      | none => simp only [q2] at hr; cases hr
      | some d =>
        cases d with
        | int i =>
          simp only [q2] at hr
          cases hr
          exact ⟨i, (ar.dr po.pst q2).int, K _ _ rfl B1 H1 po⟩
        | _ => simp only [q2] at hr; cases hr
theorem so_slice {ma ml mh : E} {a : Expr} {lo hi : Option Expr} {pos p2 : Pos} (ha : SO Γ F ma a) (hl : SP Γ F ml lo) (hh : SP Γ F mh hi) : SO Γ F (.slice ma ml mh) (.Subscript a (.Slice lo hi none p2) pos) := by
  intro σ B H e r Q P hr K X
  have hr : M.bind (evG Γ F ma).o (fun x => M.bind (evG Γ F ml).p fun l => M.bind (evG Γ F mh).p fun h => onD x fun d => fun e => (sliceD l h d).map fun y => .ok (.v y.1 y.2) e) e = some r := hr
  refine ⟨_, fun X hX => pe_slice (ok_slice hX.K) (W_pe hX) (WO_po hX) (WO_po hX), ?_⟩
  refine one_step ha P hr X fun x e1 v B1 H1 hf po ar fr => ?_
  rcases bind_inv hf with ⟨l, e2, q1, hf⟩ | ⟨c, fs, e2, q1, hf⟩
  · refine hl σ B1 H1 e1 _ _ po.pst q1 (fun l' e' he B2 H2 po2 => ?_) okX
    cases he
    rcases bind_inv hf with ⟨h, e3, q2, hf⟩ | ⟨c, fs, e3, q2, hf⟩
    · refine hh σ B2 H2 e2 _ _ po2.pst q2 (fun h' e' he B3 H3 po3 => ?_) okX
      cases he
      obtain ⟨d, hd, hf⟩ := onD_inv hf
      obtain ⟨y, h1, h2⟩ := map_some hf
      subst h2
      have po' := po2.then po3
      have ar' := po'.ar ar
      refine ⟨B3, d, y.1, y.2, po3.pst.ext, ar'.dr po3.pst hd, h1, fun u B4 H4 n => ?_⟩
      obtain ⟨po4, ar4, fr4⟩ := new_po po3.pst n
      exact K _ _ rfl _ _ _ ((po.then po').then po4) ar4 fun q t => (po.then po').stp.fresh (fr4 q t)
    · subst hf
      exact hh σ B2 H2 e2 _ _ po2.pst q2 (fun h' e' he => by cases he) (X.step (po.then po2) (exR rfl))
  · subst hf
    exact hl σ B1 H1 e1 _ _ po.pst q1 (fun h' e' he => by cases he) (X.step po (exR rfl))
/-! ### tests -/
theorem tru_step {m : E} {x : Expr} {r : R Bool} {Q : Bool → Hp → Prop} (hm : SO Γ F m x) (P : Pst Γ σ B H e) (hr : tru (evG Γ F m).o e = some r) (K : KT Γ σ B H e r Q) (X : KX Γ σ B H e r) : W Γ x σ H fun v H1 => rt_ Γ.S v H1 Q := by
  unfold tru at hr
  cases q : (evG Γ F m).o e with
  | none => simp only [q] at hr; cases hr
  | some y =>
    cases y with
    | ex c fs e1 =>
      simp only [q] at hr
      cases hr
      exact hm σ B H e _ _ P q (fun a' e' he => by cases he) (X.to (exR rfl))
    | ok a e1 =>
      simp only [q] at hr
      refine hm σ B H e _ _ P q (fun a' e' he v B1 H1 po ar fr => ?_) okX
      cases he
      cases q2 : deref e1 a with
      | none => simp only [q2] at hr; cases hr
      | some d =>
        simp only [q2] at hr
        obtain ⟨b, h1, h2⟩ := map_some hr
        subst h2
        exact ⟨B1, d, b, po.pst.ext, ar.dr po.pst q2, h1, K _ _ rfl B1 H1 po⟩
theorem st_plain {m : E} {x : Expr} (hm : SO Γ F m x) (ht : (evG Γ F m).t = tru (evG Γ F m).o) (hp : plainT x = true) : ST Γ F m x := by
  intro σ B H e r Q P hr K X
  rw [ht] at hr
  exact ⟨_, fun X hX => pt_truF (S := Γ.S) (W_pe hX) (plainT_ok hp _), tru_step hm P hr K X⟩
theorem st_cmp {o : Op} {as : E} {a b : Expr} {op : CmpOp} {pos : Pos} (ho : ∀ X, Cxt Γ X → OpSt X (compareOp op) (rOp2 Γ F o)) (hm : behindInMarks op b = false) (hl : SL Γ F as [a, b] []) : ST Γ F (.op o as) (.Compare a [op] [b] pos) := by
  intro σ B H e r Q P hr K X
  have hr : tru (M.bind (evG Γ F as).l (opM Γ.S.P F Γ.np Γ.hot o)) e = some r := hr
  refine ⟨_, fun X hX => pt_cmpSt (S := Γ.S) (ho X hX) (W_pe hX) (W_pe hX) hm, ?_⟩
  unfold tru at hr
  cases q : M.bind (evG Γ F as).l (opM Γ.S.P F Γ.np Γ.hot o) e with
  | none => simp only [q] at hr; cases hr
  | some y =>
    refine list_step0 (R' := fun vs H2 => rOp Γ F o σ vs H2 fun z H3 => rt_ Γ.S z H3 Q) hl P q ?_ fun as' e1 vs B1 H1 hf P1 po ars fr => op_ok P1 ars hf (fin_KO po fr ?_) (fin_KX po fr ?_)
    · cases y with
      | ok a e1 => exact okX
      | ex c fs e1 => simp only [q] at hr; cases hr; exact X.to (exR rfl)
    · intro a e' he v B' H' p ar fr
      subst he
      simp only [q] at hr
      cases q2 : deref e' a with
      | none => simp only [q2] at hr; cases hr
      | some d =>
        simp only [q2] at hr
        obtain ⟨b, h1, h2⟩ := map_some hr
        subst h2
        exact ⟨B', d, b, p.pst.ext, ar.dr p.pst q2, h1, K _ _ rfl B' H' p⟩
    · cases y with
      | ok a e1 => exact okX
      | ex c fs e1 => simp only [q] at hr; cases hr; exact X.to (exR rfl)
theorem boo_KT {m : M Bool} {r : R Ar} {Q : VK} (hr : boo m e = some r) (K : KO Γ σ B H e r Q) (X : KX Γ σ B H e r) : ∃ r', m e = some r' ∧ KT Γ σ B H e r' (fun b H' => Q (.bl b) H') ∧ KX Γ σ B H e r' := by
  unfold boo at hr
  cases q : m e with
  | none => simp only [q] at hr; cases hr
  | some y =>
    cases y with
    | ok b e1 =>
      simp only [q] at hr
      cases hr
      refine ⟨_, rfl, fun b' e' he B' H' po => ?_, okX⟩
      cases he
      exact K _ _ rfl _ B' H' po (show Rep Γ.S B' _ _ from .bl b) fun _ t => t.elim
    | ex c fs e1 =>
      simp only [q] at hr
      cases hr
      exact ⟨_, rfl, (fun b' e' he => by cases he), X.to (exR rfl)⟩
theorem so_not {m : E} {x : Expr} {pos : Pos} (hm : SO Γ F m x) : SO Γ F (.not m) (.UnaryOp .Not x pos) := by
  intro σ B H e r Q P hr K X
  obtain ⟨r', h1, K', X'⟩ := boo_KT (m := M.bind (tru (evG Γ F m).o) fun b => M.pure (!b)) hr K X
  refine ⟨_, fun X hX => pe_notF (S := Γ.S) (W_pe hX), ?_⟩
  rcases bind_inv h1 with ⟨b, e1, q1, q2⟩ | ⟨c, fs, e1, q1, q2⟩
  · cases q2
    exact tru_step hm P q1 (fun b' e' he B' H' po => by cases he; exact K' _ _ rfl B' H' po) okX
  · subst q2
    exact tru_step hm P q1 (fun b' e' he => by cases he) (X'.to (exR rfl))
theorem st_not {m : E} {x : Expr} {pos : Pos} (hm : ST Γ F m x) : ST Γ F (.not m) (.UnaryOp .Not x pos) := by
  intro σ B H e r Q P hr K X
  have hr : M.bind (evG Γ F m).t (fun b => M.pure (!b)) e = some r := hr
  refine ⟨_, fun X hX => pt_not (WT_pt hX), ?_⟩
  rcases bind_inv hr with ⟨b, e1, q1, q2⟩ | ⟨c, fs, e1, q1, q2⟩
  · cases q2
    exact hm σ B H e _ _ P q1 (fun b' e' he B' H' po => by cases he; exact K _ _ rfl B' H' po) okX
  · subst q2
    exact hm σ B H e _ _ P q1 (fun b' e' he => by cases he) (X.to (exR rfl))
theorem so_ite {mc ma mb : E} {c a b : Expr} {pos : Pos} (hc : ST Γ F mc c) (ha : SO Γ F ma a) (hb : SO Γ F mb b) : SO Γ F (.ite mc ma mb) (.IfExp c a b pos) := by
  intro σ B H e r Q P hr K X
  have hr : M.bind (evG Γ F mc).t (fun x => if x then (evG Γ F ma).o else (evG Γ F mb).o) e = some r := hr
  refine ⟨_, fun X hX => pe_ifExp (WT_pt hX) (W_pe hX) (W_pe hX), ?_⟩
  rcases bind_inv hr with ⟨x, e1, q1, q2⟩ | ⟨c, fs, e1, q1, q2⟩
  · refine hc σ B H e _ _ P q1 (fun b' e' he B1 H1 po => ?_) okX
    cases he
    cases x with
    | true => exact ha σ B1 H1 e1 r Q po.pst q2 (K.step po) (X.step po fun _ _ _ h => h)
    | false => exact hb σ B1 H1 e1 r Q po.pst q2 (K.step po) (X.step po fun _ _ _ h => h)
  · subst q2
    exact hc σ B H e _ _ P q1 (fun b' e' he => by cases he) (X.to (exR rfl))
/-! ### and, or -/
def isAnd : BoolOp → Bool
  | .And => true
  | .Or => false
theorem boolA_inv {α : Type} {a : Ar} {f : Bool → M α} {r : R α} (h : boolA a f e = some r) : ∃ w b, a = .v w (.bl b) ∧ f b e = some r := by
  unfold boolA at h
  cases a with
  | r i => cases h
  | v w d =>
    cases d with
    | bl b => exact ⟨w, b, rfl, h⟩
    | _ => cases h
theorem ar_bl {w : Bool} {b : Bool} {v : V} (h : ArR Γ σ B H e (.v w (.bl b)) v) : v = .bl b := by
  cases w with
  | false => cases h; rfl
  | true => obtain ⟨p, _, _, z, _⟩ := h; cases z
theorem sj_one {m : E} {x : Expr} {op : BoolOp} (hm : SO Γ F m x) : SJ Γ F (isAnd op) (.cons m .nil) op [x] := by
  intro pos σ B H e r Q P hr K X
  have hr : M.bind (evG Γ F m).o (fun v => boolA v fun b => if b == isAnd op then M.pure (isAnd op) else M.pure b) e = some r := hr
  refine ⟨_, fun X hX => pe_one (W_pe hX), ?_⟩
  refine one_step hm P hr X fun a e1 v B1 H1 hf po ar fr => ?_
  obtain ⟨w, b, rfl, hf'⟩ := boolA_inv hf
  refine ⟨b, ar_bl ar, K b e1 ?_ B1 H1 po⟩
  have hf : (if b == isAnd op then M.pure (isAnd op) else M.pure b) e1 = some r := hf'
  split at hf
  · rename_i hb
    have : b = isAnd op := by simpa using hb
    cases hf
    rw [← this]
  · cases hf; rfl
theorem sj_cons {m rest : E} {x y : Expr} {ys : List Expr} {op : BoolOp} (hm : SO Γ F m x) (hs : SJ Γ F (isAnd op) rest op (y :: ys)) : SJ Γ F (isAnd op) (.cons m rest) op (x :: y :: ys) := by
  intro pos σ B H e r Q P hr K X
  have hr : M.bind (evG Γ F m).o (fun v => boolA v fun b => if b == isAnd op then (evG Γ F rest).j (isAnd op) else M.pure b) e = some r := hr
  cases op with
  | And =>
    refine ⟨_, fun X hX => pe_and (W_pe hX) (W_pe hX), ?_⟩
    refine one_step hm P hr X fun a e1 v B1 H1 hf po ar fr => ?_
    obtain ⟨w, b, rfl, hf⟩ := boolA_inv hf
    refine ⟨b, ar_bl ar, ?_⟩
    cases b with
    | true => exact hs pos σ B1 H1 e1 r Q po.pst hf (K.step po) (X.step po fun _ _ _ h => h)
    | false => cases hf; exact ⟨false, rfl, K _ _ rfl B1 H1 po⟩
  | Or =>
    refine ⟨_, fun X hX => pe_or (W_pe hX) (W_pe hX), ?_⟩
    refine one_step hm P hr X fun a e1 v B1 H1 hf po ar fr => ?_
    obtain ⟨w, b, rfl, hf⟩ := boolA_inv hf
    refine ⟨b, ar_bl ar, ?_⟩
    cases b with
    | true => cases hf; exact ⟨true, rfl, K _ _ rfl B1 H1 po⟩
    | false => exact hs pos σ B1 H1 e1 r Q po.pst hf (K.step po) (X.step po fun _ _ _ h => h)
theorem sk_one {m : E} {x : Expr} {op : BoolOp} (hm : ST Γ F m x) : SK Γ F (isAnd op) (.cons m .nil) op [x] := by
  intro pos σ B H e r Q P hr K X
  have hr : M.bind (evG Γ F m).t (fun b => if b == isAnd op then M.pure (isAnd op) else M.pure b) e = some r := hr
  have te : ∀ X, Cxt Γ X → PW X (.BoolOp op [x] pos) (WT Γ x) := fun X hX => by
    cases op with
    | And => exact pw_and1 (WT_pt hX)
    | Or => exact pw_or1 (WT_pt hX)
  refine ⟨_, te, ?_⟩
  rcases bind_inv hr with ⟨b, e1, q1, q2⟩ | ⟨c, fs, e1, q1, q2⟩
  · refine hm σ B H e _ _ P q1 (fun b' e' he B1 H1 po => ?_) okX
    cases he
    refine K b e1 ?_ B1 H1 po
    split at q2
    · rename_i hb
      have : b = isAnd op := by simpa using hb
      cases q2
      rw [← this]
    · cases q2; rfl
  · subst q2
    exact hm σ B H e _ _ P q1 (fun b' e' he => by cases he) (X.to (exR rfl))
theorem sk_cons {m rest : E} {x y : Expr} {ys : List Expr} {op : BoolOp} (hm : ST Γ F m x) (hs : SK Γ F (isAnd op) rest op (y :: ys)) : SK Γ F (isAnd op) (.cons m rest) op (x :: y :: ys) := by
  intro pos σ B H e r Q P hr K X
  have hr : M.bind (evG Γ F m).t (fun b => if b == isAnd op then (evG Γ F rest).k (isAnd op) else M.pure b) e = some r := hr
  cases op with
  | And =>
    refine ⟨_, fun X hX => pw_and (WT_pt hX) (WW_pw hX), ?_⟩
    rcases bind_inv hr with ⟨b, e1, q1, q2⟩ | ⟨c, fs, e1, q1, q2⟩
    · refine hm σ B H e _ _ P q1 (fun b' e' he B1 H1 po => ?_) okX
      cases he
      cases b with
      | true => exact hs pos σ B1 H1 e1 r Q po.pst q2 (K.step po) (X.step po fun _ _ _ h => h)
      | false => cases q2; exact K _ _ rfl B1 H1 po
    · subst q2
      exact hm σ B H e _ _ P q1 (fun b' e' he => by cases he) (X.to (exR rfl))
  | Or =>
    refine ⟨_, fun X hX => pw_or (WT_pt hX) (WW_pw hX), ?_⟩
    rcases bind_inv hr with ⟨b, e1, q1, q2⟩ | ⟨c, fs, e1, q1, q2⟩
    · refine hm σ B H e _ _ P q1 (fun b' e' he B1 H1 po => ?_) okX
      cases he
      cases b with
      | true => cases q2; exact K _ _ rfl B1 H1 po
      | false => exact hs pos σ B1 H1 e1 r Q po.pst q2 (K.step po) (X.step po fun _ _ _ h => h)
    · subst q2
      exact hm σ B H e _ _ P q1 (fun b' e' he => by cases he) (X.to (exR rfl))
theorem so_bool {ms : E} {op : BoolOp} {xs : List Expr} {pos : Pos} (hs : SJ Γ F (isAnd op) ms op xs) : SO Γ F (.bool (isAnd op) ms) (.BoolOp op xs pos) := by
  intro σ B H e r Q P hr K X
  obtain ⟨r', h1, K', X'⟩ := boo_KT (m := (evG Γ F ms).j (isAnd op)) hr K X
  obtain ⟨te, h2, h3⟩ := hs pos σ B H e r' (fun b H' => Q (.bl b) H') P h1 K' X'
  refine ⟨fun σ H Q => te σ H fun v H' => ∃ b, v = .bl b ∧ Q (.bl b) H', fun X hX => ⟨fun pins s σ H Q I h => ?_⟩, h3⟩
  exact thn ((h2 X hX).run pins s σ H _ I h) fun u s1 ⟨v, H1, I1, r1, b, ev, q⟩ => ⟨v, H1, I1, r1, ev ▸ q⟩
theorem st_bool {ms : E} {op : BoolOp} {xs : List Expr} {pos : Pos} (hs : SK Γ F (isAnd op) ms op xs) : ST Γ F (.bool (isAnd op) ms) (.BoolOp op xs pos) := by
  intro σ B H e r Q P hr K X
  obtain ⟨te, h2, h3⟩ := hs pos σ B H e r Q P hr K X
  exact ⟨te, fun X hX => (h2 X hX).pt, h3⟩
end
end Gal
set_option Elab.async false
set_option linter.all false
set_option maxRecDepth 100000
/-! G16: operations by their names; chains, isinstance, methods of built-in types, instances that are called. -/
namespace Gal
open PySem L2 PyProof.Rows PySem.Spec
section
variable {Γ : Ct} {F : Callee} {k : Nat} {X : Cx}
theorem drs1 {S : Stc} {B H : Hp} {x : V} {ds : List D} (h : DRs S B H [x] ds) : ∃ a, ds = [a] ∧ DR S B H x a := by
  cases h with
  | cons r t => cases t; exact ⟨_, rfl, r⟩
theorem drs2 {S : Stc} {B H : Hp} {x y : V} {ds : List D} (h : DRs S B H [x, y] ds) : ∃ a b, ds = [a, b] ∧ DR S B H x a ∧ DR S B H y b := by
  cases h with
  | cons r t =>
    obtain ⟨b, rfl, r2⟩ := drs1 t
    exact ⟨_, _, rfl, r, r2⟩
theorem opSt_of {o : Op} {f : Value → Value → Sem Value} (h1 : OpR X f (r2 Γ.S (op2D o))) (h2 : ∀ m, dunder o = some m → Γ.hot = false → OpSt X f fun σ x y H Q => rDun Γ F m σ [x, y] H (postQ o Q)) : OpSt X f (rOp2 Γ F o) := by
  intro pins s σ H x y v u Q I rx ry h
  rcases h with ⟨B, ds, w, d, e, dr, q, hq⟩ | ⟨hh, m, hm, q⟩
  · obtain ⟨a, b, rfl, ra, rb⟩ := drs2 dr
    exact h1 pins s σ H x y v u Q I rx ry ⟨B, a, b, w, d, e, ra, rb, q, hq⟩
  · exact h2 m hm hh pins s σ H x y v u Q I rx ry q
theorem unSt_of {o : Op} {f : Value → Sem Value} (h1 : UnR X f (r1 Γ.S (op1D o))) (h2 : ∀ m, dunder o = some m → Γ.hot = false → UnSt X f fun σ x H Q => rDun Γ F m σ [x] H (postQ o Q)) : UnSt X f (rOp1 Γ F o) := by
  intro pins s σ H x v Q I rx h
  rcases h with ⟨B, ds, w, d, e, dr, q, hq⟩ | ⟨hh, m, hm, q⟩
  · obtain ⟨a, rfl, ra⟩ := drs1 dr
    exact h1 pins s σ H x v Q I rx ⟨B, a, w, d, e, ra, q, hq⟩
  · exact h2 m hm hh pins s σ H x v Q I rx q
theorem noDun {o : Op} {P : Nat → Prop} (h : dunder o = none) : ∀ m, dunder o = some m → P m := fun m q => by rw [h] at q; cases q
theorem bin_ok (Fa : Fac Γ F k) (hX : Cxt Γ X) {op : Operator} {o : Op} (h : binOf op = some o) : OpSt X (binaryOp op) (rOp2 Γ F o) := by
  have dn : ∀ {m m' : Nat} {P : Nat → Prop}, some m = some m' → P m → P m' := fun e p => by cases e; exact p
  cases op <;> cases h
  · exact opSt_of ok_add fun m hm hh => by cases hm; exact Fa.d_add hh X hX
  · exact opSt_of ok_sub fun m hm hh => by cases hm; exact Fa.d_sub hh X hX
  · exact opSt_of ok_mul fun m hm hh => by cases hm; exact Fa.d_mul hh X hX
  · exact opSt_of ok_mod (noDun rfl)
  · exact opSt_of ok_pow (noDun rfl)
  · exact opSt_of (ok_bit op_or) fun m hm hh => by cases hm; exact Fa.d_or hh X hX
  · exact opSt_of (ok_bit op_xor) fun m hm hh => by cases hm; exact Fa.d_xor hh X hX
  · exact opSt_of (ok_bit op_and) fun m hm hh => by cases hm; exact Fa.d_and hh X hX
  · exact opSt_of ok_fdiv (noDun rfl)
theorem un_ok (Fa : Fac Γ F k) (hX : Cxt Γ X) {op : UnaryOp} {o : Op} (h : unOf op = some o) : UnSt X (unaryOp op) (rOp1 Γ F o) := by
  cases op <;> cases h
  · refine unSt_of (o := .inv) (fun pins s σ H x v Q I rx h => ?_) fun m hm hh => by cases hm; exact Fa.d_inv hh X hX
    obtain ⟨B, a, w, d, e, ra, q, _⟩ := h
    cases q
  · exact unSt_of ok_neg (noDun rfl)
theorem cmp_ok (Fa : Fac Γ F k) (hX : Cxt Γ X) {op : CmpOp} {o : Op} (h : cmpOf op = some o) : OpSt X (compareOp op) (rOp2 Γ F o) := by
  cases op <;> cases h
  · exact opSt_of (ok_eq hX.K hX.units) fun m hm hh => by cases hm; exact Fa.d_eq hh X hX
  · exact opSt_of (ok_ne hX.K hX.units) fun m hm hh => by cases hm; exact Fa.d_ne hh X hX
  · exact opSt_of ok_lt (noDun rfl)
  · exact opSt_of ok_le (noDun rfl)
  · exact opSt_of ok_gt (noDun rfl)
  · exact opSt_of ok_ge (noDun rfl)
  · exact opSt_of ok_is (noDun rfl)
  · exact opSt_of ok_isnot (noDun rfl)
  · exact opSt_of (ok_in hX.K hX.units) (noDun rfl)
  · exact opSt_of (ok_notin hX.K hX.units) (noDun rfl)
theorem ix_ok (Fa : Fac Γ F k) (hX : Cxt Γ X) : IxSt X (rOp2 Γ F .ix) := by
  intro value slice pins s σ H x y v u Q I rx ry h hs
  rcases h with ⟨B, ds, w, d, e, dr, q, hq⟩ | ⟨hh, m, hm, q⟩
  · obtain ⟨a, b, rfl, ra, rb⟩ := drs2 dr
    exact ok_ix hX.K hX.units value slice pins s σ H x y v u Q I rx ry ⟨B, a, b, w, d, e, ra, rb, q, hq⟩ hs
  · cases hm
    exact Fa.d_ix hh X hX value slice pins s σ H x y v u Q I rx ry q hs
/-- one operand -/
theorem drs_len1 {o : Op} {S : Stc} {B H : Hp} {vs : List V} {ds : List D} {w : Bool} {d : D} (n2 : op2D o = fun _ _ => none) (dr : DRs S B H vs ds) (q : opD o ds = some (w, d)) : ∃ x a, vs = [x] ∧ DR S B H x a ∧ op1D o a = some (w, d) := by
  cases dr with
  | nil => cases q
  | cons r t =>
    cases t with
    | nil => exact ⟨_, _, rfl, r, q⟩
    | cons r2 t2 =>
      cases t2 with
      | nil =>
        have q : op2D o _ _ = some (w, d) := q
        rw [n2] at q
        cases q
      | cons _ _ => cases q
theorem drs_len2 {o : Op} {S : Stc} {B H : Hp} {vs : List V} {ds : List D} {w : Bool} {d : D} (n1 : op1D o = fun _ => none) (dr : DRs S B H vs ds) (q : opD o ds = some (w, d)) : ∃ x y a b, vs = [x, y] ∧ DR S B H x a ∧ DR S B H y b ∧ op2D o a b = some (w, d) := by
  cases dr with
  | nil => cases q
  | cons r t =>
    cases t with
    | nil =>
      have q : op1D o _ = some (w, d) := q
      rw [n1] at q
      cases q
    | cons r2 t2 =>
      cases t2 with
      | nil => exact ⟨_, _, _, _, rfl, r, r2, q⟩
      | cons _ _ => cases q
theorem call1_of {o : Op} {f : Value} (n2 : op2D o = fun _ _ => none) (hd : dunder o = none) (h1 : CallR X f (rc1 Γ.S (op1D o))) : CallSt X f (rOp Γ F o) := by
  intro pins s σ H xs us Q I r h
  rcases h with ⟨B, ds, w, d, e, dr, q, hq⟩ | ⟨hh, m, hm, q⟩
  · obtain ⟨x, a, rfl, ra, q1⟩ := drs_len1 n2 dr q
    exact h1 pins s σ H _ us Q I r ⟨x, rfl, B, a, w, d, e, ra, q1, hq⟩
  · rw [hd] at hm; cases hm
theorem call1_dun {o : Op} {f : Value} {m : Nat} (n2 : op2D o = fun _ _ => none) (hd : dunder o = some m) (h1 : CallR X f (rc1 Γ.S (op1D o))) (h2 : Γ.hot = false → CallSt X f fun σ vs H Q => rDun Γ F m σ vs H (postQ o Q)) :
    CallSt X f (rOp Γ F o) := by
  intro pins s σ H xs us Q I r h
  rcases h with ⟨B, ds, w, d, e, dr, q, hq⟩ | ⟨hh, m', hm, q⟩
  · obtain ⟨x, a, rfl, ra, q1⟩ := drs_len1 n2 dr q
    exact h1 pins s σ H _ us Q I r ⟨x, rfl, B, a, w, d, e, ra, q1, hq⟩
  · rw [hd] at hm; cases hm
    exact h2 hh pins s σ H xs us Q I r q
theorem call2_of {o : Op} {f : Value} (n1 : op1D o = fun _ => none) (hd : dunder o = none) (h1 : CallR X f (rc2 Γ.S (op2D o))) : CallSt X f (rOp Γ F o) := by
  intro pins s σ H xs us Q I r h
  rcases h with ⟨B, ds, w, d, e, dr, q, hq⟩ | ⟨hh, m, hm, q⟩
  · obtain ⟨x, y, a, b, rfl, ra, rb, q1⟩ := drs_len2 n1 dr q
    exact h1 pins s σ H _ us Q I r ⟨x, y, rfl, B, a, b, w, d, e, ra, rb, q1, hq⟩
  · rw [hd] at hm; cases hm
variable {x : PySem.Str} {p pos apos : Pos} {es : List Expr} {y : Expr}
theorem pe_bltS (hX : Cxt Γ X) {id : String} {r : L2.St → List V → Hp → VK → Prop} (hc : CallSt X (.builtin id) r) (hg : Gl X x) (hm : X.mg x = none) (hv : bootBuiltins x = some (.builtin id)) (hs : (y :: es).all noStar = true) (hn : x ≠ "__name__") (hdb : (x == ("__debug__" : PySem.Str)) = false) :
    PE X (.Call (.Name x p) (y :: es) [] pos) (fun σ H Q => wA Γ (y :: es) σ H fun vs H1 => r σ vs H1 Q) := by
  obtain ⟨h1, h2⟩ := any_cons (X := X) (pos := pos) hs
  refine ⟨fun pins s σ H Q I h => ?_⟩
  refine wpAny_Call_Name_kw (ld_blt I hg hm hv ?_ hn hdb)
  exact PyProof.Rows.callWith_builtin1 (thn ((wA_pa hX hs).run pos pins s σ H _ I h) fun us s1 ⟨vs, H1, I1, r1, q1⟩ => hc pins s1 σ H1 vs us Q I1 r1 q1) h1 h2
theorem pe_tyS (hX : Cxt Γ X) {T : String} {r : L2.St → List V → Hp → VK → Prop} (hc : CallSt X (.type T) r) (hg : Gl X x) (hm : X.mg x = none) (hv : bootBuiltins x = some (.type T)) (hs : (y :: es).all noStar = true) (hn : x ≠ "__name__") (hdb : (x == ("__debug__" : PySem.Str)) = false) :
    PE X (.Call (.Name x p) (y :: es) [] pos) (fun σ H Q => wA Γ (y :: es) σ H fun vs H1 => r σ vs H1 Q) := by
  obtain ⟨h1, h2⟩ := any_cons (X := X) (pos := pos) hs
  refine ⟨fun pins s σ H Q I h => ?_⟩
  refine wpAny_Call_Name_kw (ld_blt I hg hm hv ?_ hn hdb)
  exact PyProof.Rows.callWith_type1 (thn ((wA_pa hX hs).run pos pins s σ H _ I h) fun us s1 ⟨vs, H1, I1, r1, q1⟩ => hc pins s1 σ H1 vs us Q I1 r1 q1) h1 h2
/-- a built-in operation by a name -/
theorem so_blt (Fa : Fac Γ F k) {o : Op} {b : Bool} {as : E} (hb : bltOf x (y :: es).length = some (o, b)) (hh : b = true ∨ Γ.hot = false) (hg : isGl Γ.sc x = true) (hs : (y :: es).all noStar = true) (hl : SL Γ F as (y :: es) []) :
    SO Γ F (.op o as) (.Call (.Name x p) (y :: es) [] pos) := by
  have bl : ∀ {n : PySem.Str}, x = n → n ∈ bltIds → Γ.S.mg x = none := fun {n} e h => Fa.blt x (.inl (e ▸ h))
  by_cases h1 : (y :: es).length = 1
  · rw [h1] at hb
    have es0 : es = [] := by simpa using h1
    subst es0
    unfold bltOf at hb
    rw [if_pos rfl] at hb
    split at hb
    · rename_i hx
      cases hb
      refine so_callG (fun X hX => ?_) hl
      obtain ⟨g1, g2, g3⟩ := isGl_ok hX hg
      exact pe_bltS hX (call1_dun rfl rfl (ok_len hX.K) fun hh => Fa.d_len hh X hX) g1 (by rw [hX.mg]; exact bl hx (by decide)) (by rw [hx]; rfl) hs g3 g2
    split at hb
    · rename_i hx
      cases hb
      refine so_callG (fun X hX => ?_) hl
      obtain ⟨g1, g2, g3⟩ := isGl_ok hX hg
      exact pe_tyS hX (call1_of rfl rfl ok_int) g1 (by rw [hX.mg]; exact bl hx (by decide)) (by rw [hx]; rfl) hs g3 g2
    split at hb
    · rename_i hx
      cases hb
      refine so_callG (fun X hX => ?_) hl
      obtain ⟨g1, g2, g3⟩ := isGl_ok hX hg
      exact pe_tyS hX (call1_dun rfl rfl ok_str fun hh => Fa.d_str hh X hX) g1 (by rw [hX.mg]; exact bl hx (by decide)) (by rw [hx]; rfl) hs g3 g2
    split at hb
    · rename_i hx
      cases hb
      refine so_callG (fun X hX => ?_) hl
      obtain ⟨g1, g2, g3⟩ := isGl_ok hX hg
      exact pe_bltS hX (call1_of rfl rfl ok_abs) g1 (by rw [hX.mg]; exact bl hx (by decide)) (by rw [hx]; rfl) hs g3 g2
    split at hb
    · rename_i hx
      cases hb
      have hh := hh.resolve_left (by decide)
      refine so_callG (fun X hX => ?_) hl
      obtain ⟨g1, g2, g3⟩ := isGl_ok hX hg
      exact pe_bltS hX (call1_of rfl rfl (ok_sum hX.K (hX.calm hh).1)) g1 (by rw [hX.mg]; exact bl hx (by decide)) (by rw [hx]; rfl) hs g3 g2
    split at hb
    · rename_i hx
      cases hb
      have hh := hh.resolve_left (by decide)
      refine so_callG (fun X hX => ?_) hl
      obtain ⟨g1, g2, g3⟩ := isGl_ok hX hg
      exact pe_bltS hX (call1_of rfl rfl (ok_all (hX.calm hh).1)) g1 (by rw [hX.mg]; exact bl hx (by decide)) (by rw [hx]; rfl) hs g3 g2
    split at hb
    · rename_i hx
      cases hb
      have hh := hh.resolve_left (by decide)
      refine so_callG (fun X hX => ?_) hl
      obtain ⟨g1, g2, g3⟩ := isGl_ok hX hg
      exact pe_bltS hX (call1_of rfl rfl (ok_any (hX.calm hh).1)) g1 (by rw [hX.mg]; exact bl hx (by decide)) (by rw [hx]; rfl) hs g3 g2
    split at hb
    · rename_i hx
      cases hb
      refine so_callG (fun X hX => ?_) hl
      obtain ⟨g1, g2, g3⟩ := isGl_ok hX hg
      exact pe_tyS hX (call1_of rfl rfl (ok_list hX.K)) g1 (by rw [hX.mg]; exact bl hx (by decide)) (by rw [hx]; rfl) hs g3 g2
    split at hb
    · rename_i hx
      cases hb
      refine so_callG (fun X hX => ?_) hl
      obtain ⟨g1, g2, g3⟩ := isGl_ok hX hg
      exact pe_tyS hX (call1_of rfl rfl ok_tuple) g1 (by rw [hX.mg]; exact bl hx (by decide)) (by rw [hx]; rfl) hs g3 g2
    · cases hb
  · unfold bltOf at hb
    rw [if_neg h1] at hb
    by_cases h2 : (y :: es).length = 2
    · rw [if_pos h2] at hb
      split at hb
      · rename_i hx
        cases hb
        have hh := hh.resolve_left (by decide)
        refine so_callG (fun X hX => ?_) hl
        obtain ⟨g1, g2, g3⟩ := isGl_ok hX hg
        exact pe_bltS hX (call2_of rfl rfl (ok_min (hX.calm hh).1)) g1 (by rw [hX.mg]; exact bl hx (by decide)) (by rw [hx]; rfl) hs g3 g2
      split at hb
      · rename_i hx
        cases hb
        have hh := hh.resolve_left (by decide)
        refine so_callG (fun X hX => ?_) hl
        obtain ⟨g1, g2, g3⟩ := isGl_ok hX hg
        exact pe_bltS hX (call2_of rfl rfl (ok_max (hX.calm hh).1)) g1 (by rw [hX.mg]; exact bl hx (by decide)) (by rw [hx]; rfl) hs g3 g2
      · cases hb
    · rw [if_neg h2] at hb
      cases hb
/-! ### chains -/
theorem opD2 {o : Op} {as : List Ar} {vs : List V} {ds : List D} {B H : Hp} {σ : L2.St} {e : Env} {w : Bool} {d : D} (P : Pst Γ σ B H e) (h : ArsR Γ σ B H e as vs) (hd : derefs e as = some ds) (q : opD o ds = some (w, d)) {Q : VK} (hq : ∀ v B' H', NewR Γ.S B H w d v B' H' → Q v H') : rOp Γ F o σ vs H Q :=
  .inl ⟨B, ds, w, d, P.ext, h.drs P hd, q, hq⟩
end
end Gal
set_option Elab.async false
set_option linter.all false
set_option maxRecDepth 100000
/-! G17: chains, isinstance, methods of built-in types, classes and instances that are called. -/
namespace Gal
open PySem L2 PyProof.Rows PySem.Spec
section
variable {Γ : Ct} {F : Callee} {k : Nat} {σ : L2.St} {B H B1 H1 : Hp} {e e1 : Env}
theorem derefs2 {a b : Ar} {ds : List D} (h : derefs e [a, b] = some ds) : ∃ x y, ds = [x, y] ∧ deref e a = some x ∧ deref e b = some y := by
  unfold derefs derefs derefs at h
  cases q1 : deref e a with
  | none => rw [q1] at h; cases h
  | some x =>
    cases q2 : deref e b with
    | none => rw [q1, q2] at h; cases h
    | some y => rw [q1, q2] at h; cases h; exact ⟨x, y, rfl, rfl, rfl⟩
theorem newR_bl {w : Bool} {b : Bool} {v : V} {B' H' : Hp} (n : NewR Γ.S B H w (.bl b) v B' H') : v = .bl b := by
  obtain ⟨_, _, _, _, h⟩ := n
  cases w with
  | false => cases h; rfl
  | true => obtain ⟨p, _, _, _, z⟩ := h; cases z
theorem chain_gen {ma mb mc : E} {a b c : Expr} {o1 o2 : Op} {r : R Bool} {R1 : VK} {Q : Bool → Hp → Prop} (Z : V → Hp → Prop) (z0 : ∀ H, Q false H → Z (.bl false) H) (z1 : ∀ b H, Q b H → Z (.bl b) H)
    (ha : SO Γ F ma a) (hb : SO Γ F mb b) (hc : SO Γ F mc c) (P : Pst Γ σ B H e)
    (hr : chainM o1 o2 (evG Γ F ma).o (evG Γ F mb).o (evG Γ F mc).o e = some r) (K : KT Γ σ B H e r Q) (X : KX Γ σ B H e r) :
    W Γ a σ H fun x H1 => W Γ b σ H1 fun y H2 => rOp Γ F o1 σ [x, y] H2 fun z H3 => ∃ k, z = .bl k ∧ (if k = true then W Γ c σ H3 fun w' H4 => rOp Γ F o2 σ [y, w'] H4 Z else Z (.bl false) H3) := by
  unfold chainM at hr
  refine one_step ha P hr X fun a1 e1 x B1 H1 hf po ar fr => ?_
  refine one_step hb po.pst hf (X.step po fun _ _ _ h => h) fun b1 e2 y B2 H2 hf po2 ar2 fr2 => ?_
  have hf : (match derefs e2 [a1, b1] with
    | some ds => match opD o1 ds with
      | some (_, .bl true) => M.bind (evG Γ F mc).o (fun c => fun e1 => match derefs e1 [b1, c] with
        | some ds1 => match opD o2 ds1 with
          | some (_, .bl r) => some (.ok r e1)
          | _ => none
        | none => none) e2
      | some (_, .bl false) => some (.ok false e2)
      | _ => none
    | none => none) = some r := hf
  cases q1 : derefs e2 [a1, b1] with
  | none => simp only [q1] at hf; cases hf
  | some ds =>
    simp only [q1] at hf
    obtain ⟨da, db, rfl, d1, d2⟩ := derefs2 q1
    have po' := po.then po2
    cases q2 : opD o1 [da, db] with
    | none => simp only [q2] at hf; cases hf
    | some z =>
      obtain ⟨w, d⟩ := z
      refine .inl ⟨B2, _, w, d, po2.pst.ext, .cons ((po2.ar ar).dr po2.pst d1) (.cons (ar2.dr po2.pst d2) .nil), q2, fun v B3 H3 n => ?_⟩
      obtain ⟨po3, _, _⟩ := new_po po2.pst n
      have po'' := po'.then po3
      cases d with
      | bl k =>
        have := newR_bl n
        subst this
        refine ⟨k, rfl, ?_⟩
        cases k with
        | false =>
          simp only [q2] at hf
          cases hf
          exact z0 _ (K _ _ rfl B3 H3 po'')
        | true =>
          simp only [q2] at hf
          refine one_step hc po3.pst hf (X.step po'' fun _ _ _ h => h) fun c1 e3 w' B4 H4 hf po4 ar4 fr4 => ?_
          cases q3 : derefs e3 [b1, c1] with
          | none => simp only [q3] at hf; cases hf
          | some ds1 =>
            simp only [q3] at hf
            obtain ⟨db', dc, rfl, d3, d4⟩ := derefs2 q3
            cases q4 : opD o2 [db', dc] with
            | none => simp only [q4] at hf; cases hf
            | some z =>
              obtain ⟨w2, d⟩ := z
              have ab := (po3.then po4).ar ar2
              refine .inl ⟨B4, _, w2, d, po4.pst.ext, .cons (ab.dr po4.pst d3) (.cons (ar4.dr po4.pst d4) .nil), q4, fun v B5 H5 n => ?_⟩
              obtain ⟨po5, _, _⟩ := new_po po4.pst n
              cases d with
              | bl r' =>
                simp only [q4] at hf
                cases hf
                have := newR_bl n
                subst this
                exact z1 _ _ (K _ _ rfl B5 H5 ((po''.then po4).then po5))
              | _ => simp only [q4] at hf; cases hf
      | _ => simp only [q2] at hf; cases hf
theorem so_chain (Fa : Fac Γ F k) {ma mb mc : E} {a b c : Expr} {o1 o2 : Op} {p1 p2 : CmpOp} {pos : Pos} (h1 : cmpOf p1 = some o1) (h2 : cmpOf p2 = some o2) (hm : lastMarks [p1, p2] [b, c] = false) (ha : SO Γ F ma a) (hb : SO Γ F mb b) (hc : SO Γ F mc c) :
    SO Γ F (.chain o1 o2 ma mb mc) (.Compare a [p1, p2] [b, c] pos) := by
  intro σ B H e r Q P hr K X
  obtain ⟨r', h3, K', X'⟩ := boo_KT (m := chainM o1 o2 (evG Γ F ma).o (evG Γ F mb).o (evG Γ F mc).o) hr K X
  refine ⟨_, fun X hX => chain_St (cmp_ok Fa hX h1) (cmp_ok Fa hX h2) (W_pe hX) (W_pe hX) (W_pe hX) hm, ?_⟩
  exact chain_gen (Q := fun b H' => Q (.bl b) H') (R1 := Q) Q (fun _ h => h) (fun _ _ h => h) ha hb hc P h3 K' X'
theorem st_chain (Fa : Fac Γ F k) {ma mb mc : E} {a b c : Expr} {o1 o2 : Op} {p1 p2 : CmpOp} {pos : Pos} (h1 : cmpOf p1 = some o1) (h2 : cmpOf p2 = some o2) (hm : lastMarks [p1, p2] [b, c] = false) (ha : SO Γ F ma a) (hb : SO Γ F mb b) (hc : SO Γ F mc c) :
    ST Γ F (.chain o1 o2 ma mb mc) (.Compare a [p1, p2] [b, c] pos) := by
  intro σ B H e r Q P hr K X
  have z := chain_gen (Q := Q) (R1 := fun _ _ => True) (fun v H => ∃ k', v = .bl k' ∧ Q k' H) (fun _ h => ⟨_, rfl, h⟩) (fun _ _ h => ⟨_, rfl, h⟩) ha hb hc P hr K X
  refine ⟨fun σ H Q => W Γ a σ H fun x H1 => W Γ b σ H1 fun y H2 => rOp Γ F o1 σ [x, y] H2 fun z H3 => ∃ k, z = .bl k ∧ (if k = true then W Γ c σ H3 fun w' H4 => rOp Γ F o2 σ [y, w'] H4 (fun v H => ∃ k', v = .bl k' ∧ Q k' H) else ∃ k', V.bl false = .bl k' ∧ Q k' H3), fun X hX => ⟨fun pins s σ H Q I h => ?_⟩, z⟩
  have E := chain_Tt (pos := pos) (cmp_ok Fa hX h1) (cmp_ok Fa hX h2) (W_pe (x := a) hX) (W_pe (x := b) hX) (W_pe (x := c) hX) hm
  have C := chain_St (pos := pos) (cmp_ok Fa hX h1) (cmp_ok Fa hX h2) (W_pe (x := a) hX) (W_pe (x := b) hX) (W_pe (x := c) hX) hm
  refine isTrue_chain (thn ((W_pe (x := a) hX).run pins s σ H _ I h) fun v s1 ⟨x, H1, I1, r1, q1⟩ => test_link (thn ((W_pe (x := b) hX).run pins s1 σ H1 _ I1 q1) fun u s2 ⟨y, H2, I2, r2, q2⟩ =>
    thn (cmp_ok Fa hX h1 pins s2 σ H2 x y v u _ I2 r1 r2 q2) fun d s3 ⟨z, H3, I3, r3, k, e, q3⟩ => ?_)) hm
  subst e
  cases r3
  refine wpAny_truthy_bool ?_
  cases k with
  | false =>
    obtain ⟨k', e', q'⟩ := q3
    cases e'
    exact ite_ff ⟨H3, I3, q'⟩
  | true =>
    refine ite_tt (test_last (thn ((W_pe (x := c) hX).run pins s3 σ H3 _ I3 q3) fun w' s4 ⟨z', H4, I4, r4, q4⟩ => thn (cmp_ok Fa hX h2 pins s4 σ H4 y z' u w' _ I4 r2 r4 q4) fun d' s5 ⟨z2, H5, I5, r5, k2, e2, q5⟩ => ?_))
    subst e2
    cases r5
    exact wpAny_truthy_bool ⟨H5, I5, q5⟩
/-! ### isinstance -/
theorem tyX_of (Fa : Fac Γ F k) {v : V} {d : D} {t : Value} {ty : Ty} {b : Bool} (ext : Ex B H) (r : DR Γ.S B H v d) (h : dTy Γ.S d = some t) (hb : isiD Γ.S.P ty d = some b) : TyX Γ.S.K H v t := by
  cases d with
  | non => cases h; rw [r.non]; exact .base .non
  | bl x => cases h; rw [r.bl]; exact .base (.bl x)
  | int x => cases h; rw [r.int]; exact .base (.int x)
  | str x => cases h; rw [r.str.1]; exact .base (.str _)
  | lst x => cases h; obtain ⟨p, vs, rfl, hp, _⟩ := r.lst ext; exact .base (.lst hp)
  | tup x => cases h; obtain ⟨p, vs, rfl, _, hp, _⟩ := r.tup ext; exact .base (.tup hp)
  | dic x => cases h; obtain ⟨p, vs, rfl, hp, _⟩ := r.dic ext; exact .base (.dK hp)
  | obj c fs =>
    cases h
    obtain ⟨p, dx, gs, rfl, hp, _⟩ := r.obj ext
    have ow : (Γ.S.P.cl c).own = true := by
      unfold isiD at hb
      simp only at hb
      split at hb
      · assumption
      · cases hb
    obtain ⟨t1, t2, t3⟩ := Fa.tyo c ow
    exact .base (.ins hp t1 t2 Fa.tyc.1 Fa.tyc.2 t3)
  | _ => cases h
theorem dTy_some {S : Stc} {ty : Ty} {d : D} {b : Bool} (h : isiD S.P ty d = some b) : ∃ t, dTy S d = some t := by
  cases d <;> first | exact ⟨_, rfl⟩ | cases h
theorem so_isi (Fa : Fac Γ F k) {ty : Ty} {ob : E} {o tx : Expr} {tv : V} {p pos : Pos} (hg : isGl Γ.sc "isinstance" = true) (hk : okTy Γ.S.P ty = true) (hc : ClsV tv (tyVal Γ.S ty)) (ht : ∀ (σ : L2.St) (H : Hp) (Q : VK), Q tv H → W Γ tx σ H Q) (hs : [o, tx].all noStar = true) (ho : SO Γ F ob o) :
    SO Γ F (.isi ty ob) (.Call (.Name "isinstance" p) [o, tx] [] pos) := by
  intro σ B H e r Q P hr K X
  have hr : M.bind (evG Γ F ob).o (fun a => onD a fun d => fun e => (isiD Γ.S.P ty d).map fun x => .ok (.v false (.bl x)) e) e = some r := hr
  refine ⟨fun σ H Q => wA Γ [o, tx] σ H fun vs H1 => rIsi Γ.S.K vs H1 Q, fun X hX => ?_, ?_⟩
  · obtain ⟨g1, g2, g3⟩ := isGl_ok hX hg
    have := pe_bltS (r := fun _ vs H Q => rIsi Γ.S.K vs H Q) (x := "isinstance") (p := p) (pos := pos) hX (fun pins s σ H xs us Q I r h => call_isi pins s σ H xs us Q I r (hX.K ▸ h)) g1 (by rw [hX.mg]; exact Fa.blt _ (.inl (by decide))) rfl hs g3 g2
    exact this
  · show W Γ o σ H fun v H1 => W Γ tx σ H1 fun c H2 => rIsi Γ.S.K [v, c] H2 Q
    refine one_step ho P hr X fun a e1 v B1 H1 hf po ar fr => ?_
    refine ht _ _ _ ?_
    obtain ⟨d, hd, hf⟩ := onD_inv hf
    obtain ⟨b, h1, h2⟩ := map_some hf
    subst h2
    obtain ⟨t, h3⟩ := dTy_some (S := Γ.S) h1
    exact ⟨v, tv, t, _, b, rfl, hc, tyX_of Fa po.pst.ext (ar.dr po.pst hd) h3 h1, Fa.isi d ty t b h3 h1 hk, K _ _ rfl _ B1 H1 po (show Rep Γ.S B1 _ _ from .bl b) fun _ t => t.elim⟩
/-! ### methods of built-in types -/
theorem mt_ok {m : Mt} {a : Ar} {v : V} {as : List Ar} {vs : List V} {r : R Ar} {Q : VK} (P : Pst Γ σ B H e) (ar : ArR Γ σ B H e a v) (h : ArsR Γ σ B H e as vs) (hc : mtM m a as e = some r)
    (K : ∀ x e', r = .ok x e' → ∀ u B' H', Po Γ σ (Tmps as vs) B H e B' H' e' → ArR Γ σ B' H' e' x u → (∀ q, Tmp x u q → H q = none) → Q u H') : rm1 Γ.S (mtF m) v vs H Q := by
  unfold mtM at hc
  cases q1 : deref e a with
  | none => simp only [q1] at hc; cases hc
  | some d =>
    cases q2 : derefs e as with
    | none => simp only [q1, q2] at hc; cases hc
    | some ds =>
      simp only [q1, q2] at hc
      obtain ⟨⟨w, x⟩, h1, h2⟩ := map_some hc
      subst h2
      have dr := h.drs P q2
      cases dr with
      | nil => cases h1
      | cons r1 t =>
        cases t with
        | nil =>
          refine ⟨_, rfl, B, d, _, w, x, P.ext, ar.dr P q1, r1, h1, fun u B' H' n => ?_⟩
          obtain ⟨po, ar', fr⟩ := new_po P n
          exact K _ _ rfl u B' H' (po.wide fun _ z => z.elim) ar' fr
        | cons _ _ => cases h1
/-- o.m(e), a method of a built-in type -/
theorem pe_mF {X : Cx} (hX : Cxt Γ X) {o y : Expr} {name : PySem.Str} {apos pos : Pos} {to : TE} (ho : PE X o to) (hb : noSuper o = true) (hs : [y].all noStar = true) (hline : (apos.endLine == pos.line) = true) :
    PE X (.Call (.Attribute o name apos) [y] [] pos) (fun σ H Q => to σ H fun x H1 => ∃ T id r, tyV Γ.S.K T x H1 ∧ PlainAttrs T ∧ Slot T name id ∧ typeOf (.builtin id) = pure (.type "method_descriptor") ∧ (∀ X, Cxt Γ X → MtR X id r) ∧ wA Γ [y] σ H1 fun xs H2 => r x xs H2 Q) := by
  refine ⟨fun pins s σ H Q I h => ?_⟩
  obtain ⟨s1, s2⟩ := any_cons (X := X) (pos := pos) hs
  have hfew := form_ok (pos := pos) (env := X.env) hs (by simp)
  unfold methodCallForm at hfew
  refine wpAny_Call_method_late (noSuper_base hb) hfew hline rfl (thn (ho.run pins s σ H _ I h) fun v s1' ⟨x, H1, I1, r1, T, id, r, ty, pa, slot, hty, hm, q⟩ => ?_)
  obtain ⟨h1, h2⟩ := tyV_is I1 r1 (hX.K ▸ ty)
  refine ⟨T, id, pa, slot, hty, h1, h2, ?_⟩
  have hA := (wA_pa hX hs).run pos pins s1' σ H1 _ I1 q
  rw [s1] at hA ⊢
  refine Calls.callWith_builtin (by show (false || (backTo pos (starEach [] X.env)).any (·.1)) = false; rw [s2] <;> rfl) (Calls.evalArgs_plain ?_)
  exact thn hA fun us s2 ⟨vs, H2, I2, r2, q2⟩ => hm X hX pins s2 σ H2 x vs v us Q I2 r1 r2 q2
theorem MtR.imp {X : Cx} {id : String} {r r' : V → List V → Hp → VK → Prop} (h : MtR X id r) (q : ∀ x xs H Q, r' x xs H Q → r x xs H Q) : MtR X id r' :=
  fun pins s σ H x xs v us Q I rx rs z => h pins s σ H x xs v us Q I rx rs (q _ _ _ _ z)
theorem rm1_T {m : Mt} {x : V} {xs : List V} {H : Hp} {Q : VK} (hm : ∀ d y z, mtF m d y = some z → mtT m d = true) (h : rm1 Γ.S (mtF m) x xs H Q) : rm1 Γ.S (fun a b => if mtT m a then mtF m a b else none) x xs H Q := by
  obtain ⟨y, rfl, B, a, b, w, d, e, ra, rb, hf, q⟩ := h
  exact ⟨y, rfl, B, a, b, w, d, e, ra, rb, (if_pos (hm _ _ _ hf)).trans hf, q⟩
theorem so_mt {m : Mt} {ob as : E} {o y : Expr} {name : PySem.Str} {apos pos : Pos} (hn : mtOf name = some m) (ho : SO Γ F ob o) (hl : SL Γ F as [y] []) (hb : noSuper o = true) (hs : [y].all noStar = true) (hline : (apos.endLine == pos.line) = true) :
    SO Γ F (.mt m ob as) (.Call (.Attribute o name apos) [y] [] pos) := by
  intro σ B H e r Q P hr K X
  have hr : M.bind (evG Γ F ob).o (fun a => onD a fun d => if mtT m d then M.bind (evG Γ F as).l (mtM m a) else M.fail) e = some r := hr
  refine ⟨_, fun X hX => pe_mF hX (W_pe hX) hb hs hline, ?_⟩
  refine one_step ho P hr X fun a e1 v B1 H1 hf po ar fr => ?_
  obtain ⟨d, hd, hf⟩ := onD_inv hf
  have hT : mtT m d = true := by
    cases q : mtT m d with
    | true => rfl
    | false => rw [q] at hf; cases hf
  rw [if_pos hT] at hf
  have go : ∀ (R' : V → List V → Hp → VK → Prop), (∀ x xs H Q, rm1 Γ.S (mtF m) x xs H Q → x = v → (∀ p, v = .ref p → ∃ vs, H p = some (.lst vs)) → R' x xs H Q) → (∀ p, v = .ref p → ∃ vs, H1 p = some (.lst vs)) → wA Γ [y] σ H1 fun xs H2 => R' v xs H2 Q := by
    intro R' hR hv
    refine list_step0 (R' := fun xs H2 => R' v xs H2 Q) hl po.pst hf (X.step po fun _ _ _ h => h) fun as' e2 vs B2 H2 hf P2 po2 ars fr2 => ?_
    have z := mt_ok (Q := Q) P2 (po2.ar ar) ars hf (fun x e' he u B' H' p ar' fr' => K x e' he u B' H' ((po.then po2).trans p fun q t => .inr (po.stp.fresh (fr2 q t))) ar' fun q t => (po.then po2).stp.fresh (fr' q t))
    refine hR _ _ _ _ z rfl fun p hp => ?_
    obtain ⟨y', hy, B', a', b', w', d', e', ra, rb, hf', _⟩ := z
    cases a' with
    | lst ds => obtain ⟨p', vs', h1, h2, _⟩ := ra.lst e'; rw [hp] at h1; cases h1; exact ⟨vs', h2⟩
    | str s => have := ra.str.1; rw [hp] at this; cases this
    | _ => cases hf'
  have strTy : ∀ {s : List Nat}, d = .str s → tyV Γ.S.K "str" v H1 ∧ ∃ z, v = .str z := fun {s} h => by
    subst h
    rw [(ar.dr po.pst hd).str.1]
    exact ⟨rfl, _, rfl⟩
  have noref : (∃ z, v = .str z) → ∀ p, v = .ref p → ∃ vs, H1 p = some (.lst vs) := fun ⟨z, h⟩ p h' => by rw [h] at h'; cases h'
  unfold mtOf at hn
  split at hn
  · rename_i hx
    cases hn; subst hx
    cases d with
    | str s =>
      obtain ⟨t1, t2⟩ := strTy rfl
      exact ⟨"str", "str.find", _, t1, PySem.F.plainAttrs_str, PySem.F.slot_str_find, rfl, fun X hX => ok_find, go _ (fun x xs H Q z _ _ => rm1_T (fun d y z h => by cases d <;> first | rfl | cases h) z) (noref t2)⟩
    | _ => cases hT
  split at hn
  · rename_i hx
    cases hn; subst hx
    cases d with
    | str s =>
      obtain ⟨t1, t2⟩ := strTy rfl
      exact ⟨"str", "str.join", _, t1, PySem.F.plainAttrs_str, PySem.F.slot_str_join, rfl, fun X hX => ok_join, go _ (fun x xs H Q z _ _ => rm1_T (fun d y z h => by cases d <;> first | rfl | cases h) z) (noref t2)⟩
    | _ => cases hT
  split at hn
  · rename_i hx
    cases hn; subst hx
    cases d with
    | str s =>
      obtain ⟨t1, t2⟩ := strTy rfl
      exact ⟨"str", "str.split", _, t1, PySem.F.plainAttrs_str, PySem.F.slot_str_split, rfl, fun X hX => ok_split, go _ (fun x xs H Q z _ _ => rm1_T (fun d y z h => by cases d <;> first | rfl | cases h) z) (noref t2)⟩
    | _ => cases hT
  split at hn
  · rename_i hx
    cases hn; subst hx
    cases d with
    | str s =>
      obtain ⟨t1, t2⟩ := strTy rfl
      exact ⟨"str", "str.count", _, t1, PySem.F.plainAttrs_str, PySem.F.slot_str_count, rfl, fun X hX => ok_count, go _ (fun x xs H Q z _ _ => rm1_T (fun d y z h => by cases d <;> first | rfl | cases h) z) (noref t2)⟩
    | _ => cases hT
  split at hn
  · rename_i hx
    cases hn; subst hx
    cases d with
    | str s =>
      obtain ⟨t1, t2⟩ := strTy rfl
      exact ⟨"str", "str.endswith", _, t1, PySem.F.plainAttrs_str, PySem.F.slot_str_endswith, rfl, fun X hX => ok_ends, go _ (fun x xs H Q z _ _ => rm1_T (fun d y z h => by cases d <;> first | rfl | cases h) z) (noref t2)⟩
    | _ => cases hT
  split at hn
  · rename_i hx
    cases hn; subst hx
    cases d with
    | str s =>
      obtain ⟨t1, t2⟩ := strTy rfl
      exact ⟨"str", "str.index", _, t1, PySem.F.plainAttrs_str, PySem.F.slot_str_index, rfl, fun X hX => ok_sindex (S := Γ.S), go (fun x xs H Q => (∃ z, x = .str z) ∧ rm1 Γ.S (mtF .lIndex) x xs H Q) (fun x xs H Q z hx _ => ⟨by subst hx; exact t2, z⟩) (noref t2)⟩
    | lst ds =>
      obtain ⟨p, vs, hv, hp, _⟩ := (ar.dr po.pst hd).lst po.pst.ext
      subst hv
      exact ⟨"list", "list.index", _, .inl ⟨rfl, vs, sqL_of hp⟩, PySem.F.plainAttrs_list, PySem.F.slot_list_index, rfl, fun X hX => ok_lindex hX.K, go (fun x xs H Q => (∃ p vs, x = .ref p ∧ H p = some (.lst vs)) ∧ rm1 Γ.S (mtF .lIndex) x xs H Q) (fun x xs H Q z hx hv => ⟨by subst hx; obtain ⟨vs', h⟩ := hv p rfl; exact ⟨p, vs', rfl, h⟩, z⟩) fun p' h => by cases h; exact ⟨vs, hp⟩⟩
    | _ => cases hT
  · cases hn
end
end Gal
set_option Elab.async false
set_option linter.all false
set_option maxRecDepth 100000
/-! G18: classes and instances that are called. -/
namespace Gal
open PySem L2 PyProof.Rows PySem.Spec
section
variable {Γ : Ct} {F : Callee} {k : Nat} {σ : L2.St} {B H B1 H1 : Hp} {e e1 : Env} {X : Cx}
theorem slot_join {i : Nat} {v : V} (h : σ[i]?.join = some v) : σ[i]? = some (some v) := by
  cases y : σ[i]? with
  | none => rw [y] at h; cases h
  | some y' => rw [y] at h; simp at h; rw [h]
theorem vis_ok (hX : Cxt Γ X) {id : PySem.Str} (hv : isVis Γ.sc id = true) : Vis X.env.scope id ∧ (id == ("__debug__" : PySem.Str)) = false ∧ (id == ("__classdict__" : PySem.Str)) = false := by
  unfold isVis at hv
  simp only [Bool.and_eq_true, Bool.or_eq_true, decide_eq_true_eq, Bool.not_eq_true'] at hv
  refine ⟨?_, hv.1.2, hv.2⟩
  rw [hX.sc]
  exact hv.1.1.imp _root_.id .inl
theorem pe_mkvF (hX : Cxt Γ X) {i : Nat} {id : PySem.Str} {p pos : Pos} {ys : List Expr} {C : Addr} {r : L2.St → List V → Hp → VK → Prop} (hN : Γ.N[i]? = some id) (hv : isVis Γ.sc id = true) (hk : PySem.W.keepIn X.K (.ref C) = true) (hc : CallSt X (.ref C) r) (hs : ys.all noStar = true) :
    PE X (.Call (.Name id p) ys [] pos) (fun σ H Q => σ[i]? = some (some (.ref C)) ∧ wA Γ ys σ H fun vs H1 => r σ vs H1 Q) := by
  obtain ⟨v1, v2, v3⟩ := vis_ok hX hv
  refine ⟨fun pins s σ H Q I h => ?_⟩
  refine wpAny_Call_Name_kw (thn ((pe_var (pos := p) (by rw [hX.N]; exact hN) v1 v2 v3).run pins s σ H (fun v H1 => v = .ref C ∧ wA Γ ys σ H1 fun vs H1 => r σ vs H1 Q) I ⟨_, h.1, rfl, h.2⟩) fun u s1 ⟨v, H1, I1, rv, ev, q⟩ => ?_)
  subst ev
  obtain rfl : u = Value.ref C := rv
  exact args_K (first := []) hX I1 hk hs q fun us s2 vs H2 I2 rv2 q2 => hc pins s2 σ H2 vs us Q I2 rv2 q2
theorem so_mkv (Fa : Fac Γ F k) (hh : Γ.hot = false) {c i f : Nat} {as : E} {id : PySem.Str} {p pos : Pos} {ys : List Expr} {j : Nat} (hi : (Γ.S.P.cl c).init = some f) (hj : j ≤ Γ.S.jm f) (hN : Γ.N[i]? = some id) (hv : isVis Γ.sc id = true) (hs : ys.all noStar = true)
    (hl : SL Γ F as ys ((Γ.S.dd f).drop j)) : SO Γ F (.mkv c i as) (.Call (.Name id p) ys [] pos) := by
  intro σ B H e r Q P hr K X
  have hr : cold Γ.hot (M.bind (varM i) fun a => match a with
    | .v _ (.cls c') => if c' = c then M.bind (evG Γ F as).l (mkObj Γ.S.P F Γ.np c) else M.fail
    | _ => M.fail) e = some r := hr
  rw [hh] at hr
  refine ⟨_, fun X hX => pe_mkvF hX hN hv (by rw [hX.K]; exact (Fa.mki c f hi).kp) (mk_callJ Fa hh hX hi hj) hs, ?_⟩
  have key : ∃ v, σ[i]? = some (some v) ∧ v = .ref (Γ.S.ca c) ∧ M.bind (evG Γ F as).l (mkObj Γ.S.P F Γ.np c) e = some r := by
    have hr : M.bind (varM i) (fun a => match a with
      | .v _ (.cls c') => if c' = c then M.bind (evG Γ F as).l (mkObj Γ.S.P F Γ.np c) else M.fail
      | _ => M.fail) e = some r := hr
    rcases bind_inv hr with ⟨a, e1, h1, h2⟩ | ⟨c0, fs, e1, h1, h2⟩
    · unfold varM at h1
      cases q : e[i]? with
      | none => simp only [q] at h1; cases h1
      | some s =>
        simp only [q] at h1
        have z := P.sl i s q
        cases s with
        | va d =>
          cases h1
          obtain ⟨v, hv, rp⟩ := z
          cases d with
          | cls c' =>
            have h2 : (if c' = c then M.bind (evG Γ F as).l (mkObj Γ.S.P F Γ.np c) else M.fail) e = some r := h2
            split at h2
            · rename_i hc
              subst hc
              cases rp
              exact ⟨_, slot_join hv, rfl, h2⟩
            · cases h2
          | _ => cases h2
        | fz d =>
          cases h1
          obtain ⟨v, hv, rp, _⟩ := z
          cases d with
          | cls c' =>
            have h2 : (if c' = c then M.bind (evG Γ F as).l (mkObj Γ.S.P F Γ.np c) else M.fail) e = some r := h2
            split at h2
            · rename_i hc
              subst hc
              cases rp
              exact ⟨_, slot_join hv, rfl, h2⟩
            · cases h2
          | _ => cases h2
        | ow d => cases h1; cases h2
        | lk d => cases h1; cases h2
        | _ => cases h1
    · unfold varM at h1
      cases q : e[i]? with
      | none => simp only [q] at h1; cases h1
      | some s => simp only [q] at h1; cases s <;> cases h1
  obtain ⟨v, k1, rfl, hr⟩ := key
  exact ⟨k1, list_step (R' := fun vs H2 => ∀ x dx, H2 x = none → H2 dx = none → dx ≠ x → spR Γ.S F f (.ref x :: vs) (upd (upd H2 dx (.own x)) x (.ins (Γ.S.ca c) dx [])) (fun v H3 => v = .non ∧ Q (.ref x) H3) (WE Γ.W σ)) hl P hr X
    fun as' e1 vs B1 H1 hf P1 po ars fr => make_inv hi P1 ars hf (fin_KO po fr K) (fin_KX po fr X)⟩
/-! ### a classmethod of a class by its name -/
theorem pe_cmF (Fa : Fac Γ F k) (hh : Γ.hot = false) (hX : Cxt Γ X) {c m f j : Nat} {id : PySem.Str} {p1 apos pos : Pos} {y : Expr} {ys : List Expr} (hm : (Γ.S.P.cl c).cms.lookup m = some f) (hj : j ≤ Γ.S.jm f) (hg : isGl Γ.sc id = true) (hv : Γ.S.gl id = some (.cls c))
    (hs : (y :: ys).all noStar = true) (h30 : (y :: ys).length < 30) (hline : (apos.endLine == pos.line) = true) :
    PE X (.Call (.Attribute (.Name id p1) (Γ.S.an m) apos) (y :: ys) [] pos) (fun σ H Q => wA Γ (y :: ys) σ H fun vs H1 => spR Γ.S F f (.ref (Γ.S.ca c) :: vs ++ ((Γ.S.dd f).drop j).map cV) H1 Q (WE Γ.W σ)) := by
  obtain ⟨g1, g2, g3⟩ := isGl_ok hX hg
  obtain ⟨c1, c2⟩ := Fa.gls id _ hv
  obtain ⟨_, mc, q, r, cm⟩ := Fa.cm hh c m f hm
  rw [← hX.K] at r cm
  obtain ⟨h1, h2⟩ := any_cons (X := X) (pos := pos) hs
  refine ⟨fun pins s σ H Q I h => ?_⟩
  have he : PE X (.Name id p1) (tC (.ref (Γ.S.ca c))) := pe_glob g1 (by rw [hX.mg]; exact c1) rfl g2
  refine PySem.W.methodCall_KW (thn (he.run pins s σ H (fun v H1 => v = .ref (Γ.S.ca c) ∧ wA Γ (y :: ys) σ H1 fun vs H1 => spR Γ.S F f (.ref (Γ.S.ca c) :: vs ++ ((Γ.S.dd f).drop j).map cV) H1 Q (WE Γ.W σ)) I ⟨rfl, h⟩) fun u s1 ⟨x, H1, I1, rx, ex, q⟩ => ?_) (meth_eval rfl hs h30 hline)
  subst ex
  obtain rfl : u = Value.ref (Γ.S.ca c) := rx
  refine ClX.getmethcm_ok I1 r cm fun s2 I2 => ?_
  refine ClX.callwith_cm I2 (ClX.base_none I1 (Nat.le_refl _)) cm.fi (thn ((wA_pa hX hs).run pos _ s2 σ H1 _ I2 q) fun us s3 ⟨vs, H2, I3, rv, q2⟩ => ⟨⟨ClX.pin_at I3, I3.kIn⟩, ?_⟩) h1 h2
  have z : wpAny (model X.prog X.w) X.A (call (.ref s1.heap.objs.size) us) (EP X ((s1.heap.objs.size, PySem.W.methodObj (.ref (Γ.S.fa f)) (.ref (Γ.S.ca c))) :: pins) σ Q) X.xe s3 := by
    refine wpAny_call (PySem.W.method_call (ClX.pin_at I3) (codeAny_mono (fn_run (us := .ref (Γ.S.ca c) :: us) (vs := .ref (Γ.S.ca c) :: vs) Fa hh hX I3 (.cons rfl rv) ⟨j, hj, q2⟩) fun r s' hq => ?_))
    cases r with
    | error e => exact hq
    | ok fl => cases fl <;> exact hq
  exact thn z fun _ _ y => ClX.unpinE y
theorem so_cm (Fa : Fac Γ F k) (hh : Γ.hot = false) {c m f j : Nat} {as : E} {id : PySem.Str} {p1 apos pos : Pos} {y : Expr} {ys : List Expr} (hm : (Γ.S.P.cl c).cms.lookup m = some f) (hj : j ≤ Γ.S.jm f) (hg : isGl Γ.sc id = true) (hv : Γ.S.gl id = some (.cls c))
    (hs : (y :: ys).all noStar = true) (h30 : (y :: ys).length < 30) (hline : (apos.endLine == pos.line) = true) (hl : SL Γ F as (y :: ys) ((Γ.S.dd f).drop j)) : SO Γ F (.cm c m as) (.Call (.Attribute (.Name id p1) (Γ.S.an m) apos) (y :: ys) [] pos) := by
  intro σ B H e r Q P hr K X
  have hr : cold Γ.hot (match (Γ.S.P.cl c).cms.lookup m with
    | some f => M.bind (evG Γ F as).l fun xs => callD F Γ.np f (.v false (.cls c) :: xs)
    | none => M.fail) e = some r := hr
  rw [hh, hm] at hr
  refine ⟨_, fun X hX => pe_cmF Fa hh hX hm hj hg hv hs h30 hline, ?_⟩
  refine list_step (R' := fun vs H2 => spR Γ.S F f (.ref (Γ.S.ca c) :: vs) H2 Q (WE Γ.W σ)) hl P hr X fun as' e1 vs B1 H1 hf P1 po ars fr => ?_
  have ars' : ArsR Γ σ B1 H1 e1 (.v false (.cls c) :: as') (.ref (Γ.S.ca c) :: vs) := .cons (show Rep Γ.S B1 _ _ from .cls c) ars fun p t => t.elim
  have fr' : ∀ q, Tmps (.v false (.cls c) :: as') (.ref (Γ.S.ca c) :: vs) q → H q = none := fun q t => (tmps_cons t).elim (fun t => t.elim) (fr q)
  exact call_ok P1 ars' hf (fin_KO po fr' K) (fin_KX po fr' X)
/-! ### an instance that is called -/
def notAttr : Expr → Bool
  | .Attribute _ _ _ => false
  | _ => true
theorem notAttr_eval {fe : Expr} {pos : Pos} {ys : List Expr} {env : PySem.Env} (h : notAttr fe = true) : eval (.Call fe ys [] pos) env = (do callWith pos (← eval fe env) [] (backTo pos (starEach ys env)) (backToKw pos (keywordEach [] env))) := by
  cases fe <;> first | rfl | cases h
theorem pe_calloF (Fa : Fac Γ F k) (hh : Γ.hot = false) (hX : Cxt Γ X) {fe y : Expr} {ys : List Expr} {pos : Pos} {tf : TE} (hf : PE X fe tf) (hn : notAttr fe = true) (hs : (y :: ys).all noStar = true) :
    PE X (.Call fe (y :: ys) [] pos) (fun σ H Q => tf σ H fun v H1 => ∃ a, v = .ref a ∧ wA Γ (y :: ys) σ H1 fun vs H2 => ∃ c dx gs f, H2 a = some (.ins (Γ.S.ca c) dx gs) ∧ (Γ.S.P.cl c).meths.lookup 1011 = some f ∧ spR Γ.S F f (v :: vs) H2 Q (WE Γ.W σ)) := by
  obtain ⟨h1, h2⟩ := any_cons (X := X) (pos := pos) hs
  refine ⟨fun pins s σ H Q I h => ?_⟩
  refine Call_ (thn (hf.run pins s σ H _ I h) fun u s1 ⟨y', H1, I1, ry, a, ey, q⟩ => ?_) (notAttr_eval hn)
  subst ey
  obtain rfl : u = Value.ref a := ry
  refine StX.callO_with (thn ((wA_pa hX hs).run pos pins s1 σ H1 _ I1 q) fun us s2 ⟨vs, H2, I2, r, c, dx, gs, f, hi, hl, q2⟩ => ?_) h1 h2
  obtain ⟨ox, od, J, hd⟩ := StX.insC_at I2 (.inr ⟨dx, gs, hi⟩)
  have co := Fa.callo hh c f hl
  rw [← hX.K] at co
  refine ⟨⟨_, ox, od, J, hd⟩, wpAny_call (PySem.W.kco_code I2.kIn J hd co.at_ co.fn co.fi (codeAny_mono (fn_run (us := .ref a :: us) (vs := .ref a :: vs) Fa hh hX I2 (.cons rfl r) ⟨_, Fa.jm hl, by rw [List.drop_length]; simpa using q2⟩) fun r s' hq => ?_))⟩
  cases r with
  | error e => exact hq
  | ok fl => cases fl <;> exact hq
theorem so_callo (Fa : Fac Γ F k) (hh : Γ.hot = false) {ob as : E} {fe y : Expr} {ys : List Expr} {pos : Pos} (ho : SO Γ F ob fe) (hn : notAttr fe = true) (hs : (y :: ys).all noStar = true) (hl : SL Γ F as (y :: ys) []) : SO Γ F (.callo ob as) (.Call fe (y :: ys) [] pos) := by
  intro σ B H e r Q P hr K X
  have hr : cold Γ.hot (M.bind (evG Γ F ob).o fun a => onD a fun d => match d with
    | .obj c _ => match (Γ.S.P.cl c).meths.lookup 1011 with
      | some f => M.bind (evG Γ F as).l fun xs => onD a fun d' => match d' with
        | .obj c' _ => if c' = c then callD F Γ.np f (a :: xs) else M.fail
        | _ => M.fail
      | none => M.fail
    | _ => M.fail) e = some r := hr
  rw [hh] at hr
  refine ⟨_, fun X hX => pe_calloF Fa hh hX (W_pe hX) hn hs, ?_⟩
  refine one_step ho P hr X fun a e1 v B1 H1 hf po ar fr => ?_
  obtain ⟨d, hd, hf⟩ := onD_inv hf
  cases d with
  | obj c fs =>
    obtain ⟨p, dx, gs, rfl, hp, rf⟩ := (ar.dr po.pst hd).obj po.pst.ext
    have hf : (match (Γ.S.P.cl c).meths.lookup 1011 with
      | some f => M.bind (evG Γ F as).l fun xs => onD a fun d' => match d' with
        | .obj c' _ => if c' = c then callD F Γ.np f (a :: xs) else M.fail
        | _ => M.fail
      | none => M.fail) e1 = some r := hf
    cases q2 : (Γ.S.P.cl c).meths.lookup 1011 with
    | none => simp only [q2] at hf; cases hf
    | some f =>
      simp only [q2] at hf
      refine ⟨p, rfl, ?_⟩
      refine list_step0 (R' := fun vs H2 => ∃ c dx gs f, H2 p = some (.ins (Γ.S.ca c) dx gs) ∧ (Γ.S.P.cl c).meths.lookup 1011 = some f ∧ spR Γ.S F f (.ref p :: vs) H2 Q (WE Γ.W σ)) hl po.pst hf (X.step po (fun _ _ _ h => h)) fun as' e2 vs B2 H2 hf P2 po2 ars fr2 => ?_
      obtain ⟨d', hd', hf⟩ := onD_inv hf
      cases d' with
      | obj c' fs' =>
        have hf2 : (if c' = c then callD F Γ.np f (a :: as') else M.fail) e2 = some r := hf
        clear hf
        split at hf2
        · rename_i hc
          subst hc
          obtain ⟨p', dx', gs', hp', hpp, _⟩ := ((po2.ar ar).dr po2.pst hd').obj po2.pst.ext
          cases hp'
          have fr' : ∀ q, Tmps (a :: as') (.ref p :: vs) q → H q = none := fun q t => (tmps_cons t).elim (fr q) fun t => po.stp.fresh (fr2 q t)
          exact ⟨c', dx', gs', f, hpp, q2, call_ok P2 (cons_ars ar po2 ars fr2) hf2 (fin_KO (po.then po2) fr' K) (fin_KX (po.then po2) fr' X)⟩
        · cases hf2
      | _ => cases hf
  | _ => cases hf
end
end Gal
set_option Elab.async false
set_option linter.all false
set_option maxRecDepth 100000
/-! G19: the check of a written expression, and what it gives. -/
namespace Gal
open PySem L2 PyProof.Rows PySem.Spec
/-- the tables that the check reads -/
structure Cp where
  P : Prog
  an : Nat → PySem.Str
  nA : Nat
  gl : PySem.Str → Option Gk
  dd : Nat → List D
  kw : Nat → List (Nat × List PySem.Str)
  ko : Nat → Bool
  N : List PySem.Str
  sc : Scope
  hot : Bool
def Ct.cp (Γ : Ct) : Cp := ⟨Γ.S.P, Γ.S.an, Γ.S.nA, Γ.S.gl, Γ.S.dd, Γ.S.kw, Γ.S.ko, Γ.N, Γ.sc, Γ.hot⟩
structure Ck where
  o : Expr → Bool
  l : List Expr → List D → Bool
  b : List Expr → Bool
  p : Option Expr → Bool
def ckV (f : Expr → Bool) : Ck := ⟨f, fun _ _ => false, fun _ => false, fun x => match x with
  | some x => f x
  | none => false⟩
def lenE : E → Nat
  | .cons _ r => lenE r + 1
  | _ => 0
def noIte : E → Bool
  | .ite _ _ _ => false
  | _ => true
def isNil : E → Bool
  | .nil => true
  | _ => false
/-- the class that isinstance is asked for -/
def tyOk (c : Cp) (t : Ty) : Expr → Bool
  | .Name id _ => isGl c.sc id && (match t with
    | .cls k => decide (c.gl id = some (.cls k))
    | t => decide (tyOf id = some t))
  | _ => false
def dfl (c : Cp) (f : Nat) (as : E) (es : List Expr) : Nat := min ((c.dd f).length - (lenE as - es.length)) (if c.ko f then 0 else (c.dd f).length)
variable (c : Cp)
def ck : E → Ck
  | .var i => ckV fun x => match x with
    | .Name id _ => decide (c.N[i]? = some id) && isVis c.sc id
    | _ => false
  | .con d => ckV fun x => match x with
    | .Constant k _ _ => constEq k d
    | _ => false
  | .gl k => ckV fun x => match x with
    | .Name id _ => isGl c.sc id && decide (c.gl id = some (.val k))
    | _ => false
  | .op o as => ckV fun x => match x with
    | .BinOp a op b _ => decide (binOf op = some o) && (ck as).l [a, b] []
    | .UnaryOp op a _ => decide (unOf op = some o) && (ck as).l [a] []
    | .Compare a [op] [b] _ => decide (cmpOf op = some o) && !behindInMarks op b && (ck as).l [a, b] []
    | .Subscript a b _ => decide (o = .ix) && plainIx b && (ck as).l [a, b] []
    | .Call (.Name id _) (y :: ys) [] _ => isGl c.sc id && (match bltOf id (y :: ys).length with
      | some (o', hb) => decide (o' = o) && (hb || !c.hot)
      | none => false) && (ck as).l (y :: ys) []
    | _ => false
  | .mt m ob as => ckV fun x => match x with
    | .Call (.Attribute o name apos) [y] [] pos => decide (mtOf name = some m) && (ck ob).o o && noSuper o && (apos.endLine == pos.line) && (ck as).l [y] []
    | _ => false
  | .bool a ms => ckV fun x => match x with
    | .BoolOp op xs _ => (isAnd op == a) && (ck ms).b xs
    | _ => false
  | .not m => ckV fun x => match x with
    | .UnaryOp .Not a _ => (ck m).o a && noIte m
    | _ => false
  | .ite mc ma mb => ckV fun x => match x with
    | .IfExp t a b _ => (ck mc).o t && noIte mc && (ck ma).o a && (ck mb).o b
    | _ => false
  | .chain o1 o2 ma mb mc => ckV fun x => match x with
    | .Compare a [p1, p2] [b, d] _ => decide (cmpOf p1 = some o1) && decide (cmpOf p2 = some o2) && !lastMarks [p1, p2] [b, d] && (ck ma).o a && (ck mb).o b && (ck mc).o d
    | _ => false
  | .call f as => ckV fun x => match x with
    | .Call (.Name id _) es [] _ => isGl c.sc id && decide (c.gl id = some (.fn f)) && !c.hot && (ck as).l es ((c.dd f).drop (dfl c f as es))
    | _ => false
  | .meth m ob as => ckV fun x => match x with
    | .Call (.Attribute o name apos) es [] pos => decide (name = c.an m) && decide (m < c.nA) && (ck ob).o o && noSuper o && decide (es.length < 30) && (apos.endLine == pos.line) && !c.hot && (ck as).l es []
    | _ => false
  | .make k as => ckV fun x => match x with
    | .Call (.Name id _) es [] _ => isGl c.sc id && decide (c.gl id = some (.cls k)) && !c.hot && (match (c.P.cl k).init with
      | some f => (ck as).l es ((c.dd f).drop (dfl c f as es))
      | none => false)
    | _ => false
  | .cm k m as => ckV fun x => match x with
    | .Call (.Attribute (.Name id _) name apos) (y :: ys) [] pos => isGl c.sc id && decide (c.gl id = some (.cls k)) && !c.hot && decide (name = c.an m) && decide ((y :: ys).length < 30) && (apos.endLine == pos.line) && (match (c.P.cl k).cms.lookup m with
      | some f => (ck as).l (y :: ys) ((c.dd f).drop (dfl c f as (y :: ys)))
      | none => false)
    | _ => false
  | .mkv k i as => ckV fun x => match x with
    | .Call (.Name id _) es [] _ => decide (c.N[i]? = some id) && isVis c.sc id && !c.hot && (match (c.P.cl k).init with
      | some f => (ck as).l es ((c.dd f).drop (dfl c f as es))
      | none => false)
    | _ => false
  | .callo ob as => ckV fun x => match x with
    | .Call fe (y :: ys) [] _ => notAttr fe && (ck ob).o fe && !c.hot && (ck as).l (y :: ys) []
    | _ => false
  | .fld f ob => ckV fun x => match x with
    | .Attribute o name _ => decide (name = c.an f) && decide (f < c.nA) && (ck ob).o o && noSuper o
    | _ => false
  | .isi t ob => ckV fun x => match x with
    | .Call (.Name id _) [o, tx] [] _ => decide (id = "isinstance") && isGl c.sc id && okTy c.P t && (ck ob).o o && tyOk c t tx && noStar o
    | _ => false
  | .slice a lo hi => ckV fun x => match x with
    | .Subscript a' (.Slice l h none _) _ => (ck a).o a' && (ck lo).p l && (ck hi).p h
    | _ => false
  | .lst as => ckV fun x => match x with
    | .List es _ => (ck as).l es []
    | _ => false
  | .tup as => ckV fun x => match x with
    | .Tuple es _ _ => (ck as).l es []
    | _ => false
  | .dct => ckV fun x => match x with
    | .Dict [] [] _ => true
    | _ => false
  | .nil => ⟨fun _ => false, fun xs ds => xs.isEmpty && ds.isEmpty, fun _ => false, fun x => x.isNone⟩
  | .cons m r => ⟨fun _ => false, fun xs ds => match xs with
      | x :: xs => noStar x && (ck m).o x && (ck r).l xs ds
      | [] => conL (.cons m r) ds,
    fun xs => match xs with
      | [x] => (ck m).o x && noIte m && isNil r
      | x :: y :: ys => (ck m).o x && noIte m && (ck r).b (y :: ys)
      | [] => false, fun _ => false⟩
  | _ => ckV fun _ => false
end Gal
set_option Elab.async false
set_option linter.all false
set_option maxRecDepth 100000
/-! G20: a checked expression runs as the small one. -/
namespace Gal
open PySem L2 PyProof.Rows PySem.Spec
structure All (Γ : Ct) (F : Callee) (m : E) : Prop where
  o : ∀ x, (ck Γ.cp m).o x = true → SO Γ F m x
  t : ∀ x, (ck Γ.cp m).o x = true → noIte m = true → ST Γ F m x
  l : ∀ xs ds, (ck Γ.cp m).l xs ds = true → SL Γ F m xs ds ∧ xs.all noStar = true
  b : ∀ op xs, (ck Γ.cp m).b xs = true → SJ Γ F (isAnd op) m op xs ∧ SK Γ F (isAnd op) m op xs
  p : ∀ x, (ck Γ.cp m).p x = true → SP Γ F m x
section
variable {Γ : Ct} {F : Callee} {k : Nat}
theorem allV {m : E} {f : Expr → Bool} {mm : M Ar} (hck : ck Γ.cp m = ckV f) (hev : evG Γ F m = ofV mm) (h : ∀ x, f x = true → SO Γ F m x ∧ (plainT x = true ∨ (noIte m = true → ST Γ F m x))) : All Γ F m := by
  have o : ∀ x, (ck Γ.cp m).o x = true → SO Γ F m x := fun x q => (h x (by rw [hck] at q; exact q)).1
  refine ⟨o, fun x q n => ?_, fun xs ds q => (by rw [hck] at q; cases q), fun op xs q => (by rw [hck] at q; cases q), fun x q => ?_⟩
  · obtain ⟨a, b⟩ := h x (by rw [hck] at q; exact q)
    rcases b with b | b
    · exact st_plain a (by rw [hev]; rfl) b
    · exact b n
  · cases x with
    | none => rw [hck] at q; cases q
    | some x => exact sp_some (h x (by rw [hck] at q; exact q)).1 (by rw [hev]; rfl)
theorem allB {m : E} {f : Expr → Bool} {mm nn : M Bool} (hck : ck Γ.cp m = ckV f) (hev : evG Γ F m = ofB2 mm nn) (h : ∀ x, f x = true → SO Γ F m x ∧ ST Γ F m x) : All Γ F m := by
  refine ⟨fun x q => (h x (by rw [hck] at q; exact q)).1, fun x q n => (h x (by rw [hck] at q; exact q)).2, fun xs ds q => (by rw [hck] at q; cases q), fun op xs q => (by rw [hck] at q; cases q), fun x q => ?_⟩
  intro σ B H e r Q P hr K X
  rw [hev] at hr
  cases hr
theorem and2 {a b : Bool} (h : (a && b) = true) : a = true ∧ b = true := Bool.and_eq_true_iff.mp h
theorem notT {a : Bool} (h : (!a) = true) : a = false := by simpa using h
theorem dfl_le (f : Nat) (as : E) (es : List Expr) : dfl Γ.cp f as es ≤ Γ.S.jm f := Nat.min_le_right _ _
theorem dead_all {m : E} (hck : ck Γ.cp m = ckV fun _ => false) {mm : M Ar} (hev : evG Γ F m = ofV mm) : All Γ F m := allV hck hev fun x q => by cases q
theorem tyOk_ok (Fa : Fac Γ F k) {t : Ty} {tx : Expr} (h : tyOk Γ.cp t tx = true) : ∃ tv, ClsV tv (tyVal Γ.S t) ∧ (∀ (σ : L2.St) (H : Hp) (Q : VK), Q tv H → W Γ tx σ H Q) ∧ noStar tx = true := by
  cases tx with
  | Name id p =>
    obtain ⟨hg, h2⟩ := and2 h
    have own : ∀ k, Γ.S.gl id = some (.cls k) → t = .cls k → ∃ tv, ClsV tv (tyVal Γ.S t) ∧ (∀ (σ : L2.St) (H : Hp) (Q : VK), Q tv H → W Γ (.Name id p) σ H Q) ∧ noStar (.Name id p) = true := fun k hk ht => by
      subst ht
      obtain ⟨m1, m2⟩ := Fa.gls id _ hk
      refine ⟨.ref (Γ.S.ca k), .own _, fun σ H Q q => ⟨tC (.ref (Γ.S.ca k)), fun X hX => ?_, q⟩, rfl⟩
      obtain ⟨g1, g2, _⟩ := isGl_ok hX hg
      exact pe_glob g1 (by rw [hX.mg]; exact m1) rfl g2
    have blt : ∀ n : String, bootBuiltins id = some (.type n) → tyVal Γ.S t = .type n → (id ∈ bltIds ∨ id ∈ bltTys) → ∃ tv, ClsV tv (tyVal Γ.S t) ∧ (∀ (σ : L2.St) (H : Hp) (Q : VK), Q tv H → W Γ (.Name id p) σ H Q) ∧ noStar (.Name id p) = true := fun n hb ht hm => by
      refine ⟨.ty n, by rw [ht]; exact .ty n, fun σ H Q q => ⟨tC (.ty n), fun X hX => ?_, q⟩, rfl⟩
      obtain ⟨g1, g2, g3⟩ := isGl_ok hX hg
      exact pe_bltn g1 (by rw [hX.mg]; exact Fa.blt id hm) hb rfl g3 g2
    have ty : ∀ {t' : Ty}, t = t' → tyOf id = some t' → ∃ tv, ClsV tv (tyVal Γ.S t) ∧ (∀ (σ : L2.St) (H : Hp) (Q : VK), Q tv H → W Γ (.Name id p) σ H Q) ∧ noStar (.Name id p) = true := fun {t'} ht h => by
      unfold tyOf at h
      split at h
      · rename_i hx; cases h; exact blt "int" (by rw [hx]; rfl) (by rw [ht]; rfl) (.inl (by rw [hx]; decide))
      split at h
      · rename_i hx; cases h; exact blt "str" (by rw [hx]; rfl) (by rw [ht]; rfl) (.inl (by rw [hx]; decide))
      split at h
      · rename_i hx; cases h; exact blt "bool" (by rw [hx]; rfl) (by rw [ht]; rfl) (.inr (by rw [hx]; decide))
      split at h
      · rename_i hx; cases h; exact blt "list" (by rw [hx]; rfl) (by rw [ht]; rfl) (.inl (by rw [hx]; decide))
      split at h
      · rename_i hx; cases h; exact blt "tuple" (by rw [hx]; rfl) (by rw [ht]; rfl) (.inl (by rw [hx]; decide))
      split at h
      · rename_i hx; cases h; exact blt "dict" (by rw [hx]; rfl) (by rw [ht]; rfl) (.inr (by rw [hx]; decide))
      split at h
      · rename_i hx; cases h; exact blt "ValueError" (by rw [hx]; rfl) (by rw [ht]; rfl) (.inr (by rw [hx]; decide))
      · cases h
    cases t with
    | cls k => exact own k (of_decide_eq_true h2) rfl
    | _ => exact ty rfl (of_decide_eq_true h2)
  | _ => cases h
theorem all_op (Fa : Fac Γ F k) {o : Op} {as : E} (ih : All Γ F as) : All Γ F (.op o as) := by
  refine allV rfl rfl fun x h => ?_
  cases x with
  | BinOp a op b p =>
    obtain ⟨h1, h2⟩ := and2 h
    exact ⟨so_op2 (fun X hX => bin_ok Fa hX (of_decide_eq_true h1)) (ih.l _ _ h2).1, .inl rfl⟩
  | UnaryOp op a p =>
    obtain ⟨h1, h2⟩ := and2 h
    have h1 := of_decide_eq_true h1
    refine ⟨so_op1 (fun X hX => un_ok Fa hX h1) (ih.l _ _ h2).1, .inl ?_⟩
    cases op <;> first | rfl | cases h1
  | Compare a ops bs p =>
    match ops, bs, h with
    | [op], [b], h =>
      obtain ⟨h1, h3⟩ := and2 h
      obtain ⟨h1, h2⟩ := and2 h1
      have h1 := of_decide_eq_true h1
      exact ⟨so_cmp (fun X hX => cmp_ok Fa hX h1) (notT h2) (ih.l _ _ h3).1, .inr fun _ => st_cmp (fun X hX => cmp_ok Fa hX h1) (notT h2) (ih.l _ _ h3).1⟩
    | [], _, h => cases h
    | [_], [], h => cases h
    | [_], _ :: _ :: _, h => cases h
    | _ :: _ :: _, _, h => cases h
  | Subscript a b p =>
    obtain ⟨h1, h3⟩ := and2 h
    obtain ⟨h1, h2⟩ := and2 h1
    have h1 := of_decide_eq_true h1
    subst h1
    exact ⟨so_ix (fun X hX => ix_ok Fa hX) h2 (ih.l _ _ h3).1, .inl rfl⟩
  | Call f es kws p =>
    cases f with
    | Name id p1 =>
      match es, kws, h with
      | y :: ys, [], h =>
        obtain ⟨h0, h3⟩ := and2 h
        obtain ⟨h1, h2⟩ := and2 h0
        clear h0 h
        cases q : bltOf id (y :: ys).length with
        | none => rw [q] at h2; cases h2
        | some z =>
          obtain ⟨o', hb⟩ := z
          rw [q] at h2
          obtain ⟨h4, h5⟩ := and2 h2
          have h4 := of_decide_eq_true h4
          subst h4
          refine ⟨so_blt Fa q ?_ h1 (ih.l _ _ h3).2 (ih.l _ _ h3).1, .inl rfl⟩
          rcases Bool.or_eq_true_iff.mp h5 with h5 | h5
          · exact .inl h5
          · exact .inr (notT h5)
      | [], _, h => cases h
      | _ :: _, _ :: _, h => cases h
    | _ => cases h
  | _ => cases h
theorem main (Fa : Fac Γ F k) (m : E) : All Γ F m := by
  induction m with
  | var i =>
    refine allV rfl rfl fun x h => ?_
    cases x with
    | Name id p => obtain ⟨h1, h2⟩ := and2 h; exact ⟨so_var (of_decide_eq_true h1) h2, .inl rfl⟩
    | _ => cases h
  | con d =>
    refine allV rfl rfl fun x h => ?_
    cases x with
    | Constant c n p => exact ⟨so_con h, .inl rfl⟩
    | _ => cases h
  | gl i =>
    refine allV rfl rfl fun x h => ?_
    cases x with
    | Name id p => obtain ⟨h1, h2⟩ := and2 h; exact ⟨so_gl Fa h1 (of_decide_eq_true h2), .inl rfl⟩
    | _ => cases h
  | op o as ih => exact all_op Fa ih
  | mt m ob as iho ih =>
    refine allV rfl rfl fun x h => ?_
    cases x with
    | Call f es kws p =>
      cases f with
      | Attribute o name apos =>
        match es, kws, h with
        | [y], [], h =>
          obtain ⟨h, h5⟩ := and2 h
          obtain ⟨h, h4⟩ := and2 h
          obtain ⟨h, h3⟩ := and2 h
          obtain ⟨h1, h2⟩ := and2 h
          exact ⟨so_mt (of_decide_eq_true h1) (iho.o _ h2) (ih.l _ _ h5).1 h3 (ih.l _ _ h5).2 h4, .inl rfl⟩
        | [], _, h => cases h
        | [_], _ :: _, h => cases h
        | _ :: _ :: _, _, h => cases h
      | _ => cases h
    | _ => cases h
  | bool a ms ih =>
    refine allB rfl rfl fun x h => ?_
    cases x with
    | BoolOp op xs p =>
      obtain ⟨h1, h2⟩ := and2 h
      have h1 : isAnd op = a := by simpa using h1
      subst h1
      obtain ⟨j, k'⟩ := ih.b op xs h2
      exact ⟨so_bool j, st_bool k'⟩
    | _ => cases h
  | not m ih =>
    refine allB rfl rfl fun x h => ?_
    cases x with
    | UnaryOp op a p =>
      cases op with
      | Not =>
        obtain ⟨h1, h2⟩ := and2 h
        exact ⟨so_not (ih.o _ h1), st_not (ih.t _ h1 h2)⟩
      | _ => cases h
    | _ => cases h
  | ite mc ma mb ihc iha ihb =>
    refine allV rfl rfl fun x h => ?_
    cases x with
    | IfExp t a b p =>
      obtain ⟨h, h4⟩ := and2 h
      obtain ⟨h, h3⟩ := and2 h
      obtain ⟨h1, h2⟩ := and2 h
      exact ⟨so_ite (ihc.t _ h1 h2) (iha.o _ h3) (ihb.o _ h4), .inr fun n => by cases n⟩
    | _ => cases h
  | chain o1 o2 ma mb mc iha ihb ihc =>
    refine allB rfl rfl fun x h => ?_
    cases x with
    | Compare a ops bs p =>
      match ops, bs, h with
      | [p1, p2], [b, d], h =>
        obtain ⟨h, h6⟩ := and2 h
        obtain ⟨h, h5⟩ := and2 h
        obtain ⟨h, h4⟩ := and2 h
        obtain ⟨h, h3⟩ := and2 h
        obtain ⟨h1, h2⟩ := and2 h
        exact ⟨so_chain Fa (of_decide_eq_true h1) (of_decide_eq_true h2) (notT h3) (iha.o _ h4) (ihb.o _ h5) (ihc.o _ h6), st_chain Fa (of_decide_eq_true h1) (of_decide_eq_true h2) (notT h3) (iha.o _ h4) (ihb.o _ h5) (ihc.o _ h6)⟩
      | [], _, h => cases h
      | [_], _, h => cases h
      | _ :: _ :: _ :: _, _, h => cases h
      | [_, _], [], h => cases h
      | [_, _], [_], h => cases h
      | [_, _], _ :: _ :: _ :: _, h => cases h
    | _ => cases h
  | call f as ih =>
    refine allV rfl rfl fun x h => ?_
    cases x with
    | Call fn es kws p =>
      cases fn with
      | Name id p1 =>
        match kws, h with
        | [], h =>
          obtain ⟨h, h4⟩ := and2 h
          obtain ⟨h, h3⟩ := and2 h
          obtain ⟨h1, h2⟩ := and2 h
          exact ⟨so_call Fa (notT h3) (dfl_le f as es) h1 (of_decide_eq_true h2) (ih.l _ _ h4).2 (ih.l _ _ h4).1, .inl rfl⟩
        | _ :: _, h => cases h
      | _ => cases h
    | _ => cases h
  | meth m ob as iho ih =>
    refine allV rfl rfl fun x h => ?_
    cases x with
    | Call fn es kws p =>
      cases fn with
      | Attribute o name apos =>
        match kws, h with
        | [], h =>
          obtain ⟨h, h8⟩ := and2 h
          obtain ⟨h, h7⟩ := and2 h
          obtain ⟨h, h6⟩ := and2 h
          obtain ⟨h, h5⟩ := and2 h
          obtain ⟨h, h4⟩ := and2 h
          obtain ⟨h, h3⟩ := and2 h
          obtain ⟨h1, h2⟩ := and2 h
          have h1 : name = Γ.S.an m := of_decide_eq_true h1
          subst h1
          exact ⟨so_meth Fa (notT h7) (of_decide_eq_true h2) (iho.o _ h3) (ih.l _ _ h8).1 h4 (ih.l _ _ h8).2 (of_decide_eq_true h5) h6, .inl rfl⟩
        | _ :: _, h => cases h
      | _ => cases h
    | _ => cases h
  | make c as ih =>
    refine allV rfl rfl fun x h => ?_
    cases x with
    | Call fn es kws p =>
      cases fn with
      | Name id p1 =>
        match kws, h with
        | [], h =>
          obtain ⟨h, h4⟩ := and2 h
          obtain ⟨h, h3⟩ := and2 h
          obtain ⟨h1, h2⟩ := and2 h
          cases q : (Γ.cp.P.cl c).init with
          | none => rw [q] at h4; cases h4
          | some f =>
            rw [q] at h4
            exact ⟨so_make Fa (notT h3) q (dfl_le f as es) h1 (of_decide_eq_true h2) (ih.l _ _ h4).2 (ih.l _ _ h4).1, .inl rfl⟩
        | _ :: _, h => cases h
      | _ => cases h
    | _ => cases h
  | cm c m as ih =>
    refine allV rfl rfl fun x h => ?_
    cases x with
    | Call fn es kws p =>
      cases fn with
      | Attribute o name apos =>
        cases o with
        | Name id p1 =>
          match es, kws, h with
          | y :: ys, [], h =>
            obtain ⟨h, h7⟩ := and2 h
            obtain ⟨h, h6⟩ := and2 h
            obtain ⟨h, h5⟩ := and2 h
            obtain ⟨h, h4⟩ := and2 h
            obtain ⟨h, h3⟩ := and2 h
            obtain ⟨h1, h2⟩ := and2 h
            have h4 : name = Γ.S.an m := of_decide_eq_true h4
            subst h4
            cases q : (Γ.cp.P.cl c).cms.lookup m with
            | none => rw [q] at h7; cases h7
            | some f =>
              rw [q] at h7
              exact ⟨so_cm Fa (notT h3) q (dfl_le f as (y :: ys)) h1 (of_decide_eq_true h2) (ih.l _ _ h7).2 (of_decide_eq_true h5) h6 (ih.l _ _ h7).1, .inl rfl⟩
          | [], _, h => cases h
          | _ :: _, _ :: _, h => cases h
        | _ => cases h
      | _ => cases h
    | _ => cases h
  | mkv c i as ih =>
    refine allV rfl rfl fun x h => ?_
    cases x with
    | Call fn es kws p =>
      cases fn with
      | Name id p1 =>
        match kws, h with
        | [], h =>
          obtain ⟨h, h4⟩ := and2 h
          obtain ⟨h, h3⟩ := and2 h
          obtain ⟨h1, h2⟩ := and2 h
          cases q : (Γ.cp.P.cl c).init with
          | none => rw [q] at h4; cases h4
          | some f =>
            rw [q] at h4
            exact ⟨so_mkv Fa (notT h3) q (dfl_le f as es) (of_decide_eq_true h1) h2 (ih.l _ _ h4).2 (ih.l _ _ h4).1, .inl rfl⟩
        | _ :: _, h => cases h
      | _ => cases h
    | _ => cases h
  | callo ob as iho ih =>
    refine allV rfl rfl fun x h => ?_
    cases x with
    | Call fe es kws p =>
      match es, kws, h with
      | y :: ys, [], h =>
        obtain ⟨h, h4⟩ := and2 h
        obtain ⟨h, h3⟩ := and2 h
        obtain ⟨h1, h2⟩ := and2 h
        exact ⟨so_callo Fa (notT h3) (iho.o _ h2) h1 (ih.l _ _ h4).2 (ih.l _ _ h4).1, .inl rfl⟩
      | [], _, h => cases h
      | _ :: _, _ :: _, h => cases h
    | _ => cases h
  | fld f ob iho =>
    refine allV rfl rfl fun x h => ?_
    cases x with
    | Attribute o name p =>
      obtain ⟨h, h4⟩ := and2 h
      obtain ⟨h, h3⟩ := and2 h
      obtain ⟨h1, h2⟩ := and2 h
      have h1 : name = Γ.S.an f := of_decide_eq_true h1
      subst h1
      exact ⟨so_fld Fa (of_decide_eq_true h2) (iho.o _ h3) h4, .inl rfl⟩
    | _ => cases h
  | isi t ob iho =>
    refine allV rfl rfl fun x h => ?_
    cases x with
    | Call fn es kws p =>
      cases fn with
      | Name id p1 =>
        match es, kws, h with
        | [o, tx], [], h =>
          obtain ⟨h, h6⟩ := and2 h
          obtain ⟨h, h5⟩ := and2 h
          obtain ⟨h, h4⟩ := and2 h
          obtain ⟨h, h3⟩ := and2 h
          obtain ⟨h1, h2⟩ := and2 h
          have h1 := of_decide_eq_true h1
          subst h1
          obtain ⟨tv, t1, t2, t3⟩ := tyOk_ok Fa h5
          exact ⟨so_isi Fa h2 h3 t1 t2 (by rw [List.all_cons, List.all_cons, h6, t3]; rfl) (iho.o _ h4), .inl rfl⟩
        | [], _, h => cases h
        | [_], _, h => cases h
        | [_, _], _ :: _, h => cases h
        | _ :: _ :: _ :: _, _, h => cases h
      | _ => cases h
    | _ => cases h
  | slice a lo hi iha ihl ihh =>
    refine allV rfl rfl fun x h => ?_
    cases x with
    | Subscript a' sl p =>
      cases sl with
      | Slice l u st p2 =>
        cases st with
        | none =>
          obtain ⟨h, h3⟩ := and2 h
          obtain ⟨h1, h2⟩ := and2 h
          exact ⟨so_slice (iha.o _ h1) (ihl.p _ h2) (ihh.p _ h3), .inl rfl⟩
        | some _ => cases h
      | _ => cases h
    | _ => cases h
  | lst as ih =>
    refine allV rfl rfl fun x h => ?_
    cases x with
    | List es p => exact ⟨so_lst (ih.l _ _ h).2 (ih.l _ _ h).1, .inl rfl⟩
    | _ => cases h
  | tup as ih =>
    refine allV rfl rfl fun x h => ?_
    cases x with
    | Tuple es n p => exact ⟨so_tup (ih.l _ _ h).2 (ih.l _ _ h).1, .inl rfl⟩
    | _ => cases h
  | dct =>
    refine allV rfl rfl fun x h => ?_
    cases x with
    | Dict ks vs p =>
      match ks, vs, h with
      | [], [], h => exact ⟨so_dct, .inl rfl⟩
      | [], _ :: _, h => cases h
      | _ :: _, _, h => cases h
    | _ => cases h
  | nil =>
    refine ⟨fun x q => (by cases q), fun x q => (by cases q), fun xs ds q => ?_, fun op xs q => (by cases q), fun x q => ?_⟩
    · obtain ⟨h1, h2⟩ := and2 q
      cases xs with
      | nil =>
        cases ds with
        | nil => exact ⟨sl_nil, rfl⟩
        | cons _ _ => cases h2
      | cons _ _ => cases h1
    · cases x with
      | none => exact sp_none
      | some _ => cases q
  | cons m r ihm ihr =>
    refine ⟨fun x q => (by cases q), fun x q => (by cases q), fun xs ds q => ?_, fun op xs q => ?_, fun x q => (by cases q)⟩
    · cases xs with
      | nil => exact ⟨sl_con q, rfl⟩
      | cons x xs =>
        obtain ⟨q, h3⟩ := and2 q
        obtain ⟨h1, h2⟩ := and2 q
        obtain ⟨i1, i2⟩ := ihr.l _ _ h3
        exact ⟨sl_cons (ihm.o _ h2) i1, by rw [List.all_cons, h1, i2]; rfl⟩
    · match xs, q with
      | [x], q =>
        obtain ⟨q, h3⟩ := and2 q
        obtain ⟨h1, h2⟩ := and2 q
        cases r with
        | nil => exact ⟨sj_one (ihm.o _ h1), sk_one (ihm.t _ h1 h2)⟩
        | _ => cases h3
      | x :: y :: ys, q =>
        obtain ⟨q, h3⟩ := and2 q
        obtain ⟨h1, h2⟩ := and2 q
        obtain ⟨j, k'⟩ := ihr.b op _ h3
        exact ⟨sj_cons (ihm.o _ h1) j, sk_cons (ihm.t _ h1 h2) k'⟩
      | [], q => cases q
  | _ => exact dead_all rfl rfl
end
end Gal
set_option Elab.async false
set_option linter.all false
set_option maxRecDepth 100000
/-! G21: statements: what is shown of them; stores, returns, ifs. -/
namespace Gal
open PySem L2 PyProof.Rows PySem.Spec
/-- a statement's run -/
structure Ps (Γ : Ct) (σ : L2.St) (B H : Hp) (e : Env) (σ' : L2.St) (B' H' : Hp) (e' : Env) : Prop where
  pst : Pst Γ σ' B' H' e'
  stp : Stp (Own σ e) B H B' H'
  own : ∀ p, Own σ' e' p → Own σ e p ∨ H p = none
  kp : ∀ i : Nat, i < Γ.np → ownish e[i]? → ownish e'[i]? ∧ σ'[i]? = σ[i]?
  lk : ∀ (i : Nat) d, e[i]? = some (.lk d) → e'[i]? = some (.lk d) ∧ σ'[i]? = σ[i]?
  lh : ∀ (i : Nat) d p o, e[i]? = some (.lk d) → σ[i]? = some (some (.ref p)) → H p = some o → H' p = some o
  ln : σ'.length = σ.length
section
variable {Γ : Ct} {F : Callee} {k : Nat} {σ σ1 σ2 σ' : L2.St} {B H B1 H1 B2 H2 B' H' : Hp} {e e1 e2 e' : Env}
theorem Ps.refl (p : Pst Γ σ B H e) : Ps Γ σ B H e σ B H e := ⟨p, Stp.refl _ B H, fun _ h => .inl h, fun _ _ h => ⟨h, rfl⟩, fun _ _ h => ⟨h, rfl⟩, fun _ _ _ _ _ _ h => h, rfl⟩
theorem Ps.trans (a : Ps Γ σ B H e σ1 B1 H1 e1) (b : Ps Γ σ1 B1 H1 e1 σ2 B2 H2 e2) : Ps Γ σ B H e σ2 B2 H2 e2 := by
  refine ⟨b.pst, a.stp.trans b.stp a.own, fun p q => ?_, fun i hi q => ?_, fun i d q => ?_, fun i d p o h1 h2 h3 => ?_, b.ln.trans a.ln⟩
  · rcases b.own p q with z | z
    · exact a.own p z
    · exact .inr (a.stp.fresh z)
  · obtain ⟨x, y⟩ := a.kp i hi q
    obtain ⟨x', y'⟩ := b.kp i hi x
    exact ⟨x', y'.trans y⟩
  · obtain ⟨x, y⟩ := a.lk i d q
    obtain ⟨x', y'⟩ := b.lk i d x
    exact ⟨x', y'.trans y⟩
  · obtain ⟨x, y⟩ := a.lk i d h1
    exact b.lh i d p o x (y.trans h2) (a.lh i d p o h1 h2 h3)
theorem Po.ps (a : Po Γ σ noT B H e B1 H1 e1) : Ps Γ σ B H e σ B1 H1 e1 := by
  refine ⟨a.pst, ⟨a.stp.b, fun p o q => a.stp.k p o fun z => z.elim q fun z => z, fun p o q => ?_, a.stp.a⟩, fun p q => .inl (a.own p q), fun i hi q => ⟨a.kp i hi q, rfl⟩, fun i d q => ⟨a.lk i d q, rfl⟩, a.lh, rfl⟩
  rcases a.stp.n p o q with z | z | z | z
  · exact .inl z
  · exact .inr (.inl z)
  · exact .inr (.inr z)
  · exact z.elim
/-- a returned value -/
def RtV (Γ : Ct) (σ : L2.St) (H : Hp) (e : Env) (w : Bool) (d : D) (v : V) (σ' : L2.St) (B' H' : Hp) (e' : Env) : Prop :=
  if w = true then ∃ p, v = .ref p ∧ B' p = none ∧ RepO Γ.S B' H' p d ∧ ¬ Own σ' e' p ∧ (Own σ e p ∨ H p = none) else Rep Γ.S B' v d
/-- the ends that are wanted -/
def KD (Γ : Ct) (σ : L2.St) (B H : Hp) (e : Env) (D : Ends) : Out → Prop
  | .nx e' => ∀ σ' B' H', Ps Γ σ B H e σ' B' H' e' → D.nx σ' H'
  | .bk e' => ∀ σ' B' H', Ps Γ σ B H e σ' B' H' e' → D.bk σ' H'
  | .ct e' => ∀ σ' B' H', Ps Γ σ B H e σ' B' H' e' → D.ct σ' H'
  | .rt w d e' => ∀ v σ' B' H', Ps Γ σ B H e σ' B' H' e' → RtV Γ σ H e w d v σ' B' H' e' → D.rt v H'
  | .ex c fs e' => ∀ cls dd σ' B' H', Ps Γ σ B H e σ' B' H' e' → ExR Γ.S B' H' cls dd c fs → Γ.W cls dd σ' H'
theorem RtV.step {w : Bool} {d : D} {v : V} (a : Ps Γ σ B H e σ1 B1 H1 e1) (h : RtV Γ σ1 H1 e1 w d v σ' B' H' e') : RtV Γ σ H e w d v σ' B' H' e' := by
  cases w with
  | false => exact h
  | true =>
    obtain ⟨p, h1, h2, h3, h4, h5⟩ := h
    refine ⟨p, h1, h2, h3, h4, ?_⟩
    rcases h5 with z | z
    · exact a.own p z
    · exact .inr (a.stp.fresh z)
theorem KD.step {D : Ends} {o : Out} (a : Ps Γ σ B H e σ1 B1 H1 e1) (h : KD Γ σ B H e D o) : KD Γ σ1 B1 H1 e1 D o := by
  cases o with
  | nx e' => exact fun σ' B' H' p => h σ' B' H' (a.trans p)
  | bk e' => exact fun σ' B' H' p => h σ' B' H' (a.trans p)
  | ct e' => exact fun σ' B' H' p => h σ' B' H' (a.trans p)
  | rt w d e' => exact fun v σ' B' H' p r => h v σ' B' H' (a.trans p) (r.step a)
  | ex c fs e' => exact fun cls dd σ' B' H' p x => h cls dd σ' B' H' (a.trans p) x
abbrev evT (Γ : Ct) (F : Callee) (n : Nat) (s : S) : Env → Option Out := evS Γ.S.P F Γ.np n s Γ.hot
def SS (Γ : Ct) (F : Callee) (n : Nat) (s : S) (st : Stmt) : Prop := ∀ σ B H e o D, Pst Γ σ B H e → evT Γ F n s e = some o → KD Γ σ B H e D o → WS Γ st D σ H
def SB (Γ : Ct) (F : Callee) (n : Nat) (s : S) (sts : List Stmt) : Prop := ∀ σ B H e o D, Pst Γ σ B H e → evT Γ F n s e = some o → KD Γ σ B H e D o → WSs Γ sts D σ H
/-- an expression, then the rest of the statement -/
theorem ex_step {m : E} {x : Expr} {f : Ar → Env → Option Out} {o : Out} {R' : VK} {D : Ends} (hm : SO Γ F m x) (P : Pst Γ σ B H e) (hr : okN ((evG Γ F m).o e) f = some o) (X : KD Γ σ B H e D o)
    (h : ∀ a e1 v B1 H1, f a e1 = some o → Po Γ σ noT B H e B1 H1 e1 → ArR Γ σ B1 H1 e1 a v → (∀ q, Tmp a v q → H q = none) → R' v H1) : W Γ x σ H R' := by
  unfold okN at hr
  cases q : (evG Γ F m).o e with
  | none => rw [q] at hr; cases hr
  | some r =>
    rw [q] at hr
    cases r with
    | ok a e1 => exact hm σ B H e _ R' P q (fun a' e' he v B1 H1 po ar fr => by cases he; exact h a e1 v B1 H1 hr po ar fr) okX
    | ex c fs e1 =>
      cases hr
      exact hm σ B H e _ R' P q (fun a' e' he => by cases he) fun c' fs' e' he cls dd B1 H1 po x => by cases he; exact X cls dd σ B1 H1 po.ps x
theorem sb_nil {n : Nat} : SB Γ F n .nop [] := by
  intro σ B H e o D P hr K
  cases hr
  exact ⟨_, fun X hX => pss_nil, K σ B H (Ps.refl P)⟩
theorem sb_one {n : Nat} {s : S} {st : Stmt} (h : SS Γ F n s st) : SB Γ F n s [st] := by
  intro σ B H e o D P hr K
  exact ⟨_, fun X hX => pss_one (WS_ps hX), h σ B H e o D P hr K⟩
theorem sb_seq {n : Nat} {a b : S} {st : Stmt} {sts : List Stmt} (ha : SS Γ F n a st) (hb : SB Γ F n b sts) : SB Γ F n (.seq a b) (st :: sts) := by
  intro σ B H e o D P hr K
  have hr : (match evT Γ F n a e with
    | some (.nx e1) => evT Γ F n b e1
    | r => r) = some o := hr
  refine ⟨_, fun X hX => pss_cons (WS_ps hX) (WSs_ps hX), ?_⟩
  show WS Γ st { D with nx := fun σ H => WSs Γ sts D σ H } σ H
  cases q : evT Γ F n a e with
  | none => rw [q] at hr; cases hr
  | some o1 =>
    rw [q] at hr
    refine ha σ B H e o1 _ P q ?_
    cases o1 with
    | nx e1 => exact fun σ' B' H' p => hb σ' B' H' e1 o D p.pst hr (K.step p)
    | bk e1 => cases hr; exact K
    | ct e1 => cases hr; exact K
    | rt w d e1 => cases hr; exact K
    | ex c fs e1 => cases hr; exact K
theorem ss_pass {n : Nat} {pos : Pos} : SS Γ F n .pass (.Pass pos) := by
  intro σ B H e o D P hr K
  cases hr
  exact ⟨_, fun X hX => ps_pass, K σ B H (Ps.refl P)⟩
theorem ss_brk {n : Nat} {pos : Pos} : SS Γ F n .brk (.Break pos) := by
  intro σ B H e o D P hr K
  cases hr
  exact ⟨_, fun X hX => ps_break, K σ B H (Ps.refl P)⟩
theorem ss_cont {n : Nat} {pos : Pos} : SS Γ F n .cont (.Continue pos) := by
  intro σ B H e o D P hr K
  cases hr
  exact ⟨_, fun X hX => ps_continue, K σ B H (Ps.refl P)⟩
theorem ss_retN {n : Nat} {pos : Pos} : SS Γ F n .retN (.Return none pos) := by
  intro σ B H e o D P hr K
  cases hr
  exact ⟨_, fun X hX => ps_retN, K .non σ B H (Ps.refl P) .non⟩
/-- not a comprehension -/
def noComp : Expr → Bool
  | .ListComp _ _ _ _ => false
  | .SetComp _ _ _ _ => false
  | .DictComp _ _ _ _ _ => false
  | _ => true
theorem noComp_sw {x : Expr} (h : noComp x = true) (t : Option Expr) (l : Nat) (env : PySem.Env) : swapsWith x t l env = pure false := by
  cases x <;> first | rfl | cases h
theorem ss_expr {n : Nat} {m : E} {x : Expr} {pos : Pos} (hm : SO Γ F m x) (hc : noComp x = true) : SS Γ F n (.expr m) (.Expr x pos) := by
  intro σ B H e o D P hr K
  have hr : okN ((evG Γ F m).o e) (fun _ e1 => some (.nx e1)) = some o := hr
  refine ⟨_, fun X hX => ps_expr (W_pe hX) (noComp_sw hc _ _ _), ?_⟩
  exact ex_step hm P hr K fun a e1 v B1 H1 hf po ar fr => by cases hf; exact K σ B1 H1 po.ps
theorem ss_ite {n : Nat} {mc : E} {a b : S} {c : Expr} {xs ys : List Stmt} {pos : Pos} (hc : ST Γ F mc c) (ha : SB Γ F n a xs) (hb : SB Γ F n b ys) : SS Γ F n (.ite mc a b) (.If c xs ys pos) := by
  intro σ B H e o D P hr K
  have hr : okN ((evG Γ F mc).t e) (fun x e1 => if x then evT Γ F n a e1 else evT Γ F n b e1) = some o := hr
  refine ⟨_, fun X hX => ps_if (WT_pt hX) (WSs_ps hX) (WSs_ps hX), ?_⟩
  show WT Γ c σ H fun b H1 => if b = true then WSs Γ xs D σ H1 else WSs Γ ys D σ H1
  unfold okN at hr
  cases q : (evG Γ F mc).t e with
  | none => rw [q] at hr; cases hr
  | some r =>
    rw [q] at hr
    cases r with
    | ok x e1 =>
      refine hc σ B H e _ _ P q (fun b' e' he B1 H1 po => ?_) okX
      cases he
      cases x with
      | true => exact ha σ B1 H1 e1 o D po.pst hr (K.step po.ps)
      | false => exact hb σ B1 H1 e1 o D po.pst hr (K.step po.ps)
    | ex c fs e1 =>
      cases hr
      exact hc σ B H e _ _ P q (fun a' e' he => by cases he) fun c' fs' e' he cls dd B1 H1 po x => by cases he; exact K cls dd σ B1 H1 po.ps x
/-! ### stores -/
theorem jn_of {i : Nat} {v : V} (h : σ[i]? = some (some v)) : σ[i]?.join = some v := by rw [h]; rfl
/-- slot i gets a value -/
theorem store_ok' {i : Nat} {w : Bool} {d : D} {v : V} (P : Pst Γ σ B H e) (ar : ArR Γ σ B H e (.v w d) v) (h : putA Γ.np i w d e = some e') :
    Pst Γ (σ.set i (some v)) B H e' ∧ (∀ p, Own (σ.set i (some v)) e' p → Own σ e p ∨ Tmp (.v w d) v p) ∧ (∀ j : Nat, j < Γ.np → ownish e[j]? → ownish e'[j]? ∧ (σ.set i (some v))[j]? = σ[j]?) ∧ (∀ (j : Nat) d', e[j]? = some (.lk d') → e'[j]? = some (.lk d') ∧ (σ.set i (some v))[j]? = σ[j]?) := by
  have key : e' = e.set i (if w then .ow d else .va d) ∧ i < e.length ∧ (∀ d', e[i]? ≠ some (.lk d')) ∧ (i < Γ.np → ¬ ownish e[i]?) := by
    unfold putA at h
    cases q : e[i]? with
    | none => simp only [q] at h; cases h
    | some s =>
      have hl := (List.getElem?_eq_some_iff.mp q).1
      simp only [q] at h
      cases s with
      | un => cases h; exact ⟨rfl, hl, (fun d' z => by cases z), fun _ z => z⟩
      | va x => cases h; exact ⟨rfl, hl, (fun d' z => by cases z), fun _ z => z⟩
      | ow x =>
        simp only at h
        split at h
        · cases h
        · rename_i hn
          cases h
          exact ⟨rfl, hl, (fun d' z => by cases z), fun z => absurd z hn⟩
      | _ => cases h
  obtain ⟨rfl, hl, nl, nk⟩ := key
  have hs : i < σ.length := by rw [← P.len]; exact hl
  have other : ∀ {j : Nat} {s : Sl}, i ≠ j → (e.set i (if w then Sl.ow d else Sl.va d))[j]? = some s → e[j]? = some s ∧ (σ.set i (some v))[j]? = σ[j]? := fun {j s} ne q => by
    rw [List.getElem?_set_ne ne] at q
    exact ⟨q, List.getElem?_set_ne ne⟩
  have own' : ∀ {j : Nat} {p : Addr}, OwnAt (σ.set i (some v)) (e.set i (if w then Sl.ow d else Sl.va d)) j p → (i ≠ j ∧ OwnAt σ e j p) ∨ (i = j ∧ Tmp (.v w d) v p) := by
    intro j p ⟨⟨d', hd⟩, h2⟩
    by_cases q : i = j
    · subst q
      rw [List.getElem?_set_self hl] at hd
      rw [List.getElem?_set_self hs] at h2
      refine .inr ⟨rfl, ?_⟩
      cases w with
      | true => cases h2; rfl
      | false => rcases hd with hd | hd <;> cases hd
    · refine .inl ⟨q, ⟨d', ?_⟩, (List.getElem?_set_ne q).symm.trans h2⟩
      rw [List.getElem?_set_ne q] at hd
      exact hd
  refine ⟨⟨by rw [List.length_set, List.length_set]; exact P.len, P.ext, fun j s hj => ?_, fun j j' p o1 o2 => ?_⟩, fun p ⟨j, o⟩ => ?_, fun j hj ho => ?_, fun j d' hj => ?_⟩
  · by_cases q : i = j
    · subst q
      rw [List.getElem?_set_self hl] at hj
      rw [List.getElem?_set_self hs]
      cases w with
      | true =>
        cases hj
        obtain ⟨p, hv, hb, r, _⟩ := ar
        exact ⟨p, by rw [hv]; rfl, hb, r⟩
      | false => cases hj; exact ⟨v, rfl, ar⟩
    · obtain ⟨h1, h2⟩ := other q hj
      rw [h2]
      exact P.sl j s h1
  · rcases own' o1 with ⟨_, a⟩ | ⟨a, t⟩
    · rcases own' o2 with ⟨_, b⟩ | ⟨b, t⟩
      · exact P.dj j j' p a b
      · exact absurd ⟨j, a⟩ (tmp_not_own ar t).1
    · rcases own' o2 with ⟨_, b⟩ | ⟨b, t'⟩
      · exact absurd ⟨j', b⟩ (tmp_not_own ar t).1
      · exact a.symm.trans b
  · rcases own' o with ⟨_, a⟩ | ⟨_, t⟩
    · exact .inl ⟨j, a⟩
    · exact .inr t
  · have : i ≠ j := by
      rintro rfl
      exact nk hj ho
    rw [List.getElem?_set_ne this, List.getElem?_set_ne this]
    exact ⟨ho, rfl⟩
  · have : i ≠ j := by
      rintro rfl
      exact nl d' hj
    rw [List.getElem?_set_ne this, List.getElem?_set_ne this]
    exact ⟨hj, rfl⟩
theorem store_ps {i : Nat} {w : Bool} {d : D} {v : V} (po : Po Γ σ noT B H e B1 H1 e1) (ar : ArR Γ σ B1 H1 e1 (.v w d) v) (fr : ∀ q, Tmp (.v w d) v q → H q = none) (h : putA Γ.np i w d e1 = some e') : Ps Γ σ B H e (σ.set i (some v)) B1 H1 e' := by
  obtain ⟨a, b, c, d'⟩ := store_ok' po.pst ar h
  have ps := po.ps
  refine ⟨a, ps.stp, fun p q => ?_, fun i hi q => ?_, fun i d q => ?_, po.lh, List.length_set⟩
  · rcases b p q with z | z
    · exact .inl (po.own p z)
    · exact .inr (fr p z)
  · exact c i hi (po.kp i hi q)
  · exact d' i d (po.lk i d q)
def isLoc (sc : Scope) (x : PySem.Str) : Bool := decide (sc.names.lookup x = some .local) || decide (sc.names.lookup x = some .cell)
theorem isLoc_ok {X : Cx} (hX : Cxt Γ X) {x : PySem.Str} (h : isLoc Γ.sc x = true) : Loc X.env.scope x := by
  unfold isLoc at h
  simp only [Bool.or_eq_true, decide_eq_true_eq] at h
  rw [hX.sc]
  exact h
theorem map_nx {x : Option Env} {o : Out} (h : x.map Out.nx = some o) : ∃ e', x = some e' ∧ o = .nx e' := by
  obtain ⟨e', h1, h2⟩ := map_some h
  exact ⟨e', h1, h2.symm⟩
theorem ss_asg {n : Nat} {i : Nat} {m : E} {x : Expr} {id : PySem.Str} {p pos : Pos} (top : Γ.top = true) (hN : Γ.N[i]? = some id) (hl : isLoc Γ.sc id = true) (hc : noComp x = true) (hm : SO Γ F m x) : SS Γ F n (.asg (.nm i) m) (.Assign [.Name id p] x pos) := by
  intro σ B H e o D P hr K
  have hr : okN ((evG Γ F m).o e) (fun a e1 => match a with
      | .v o d => (putA Γ.np i o d e1).map .nx
      | a => okN (settle Γ.np a e1) fun d e2 => (putA Γ.np i false d.2 e2).map .nx) = some o := hr
  refine ⟨_, fun X hX => ps_set (by rw [hX.N]; exact hX.nd) (by rw [hX.N]; exact hN) (isLoc_ok hX hl) (W_pe hX) (noComp_sw hc _ _ _) (.inl (by rw [(hX.top top).2.2])), ?_⟩
  show W Γ x σ H fun v H1 => D.nx (σ.set i (some v)) H1
  refine ex_step hm P hr K fun a e1 v B1 H1 hf po ar fr => ?_
  cases a with
  | v w d =>
    obtain ⟨e', h1, rfl⟩ := map_nx hf
    exact K _ _ _ (store_ps po ar fr h1)
  | r j =>
    have hf : okN (settle Γ.np (.r j) e1) (fun d e2 => (putA Γ.np i false d.2 e2).map Out.nx) = some o := hf
    unfold okN at hf
    cases q : settle Γ.np (.r j) e1 with
    | none => rw [q] at hf; cases hf
    | some r =>
      rw [q] at hf
      cases r with
      | ex c fs e2 =>
        exfalso
        unfold settle at q
        cases q2 : e1[j]? with
        | none => simp only [q2] at q; cases q
        | some s => simp only [q2] at q; cases s <;> cases q
      | ok y e2 =>
        obtain ⟨w, d⟩ := y
        obtain ⟨e', h1, rfl⟩ := map_nx hf
        obtain ⟨B2, po2, rp⟩ := settle_ok po.pst ar q
        have po2' := po.trans po2 fun q t => t.elim
        exact K _ _ _ (store_ps (w := false) po2' rp (fun _ t => t.elim) h1)
end
end Gal
set_option Elab.async false
set_option linter.all false
set_option maxRecDepth 100000
/-! G22: returns, writes into objects, unpacking. -/
namespace Gal
open PySem L2 PyProof.Rows PySem.Spec
section
variable {Γ : Ct} {F : Callee} {k : Nat} {σ σ1 σ2 σ' : L2.St} {B H B1 H1 B2 H2 B' H' : Hp} {e e1 e2 e' : Env}
/-- a slot is given away -/
theorem unset_ps {i : Nat} {d : D} {p : Addr} (po : Po Γ σ noT B H e B1 H1 e1) (hi : e1[i]? = some (.ow d)) (hs : σ[i]? = some (some (.ref p))) (hn : ¬ i < Γ.np) :
    Ps Γ σ B H e σ B1 H1 (e1.set i .un) ∧ ¬ Own σ (e1.set i .un) p ∧ Own σ e p := by
  have me : OwnAt σ e1 i p := ⟨⟨d, .inl hi⟩, hs⟩
  have nu : ∀ x : D, Sl.un ≠ .ow x ∧ Sl.un ≠ .lk x := fun x => ⟨(fun z => by cases z), (fun z => by cases z)⟩
  have ps := po.ps
  refine ⟨⟨⟨by rw [List.length_set]; exact po.pst.len, po.pst.ext, fun j s hj => ?_, fun j j' q o1 o2 => po.pst.dj j j' q (ownAt_set nu o1).2 (ownAt_set nu o2).2⟩, ps.stp, fun q ⟨j, o⟩ => .inl (po.own q ⟨j, (ownAt_set nu o).2⟩), fun j hj ho => ⟨?_, rfl⟩, fun j d' hj => ⟨?_, rfl⟩, po.lh, rfl⟩, fun ⟨j, o⟩ => ?_, po.own p ⟨i, me⟩⟩
  · rcases set_get hj with ⟨rfl, rfl⟩ | ⟨_, hj⟩
    · trivial
    · exact po.pst.sl j s hj
  · have : i ≠ j := by rintro rfl; exact hn hj
    rw [List.getElem?_set_ne this]
    exact po.kp j hj ho
  · have h := po.lk j d' hj
    have : i ≠ j := by rintro rfl; rw [hi] at h; cases h
    rw [List.getElem?_set_ne this]
    exact h
  · obtain ⟨ne, o⟩ := ownAt_set nu o
    exact ne (po.pst.dj i j p me o)
theorem settle_ex {np : Nat} {a : Ar} {c : Nat} {fs : List (Nat × D)} : settle np a e ≠ some (.ex c fs e') := by
  intro q
  cases a with
  | v w d => cases q
  | r j =>
    unfold settle at q
    cases q2 : e[j]? with
    | none => simp only [q2] at q; cases q
    | some s => simp only [q2] at q; cases s <;> cases q
/-- an operand is handed on, then the rest -/
theorem settle_step {a : Ar} {v : V} {f : Bool × D → Env → Option Out} {o : Out} (po : Po Γ σ noT B H e B1 H1 e1) (ar : ArR Γ σ B1 H1 e1 a v) (fr : ∀ q, Tmp a v q → H q = none) (hr : okN (settle Γ.np a e1) f = some o) :
    ∃ d e2 B2, f d e2 = some o ∧ Po Γ σ noT B H e B2 H1 e2 ∧ Rep Γ.S B2 v d.2 ∧ Ex B1 B2 := by
  unfold okN at hr
  cases q : settle Γ.np a e1 with
  | none => rw [q] at hr; cases hr
  | some r =>
    rw [q] at hr
    cases r with
    | ex c fs e2 => exact (settle_ex q).elim
    | ok y e2 =>
      obtain ⟨B2, po2, rp⟩ := settle_ok po.pst ar q
      exact ⟨y, e2, B2, hr, po.trans po2 fun q t => .inr (fr q t), rp, po2.stp.b⟩
theorem ss_ret {n : Nat} {m : E} {x : Expr} {pos : Pos} (hm : SO Γ F m x) : SS Γ F n (.ret m) (.Return (some x) pos) := by
  intro σ B H e o D P hr K
  have hr : okN ((evG Γ F m).o e) (fun a e1 => match a with
    | .v o d => some (.rt o d e1)
    | .r i => if i < Γ.np then okN (settle Γ.np (.r i) e1) fun d e2 => some (.rt false d.2 e2) else match e1[i]? with
      | some (.ow d) => some (.rt true d (e1.set i .un))
      | _ => none) = some o := hr
  refine ⟨_, fun X hX => ps_ret (W_pe hX), ?_⟩
  show W Γ x σ H D.rt
  refine ex_step hm P hr K fun a e1 v B1 H1 hf po ar fr => ?_
  cases a with
  | v w d =>
    cases hf
    refine K v σ B1 H1 po.ps ?_
    cases w with
    | false => exact ar
    | true =>
      obtain ⟨p, hv, hb, r, no⟩ := ar
      exact ⟨p, hv, hb, r, no, .inr (fr p hv)⟩
  | r i =>
    have hf : (if i < Γ.np then okN (settle Γ.np (.r i) e1) fun d e2 => some (.rt false d.2 e2) else match e1[i]? with
      | some (.ow d) => some (.rt true d (e1.set i .un))
      | _ => none) = some o := hf
    split at hf
    · obtain ⟨d, e2, B2, h1, po2, rp, _⟩ := settle_step po ar fr hf
      cases h1
      exact K v σ B2 H1 po2.ps rp
    · rename_i hn
      cases q : e1[i]? with
      | none => simp only [q] at hf; cases hf
      | some s =>
        simp only [q] at hf
        cases s with
        | ow d =>
          cases hf
          have hs : σ[i]? = some (some v) := ar
          have z := po.pst.sl i _ q
          rw [hs] at z
          obtain ⟨p, hp, hb, r⟩ := z
          have hp : v = .ref p := by simpa using hp
          subst hp
          obtain ⟨ps, no, ow⟩ := unset_ps po q hs hn
          exact K _ σ B1 H1 ps ⟨p, rfl, hb, r, no, .inl ow⟩
        | _ => cases hf
/-! ### writes -/
/-- the object of slot i is written -/
theorem write_ps {i : Nat} {d d' : D} {p : Addr} {o' : HO} (po : Ps Γ σ B H e σ' B1 H1 e1) (hi : e1[i]? = some (.ow d)) (hs : σ'[i]? = some (some (.ref p))) (r' : RepO Γ.S B1 (upd H1 p o') p d') :
    Ps Γ σ B H e σ' B1 (upd H1 p o') (e1.set i (.ow d')) := by
  have me : OwnAt σ' e1 i p := ⟨⟨d, .inl hi⟩, hs⟩
  have hl := (List.getElem?_eq_some_iff.mp hi).1
  have z := po.pst.sl i _ hi
  rw [hs] at z
  obtain ⟨p', hp', hb, r⟩ := z
  cases hp'
  obtain ⟨o0, ho0, _⟩ := r.some
  have ob : ∀ {j : Nat} {q : Addr}, OwnAt σ' (e1.set i (.ow d')) j q → OwnAt σ' e1 j q := by
    intro j q ⟨⟨x, hx⟩, h2⟩
    by_cases ij : i = j
    · subst ij
      exact ⟨⟨d, .inl hi⟩, h2⟩
    · rw [List.getElem?_set_ne ij] at hx
      exact ⟨⟨x, hx⟩, h2⟩
  have inner : Ps Γ σ' B1 H1 e1 σ' B1 (upd H1 p o') (e1.set i (.ow d')) := by
    refine ⟨⟨by rw [List.length_set]; exact po.pst.len, fun a o h => ?_, fun j s hj => ?_, fun j j' q o1 o2 => po.pst.dj j j' q (ob o1) (ob o2)⟩, ⟨Ex.refl B1, fun a o nT h => ?_, fun a o h => .inl h, fun a o h => ?_⟩, fun q ⟨j, o⟩ => .inl ⟨j, ob o⟩, fun j hj ho => ⟨?_, rfl⟩, fun j x hj => ⟨?_, rfl⟩, fun j x q o hj hq ho => ?_, rfl⟩
    · rw [upd_ne (ne_of_none h hb)]
      exact po.pst.ext a o h
    · rcases set_get hj with ⟨rfl, rfl⟩ | ⟨ne, hj⟩
      · rw [hs]; exact ⟨p, rfl, hb, r'⟩
      · have ne_p : ∀ q, (∃ d, s = .ow d ∨ s = .lk d) → σ'[j]?.join = some (.ref q) → q ≠ p := by
          intro q hd hx
          rintro rfl
          obtain ⟨x, hd⟩ := hd
          refine ne (po.pst.dj i j q me ⟨⟨x, ?_⟩, slot_join hx⟩)
          rcases hd with hd | hd
          · rw [hd] at hj; exact .inl hj
          · rw [hd] at hj; exact .inr hj
        refine SlR.mono (Ex.refl B1) (fun a o h => ?_) (fun q o hd hx ho => ?_) (fun _ _ _ h => h) (po.pst.sl j s hj)
        · rw [upd_ne (ne_of_none h hb)]; exact po.pst.ext a o h
        · rw [upd_ne (ne_p q hd hx)]; exact ho
    · have : a ≠ p := by rintro rfl; exact nT ⟨i, me⟩
      rw [upd_ne this]; exact h
    · by_cases q : a = p
      · subst q; exact ⟨_, upd_same⟩
      · exact ⟨o, by rw [upd_ne q]; exact h⟩
    · by_cases ij : i = j
      · subst ij; rw [List.getElem?_set_self hl]; trivial
      · rw [List.getElem?_set_ne ij]; exact ho
    · have : i ≠ j := by rintro rfl; rw [hi] at hj; cases hj
      rw [List.getElem?_set_ne this]; exact hj
    · have : q ≠ p := by
        rintro rfl
        have := po.pst.dj i j q me ⟨⟨x, .inr hj⟩, hq⟩
        subst this
        rw [hi] at hj; cases hj
      rw [upd_ne this]; exact ho
  exact po.trans inner
theorem slot_ow {i : Nat} {d : D} (P : Pst Γ σ B H e) (hi : e[i]? = some (.ow d)) : ∃ p, σ[i]? = some (some (.ref p)) ∧ B p = none ∧ RepO Γ.S B H p d := by
  obtain ⟨p, hp, hb, r⟩ := P.sl i _ hi
  exact ⟨p, slot_join hp, hb, r⟩
theorem repF_put {S : Stc} {B : Hp} {f : Nat} {v : V} {d : D} (hf : f < S.nA) (r : Rep S B v d) : ∀ {gs : List (PySem.Str × V)} {fs : List (Nat × D)}, RepF S B gs fs → RepF S B (L2.putF (S.an f) v gs) (Gal.putF f d fs)
  | _, _, .nil => .cons hf r .nil
  | _, _, .cons (n := n) hn r' t => by
    unfold L2.putF Gal.putF
    by_cases q : n = f
    · subst q
      rw [if_pos rfl, if_pos rfl]
      exact .cons hn r t
    · have : ¬ S.an n = S.an f := fun z => q (S.inj n f hn hf z)
      rw [if_neg q, if_neg this]
      exact .cons hn r' (repF_put hf r t)
theorem RepF.length {S : Stc} {B : Hp} : ∀ {gs : List (PySem.Str × V)} {fs : List (Nat × D)}, RepF S B gs fs → gs.length = fs.length
  | _, _, .nil => rfl
  | _, _, .cons _ _ t => congrArg Nat.succ (RepF.length t)
theorem ss_fset (Fa : Fac Γ F k) {n i f : Nat} {m : E} {x : Expr} {id : PySem.Str} {p p2 pos : Pos} (hN : Γ.N[i]? = some id) (hv : isVis Γ.sc id = true) (hf : f < Γ.S.nA) (hc : noComp x = true) (hm : SO Γ F m x) :
    SS Γ F n (.fset i f m) (.Assign [.Attribute (.Name id p) (Γ.S.an f) p2] x pos) := by
  intro σ B H e o D P hr K
  have hr : okN ((evG Γ F m).o e) (fun a e1 => okN (settle Γ.np a e1) fun d e2 => match e2[i]? with
    | some (.ow (.obj c fs)) => if fs.length < 900 && (Γ.S.P.cl c).free f then some (.nx (e2.set i (.ow (.obj c (putF f d.2 fs))))) else none
    | _ => none) = some o := hr
  refine ⟨sFld Γ.S.K (tVar i) (W Γ x) (Γ.S.an f), fun X hX => ?_, ?_⟩
  · obtain ⟨v1, v2, v3⟩ := vis_ok hX hv
    rw [← hX.K]
    exact ps_fld (pe_var (by rw [hX.N]; exact hN) v1 v2 v3) (W_pe hX) (noComp_sw hc _ _ _)
  · show W Γ x σ H fun y H1 => tVar i σ H1 fun x H2 => ∃ a C dx fs, x = .ref a ∧ H2 a = some (.ins C dx fs) ∧ Cls Γ.S.K C ∧ NoAttr Γ.S.K C (Γ.S.an f) ∧ fs.length < 1000 ∧ D.nx σ (upd H2 a (.ins C dx (L2.putF (Γ.S.an f) y fs)))
    refine ex_step hm P hr K fun a e1 v B1 H1 hf1 po ar fr => ?_
    obtain ⟨d, e2, B2, h1, po2, rp, _⟩ := settle_step po ar fr hf1
    cases q : e2[i]? with
    | none => simp only [q] at h1; cases h1
    | some s =>
      simp only [q] at h1
      cases s with
      | ow d0 =>
        cases d0 with
        | obj c fs =>
          simp only at h1
          split at h1
          · rename_i hcnd
            obtain ⟨l9, hfree⟩ := and2 hcnd
            have l9 : fs.length < 900 := of_decide_eq_true l9
            cases h1
            obtain ⟨pp, hs, hb, r⟩ := slot_ow po2.pst q
            cases r with
            | obj hp rf =>
              obtain ⟨c1, c2⟩ := Fa.fld c f hfree hf
              refine ⟨_, hs, pp, _, _, _, rfl, hp, c1, c2, by rw [rf.length]; omega, K _ _ _ (write_ps po2.ps q hs (.obj upd_same (repF_put hf rp rf)))⟩
          · cases h1
        | _ => cases h1
      | _ => cases h1
/-! ### x[k] = v -/
theorem repK_any {S : Stc} {B : Hp} {key : Key} {a : D} (ha : KeyR key a) : ∀ {kvs : List (Key × V)} {ds : List (D × D)}, RepK S B kvs ds → (kvs.any fun kv => decide (kv.1 = key)) = ds.any fun p => eqD p.1 a
  | _, _, .nil => rfl
  | _, _, .cons hb r t => by
    rw [List.any_cons, List.any_cons, repK_any ha t]
    congr 1
    rw [Bool.eq_iff_iff, decide_eq_true_iff]
    exact keyR_dec ha hb
theorem repK_map {S : Stc} {B : Hp} {key : Key} {a : D} {v : V} {d : D} (ha : KeyR key a) (rv : Rep S B v d) : ∀ {kvs : List (Key × V)} {ds : List (D × D)}, RepK S B kvs ds → RepK S B (kvs.map fun kv => if kv.1 = key then (kv.1, v) else kv) (ds.map fun p => if eqD p.1 a = true then (p.1, d) else p)
  | _, _, .nil => .nil
  | _, _, .cons (k := k') (v := v') (a := b) (d := d') hb r t => by
    rw [List.map_cons, List.map_cons]
    have q := keyR_dec ha hb
    by_cases h : k' = key
    · rw [if_pos h, if_pos (q.mp h)]
      exact .cons hb rv (repK_map ha rv t)
    · rw [if_neg h, if_neg fun z => h (q.mpr z)]
      exact .cons hb r (repK_map ha rv t)
theorem repK_snoc {S : Stc} {B : Hp} {key : Key} {a : D} {v : V} {d : D} (ha : KeyR key a) (rv : Rep S B v d) : ∀ {kvs : List (Key × V)} {ds : List (D × D)}, RepK S B kvs ds → RepK S B (kvs ++ [(key, v)]) (ds ++ [(a, d)])
  | _, _, .nil => .cons ha rv .nil
  | _, _, .cons hb r t => .cons hb r (repK_snoc ha rv t)
theorem repK_put {S : Stc} {B : Hp} {key : Key} {a : D} {v : V} {d : D} (ha : KeyR key a) (rv : Rep S B v d) {kvs : List (Key × V)} {ds : List (D × D)} (h : RepK S B kvs ds) : RepK S B (putK kvs key v) (putD a d ds) := by
  unfold putK putD
  rw [repK_any ha h]
  split
  · exact repK_map ha rv h
  · exact repK_snoc ha rv h
theorem RepK.length {S : Stc} {B : Hp} : ∀ {kvs : List (Key × V)} {ds : List (D × D)}, RepK S B kvs ds → kvs.length = ds.length
  | _, _, .nil => rfl
  | _, _, .cons _ _ t => congrArg Nat.succ (RepK.length t)
def rSet_ : TSet := fun o i v H Q => rSetL o i v H Q ∨ rSetD o i v H Q
theorem set_any {X : Cx} (hu : X.A.units + 1 < cLine) : PSet X rSet_ := by
  intro pins s σ H o i v ov iv u Q I ro ri rv h
  rcases h with h | h
  · exact set_list pins s σ H o i v ov iv u Q I ro ri rv h
  · exact set_dict hu pins s σ H o i v ov iv u Q I ro ri rv h
def notSl : Expr → Bool
  | .Slice _ _ _ _ => false
  | _ => true
theorem notSl_assign {o i : Expr} {pos : Pos} {env : PySem.Env} (h : notSl i = true) : ∀ v, assign (.Subscript o i pos) env v = (do
      let ov ← holding [v] (eval o env)
      let iv ← holding [v, ov] (eval i env)
      standAt pos
      holding [v, ov, iv] (setItem ov iv v)
      release [v, ov, iv] []) := by
  intro v
  cases i <;> first | rfl | cases h
theorem ss_set {n i : Nat} {mk m : E} {kx x : Expr} {id : PySem.Str} {p p2 pos : Pos} (hN : Γ.N[i]? = some id) (hv : isVis Γ.sc id = true) (hc : noComp x = true) (hsl : notSl kx = true) (hk : SO Γ F mk kx) (hm : SO Γ F m x) :
    SS Γ F n (.set i mk m) (.Assign [.Subscript (.Name id p) kx p2] x pos) := by
  intro σ B H e o D P hr K
  have hr : okN ((evG Γ F m).o e) (fun a e1 => okN (settle Γ.np a e1) fun d e2 => match e2[i]? with
    | some (.ow _) => okN ((evG Γ F mk).o e2) fun b e3 => match deref e3 b, e3[i]? with
      | some kd, some (.ow x) => (setD kd d.2 x).map fun y => .nx (e3.set i (.ow y))
      | _, _ => none
    | _ => none) = some o := hr
  refine ⟨tAsg (W Γ x) (gSub (tVar i) (W Γ kx) rSet_), fun X hX => ?_, ?_⟩
  · obtain ⟨v1, v2, v3⟩ := vis_ok hX hv
    have hu := hX.units
    exact ps_asg (W_pe hX) (pg_sub (pe_var (by rw [hX.N]; exact hN) v1 v2 v3) (W_pe hX) (set_any (by omega)) (notSl_assign hsl)) (noComp_sw hc (some (.Subscript (.Name id p) kx p2)) pos.line X.env)
  · show W Γ x σ H fun v H1 => ∃ o, σ[i]? = some (some o) ∧ W Γ kx σ H1 fun y H2 => rSet_ o y v H2 fun H3 => D.nx σ H3
    refine ex_step hm P hr K fun a e1 v B1 H1 hf1 po ar fr => ?_
    obtain ⟨d, e2, B2, h1, po2, rp, _⟩ := settle_step po ar fr hf1
    cases q : e2[i]? with
    | none => simp only [q] at h1; cases h1
    | some s =>
      cases s with
      | ow d0 =>
        simp only [q] at h1
        obtain ⟨pp, hs, _, _⟩ := slot_ow po2.pst q
        refine ⟨_, hs, ?_⟩
        refine ex_step hk po2.pst h1 (K.step po2.ps) fun b e3 y B3 H3 h2 po3 ar3 fr3 => ?_
        have rp3 : Rep Γ.S B3 v d.2 := rp.mono po3.stp.b
        cases q1 : deref e3 b with
        | none => simp only [q1] at h2; cases h2
        | some kd =>
          cases q2 : e3[i]? with
          | none => simp only [q1, q2] at h2; cases h2
          | some s3 =>
            cases s3 with
            | ow x3 =>
              simp only [q1, q2] at h2
              obtain ⟨y', h3, h4⟩ := map_some h2
              subst h4
              obtain ⟨p3, hs3, hb3, r3⟩ := slot_ow po3.pst q2
              rw [hs] at hs3
              cases hs3
              have dy := ar3.dr po3.pst q1
              cases r3 with
              | lst hp rs =>
                unfold setD at h3
                cases kd with
                | int ki =>
                  obtain ⟨j, h5, h6⟩ := map_some h3
                  subst h6
                  refine .inl ⟨pp, _, ki, j, rfl, dy.int, hp, by rw [rs.length]; exact h5, ?_⟩
                  exact K _ _ _ (write_ps (po2.then po3).ps q2 hs (.lst upd_same (rs.set rp3 j)))
                | _ => cases h3
              | dic hp rk =>
                have h3 : (if isKey kd = true ∧ _ < LIM then some (Gal.D.dic (putD kd d.2 _)) else none) = some y' := h3
                split at h3
                · rename_i hk
                  cases h3
                  obtain ⟨key, rfl, kr⟩ := key_v hk.1 dy
                  refine .inr ⟨pp, _, rfl, DPut.k hp (by rw [rk.length, lim_eq]; exact hk.2), ?_⟩
                  exact K _ _ _ (write_ps (po2.then po3).ps q2 hs (.dic upd_same (repK_put kr rp3 rk)))
                · cases h3
              | obj _ _ => cases h3
            | _ => simp only [q1, q2] at h2; cases h2
      | _ => simp only [q] at h1; cases h1
/-! ### append, extend -/
theorem slotty : typeOf (.builtin "list.append") = pure (.type "method_descriptor") := rfl
theorem ss_app {n i : Nat} {m : E} {x : Expr} {id : PySem.Str} {p apos pos pos' : Pos} (hN : Γ.N[i]? = some id) (hv : isVis Γ.sc id = true) (hs1 : [x].all noStar = true) (hline : (apos.endLine == pos.line) = true) (hm : SO Γ F m x) :
    SS Γ F n (.app i m) (.Expr (.Call (.Attribute (.Name id p) "append" apos) [x] [] pos) pos') := by
  intro σ B H e o D P hr K
  have hr : (match e[i]? with
    | some (.ow (.lst _)) => okN ((evG Γ F m).o e) fun a e1 => okN (settle Γ.np a e1) fun d e2 => match e2[i]? with
      | some (.ow (.lst xs)) => if xs.length < LIM then some (.nx (e2.set i (.ow (.lst (xs ++ [d.2]))))) else none
      | _ => none
    | _ => none) = some o := hr
  refine ⟨tDrop (fun σ H Q => tVar i σ H fun x0 H1 => ∃ T id r, tyV Γ.S.K T x0 H1 ∧ PlainAttrs T ∧ Slot T "append" id ∧ typeOf (.builtin id) = pure (.type "method_descriptor") ∧ (∀ X, Cxt Γ X → MtR X id r) ∧ wA Γ [x] σ H1 fun xs H2 => r x0 xs H2 Q), fun X hX => ?_, ?_⟩
  · obtain ⟨v1, v2, v3⟩ := vis_ok hX hv
    exact ps_expr (pe_mF hX (pe_var (by rw [hX.N]; exact hN) v1 v2 v3) rfl hs1 hline)
  · cases q0 : e[i]? with
    | none => simp only [q0] at hr; cases hr
    | some s0 =>
      cases s0 with
      | ow d0 =>
        cases d0 with
        | lst xs0 =>
          simp only [q0] at hr
          obtain ⟨pp, hs, hb, r0⟩ := slot_ow P q0
          cases r0 with
          | lst hp0 rs0 =>
            refine ⟨_, hs, "list", "list.append", rAppend, .inl ⟨rfl, _, sqL_of hp0⟩, PySem.F.plainAttrs_list, PySem.F.slot_list_append, rfl, fun X hX => mt_append, ?_⟩
            show W Γ x σ H fun y H2 => rAppend (.ref pp) [y] H2 fun _ H3 => D.nx σ H3
            refine ex_step hm P hr K fun a e1 v B1 H1 hf1 po ar fr => ?_
            obtain ⟨d, e2, B2, h1, po2, rp, _⟩ := settle_step po ar fr hf1
            cases q : e2[i]? with
            | none => simp only [q] at h1; cases h1
            | some s =>
              cases s with
              | ow d1 =>
                cases d1 with
                | lst xs =>
                  simp only [q] at h1
                  split at h1
                  · rename_i hl
                    cases h1
                    obtain ⟨p2, hs2, hb2, r2⟩ := slot_ow po2.pst q
                    rw [hs] at hs2
                    cases hs2
                    cases r2 with
                    | lst hp rs =>
                      refine ⟨pp, _, v, rfl, rfl, hp, by rw [rs.length, lim_eq]; exact hl, ?_⟩
                      exact K _ _ _ (write_ps po2.ps q hs (.lst upd_same (rs.append (.cons rp .nil))))
                  · cases h1
                | _ => simp only [q] at h1; cases h1
              | _ => simp only [q] at h1; cases h1
        | _ => simp only [q0] at hr; cases hr
      | _ => simp only [q0] at hr; cases hr
end
end Gal
set_option Elab.async false
set_option linter.all false
set_option maxRecDepth 100000
/-! G23: extend, augmented stores, unpacking, while. -/
namespace Gal
open PySem L2 PyProof.Rows PySem.Spec
section
variable {Γ : Ct} {F : Callee} {k : Nat} {σ σ1 σ2 σ' : L2.St} {B H B1 H1 B2 H2 B' H' : Hp} {e e1 e2 e' : Env}
theorem ss_ext {n i : Nat} {m : E} {x : Expr} {id : PySem.Str} {p apos pos pos' : Pos} (hN : Γ.N[i]? = some id) (hv : isVis Γ.sc id = true) (hs1 : [x].all noStar = true) (hline : (apos.endLine == pos.line) = true) (hm : SO Γ F m x) :
    SS Γ F n (.ext i m) (.Expr (.Call (.Attribute (.Name id p) "extend" apos) [x] [] pos) pos') := by
  intro σ B H e o D P hr K
  have hr : (match e[i]? with
    | some (.ow (.lst _)) => okN ((evG Γ F m).o e) fun a e1 => match deref e1 a, e1[i]? with
      | some (.lst ys), some (.ow (.lst xs)) => match a with
        | .r j => if j = i then none else if xs.length + ys.length ≤ LIM then some (.nx (e1.set i (.ow (.lst (xs ++ ys))))) else none
        | _ => if xs.length + ys.length ≤ LIM then some (.nx (e1.set i (.ow (.lst (xs ++ ys))))) else none
      | _, _ => none
    | _ => none) = some o := hr
  refine ⟨tDrop (fun σ H Q => tVar i σ H fun x0 H1 => ∃ T id r, tyV Γ.S.K T x0 H1 ∧ PlainAttrs T ∧ Slot T "extend" id ∧ typeOf (.builtin id) = pure (.type "method_descriptor") ∧ (∀ X, Cxt Γ X → MtR X id r) ∧ wA Γ [x] σ H1 fun xs H2 => r x0 xs H2 Q), fun X hX => ?_, ?_⟩
  · obtain ⟨v1, v2, v3⟩ := vis_ok hX hv
    exact ps_expr (pe_mF hX (pe_var (by rw [hX.N]; exact hN) v1 v2 v3) rfl hs1 hline)
  · cases q0 : e[i]? with
    | none => simp only [q0] at hr; cases hr
    | some s0 =>
      cases s0 with
      | ow d0 =>
        cases d0 with
        | lst xs0 =>
          simp only [q0] at hr
          obtain ⟨pp, hs, hb, r0⟩ := slot_ow P q0
          cases r0 with
          | lst hp0 rs0 =>
            refine ⟨_, hs, "list", "list.extend", rExtend, .inl ⟨rfl, _, sqL_of hp0⟩, PySem.F.plainAttrs_list, PySem.F.slot_list_extend, rfl, fun X hX => mt_extend, ?_⟩
            show W Γ x σ H fun y H2 => rExtend (.ref pp) [y] H2 fun _ H3 => D.nx σ H3
            refine ex_step hm P hr K fun a e1 v B1 H1 hf1 po ar fr => ?_
            cases q1 : deref e1 a with
            | none => simp only [q1] at hf1; cases hf1
            | some dy =>
              cases dy with
              | lst ys =>
                cases q : e1[i]? with
                | none => simp only [q1, q] at hf1; cases hf1
                | some s =>
                  cases s with
                  | ow d1 =>
                    cases d1 with
                    | lst xs =>
                      simp only [q1, q] at hf1
                      have h1 : xs.length + ys.length ≤ LIM ∧ o = .nx (e1.set i (.ow (.lst (xs ++ ys)))) := by
                        cases a with
                        | r j =>
                          simp only at hf1
                          split at hf1
                          · cases hf1
                          · split at hf1
                            · rename_i hl; cases hf1; exact ⟨hl, rfl⟩
                            · cases hf1
                        | v w d =>
                          simp only at hf1
                          split at hf1
                          · rename_i hl; cases hf1; exact ⟨hl, rfl⟩
                          · cases hf1
                      obtain ⟨hl, rfl⟩ := h1
                      obtain ⟨p2, hs2, hb2, r2⟩ := slot_ow po.pst q
                      rw [hs] at hs2
                      cases hs2
                      obtain ⟨b, zs, rfl, hz, rz⟩ := (ar.dr po.pst q1).lst po.pst.ext
                      cases r2 with
                      | lst hp rs =>
                        refine ⟨pp, b, _, zs, rfl, rfl, hp, hz, by rw [rs.length, rz.length, lim_eq]; exact hl, ?_⟩
                        exact K _ _ _ (write_ps po.ps q hs (.lst upd_same (rs.append rz)))
                    | _ => simp only [q1, q] at hf1; cases hf1
                  | _ => simp only [q1, q] at hf1; cases hf1
              | _ => simp only [q1] at hf1; cases hf1
        | _ => simp only [q0] at hr; cases hr
      | _ => simp only [q0] at hr; cases hr
def ipOf : Operator → Option Op
  | .Add => some .add
  | .Sub => some .sub
  | _ => none
theorem ss_aug {n i : Nat} {o' : Op} {op : Operator} {m : E} {x : Expr} {id : PySem.Str} {p pos : Pos} (top : Γ.top = true) (hop : ipOf op = some o') (hN : Γ.N[i]? = some id) (hl : isLoc Γ.sc id = true) (hm : SO Γ F m x) : SS Γ F n (.aug i o' m) (.AugAssign (.Name id p) op x pos) := by
  intro σ B H e o D P hr K
  have hr : (match e[i]? with
    | some (.va x) => okN ((evG Γ F m).o e) fun a e1 => match deref e1 a with
      | some y => (augD o' x y).bind fun z => (putA Γ.np i false z e1).map .nx
      | none => none
    | _ => none) = some o := hr
  have go : ∀ (f : Int → Int → Int), (∀ X, PIp X op (ipI f)) → (∀ x y z, augD o' x y = some z → ∃ a b, x = .int a ∧ y = .int b ∧ z = .int (f a b)) → WS Γ (.AugAssign (.Name id p) op x pos) D σ H := by
    intro f hp hd
    refine ⟨tAug i (W Γ x) (ipI f), fun X hX => ps_aug (by rw [hX.N]; exact hX.nd) (by rw [hX.N]; exact hN) (isLoc_ok hX hl) (W_pe hX) (hp X) (.inl (by rw [(hX.top top).2.2])), ?_⟩
    cases q : e[i]? with
    | none => simp only [q] at hr; cases hr
    | some s =>
      cases s with
      | va d0 =>
        simp only [q] at hr
        obtain ⟨v0, hv0, r0⟩ := P.sl i _ q
        refine ⟨v0, slot_join hv0, ?_⟩
        refine ex_step hm P hr K fun a e1 v B1 H1 hf po ar fr => ?_
        cases q1 : deref e1 a with
        | none => simp only [q1] at hf; cases hf
        | some y =>
          simp only [q1] at hf
          cases q2 : augD o' d0 y with
          | none => rw [q2] at hf; cases hf
          | some z =>
            rw [q2] at hf
            obtain ⟨a', b', rfl, rfl, rfl⟩ := hd _ _ _ q2
            obtain ⟨e', h1, rfl⟩ := map_nx hf
            cases r0
            exact ⟨a', b', rfl, (ar.dr po.pst q1).int, K _ _ _ (store_ps (w := false) po (show Rep Γ.S B1 _ _ from .int _) (fun _ t => t.elim) h1)⟩
      | _ => simp only [q] at hr; cases hr
  cases op <;> cases hop
  · exact go (fun i j => i + j) (fun X => ip_add) fun x y z h => by
      cases x <;> first | (cases y <;> first | (cases h; exact ⟨_, _, rfl, rfl, rfl⟩) | cases h) | cases h
  · exact go (fun i j => i - j) (fun X => ip_sub) fun x y z h => by
      cases x <;> first | (cases y <;> first | (cases h; exact ⟨_, _, rfl, rfl, rfl⟩) | cases h) | cases h
/-! ### unpacking -/
def ckNames (Γ : List PySem.Str) (sc : Scope) : List Nat → List Expr → Bool
  | [], [] => true
  | i :: is, .Name id _ :: es => decide (Γ[i]? = some id) && isLoc sc id && ckNames Γ sc is es
  | _, _ => false
def gNames : List Nat → TGs
  | [] => gNil
  | i :: r => gCons (gName i) (gNames r)
theorem names_pg {X : Cx} (hX : Cxt Γ X) (hf : X.fn = fun _ => true) : ∀ {is : List Nat} {es : List Expr}, ckNames Γ.N Γ.sc is es = true → PGs X es (gNames is) ∧ (assignEach es X.env).length = is.length ∧ (assignEach es X.env).findIdx? (·.1) = none
  | [], [], _ => ⟨pgs_nil, rfl, rfl⟩
  | i :: is, .Name id p :: es, h => by
    have h : (decide (Γ.N[i]? = some id) && isLoc Γ.sc id && ckNames Γ.N Γ.sc is es) = true := h
    obtain ⟨h, h3⟩ := and2 h
    obtain ⟨h1, h2⟩ := and2 h
    obtain ⟨i1, i2, i3⟩ := names_pg hX hf h3
    refine ⟨pgs_cons (pg_name (by rw [hX.N]; exact hX.nd) (by rw [hX.N]; exact of_decide_eq_true h1) (isLoc_ok hX h2) (.inl (by rw [hf]))) i1 rfl, ?_, ?_⟩
    · show (assignEach es X.env).length + 1 = _
      rw [i2]; rfl
    · show ((false, assign (.Name id p) X.env) :: assignEach es X.env).findIdx? (·.1) = none
      rw [List.findIdx?_cons, i3]
      rfl
/-- the names' slots get the values -/
theorem names_ok : ∀ {is : List Nat} {vs : List V} {ds : List D} {σ0 : L2.St} {B0 H0 : Hp} {e0 : Env} {σ : L2.St} {B H : Hp} {e e' : Env} {Q : L2.St → Hp → Prop}, Ps Γ σ0 B0 H0 e0 σ B H e → Reps Γ.S B vs ds → putTs Γ.np is ds e = some e' →
    (∀ σ', Ps Γ σ0 B0 H0 e0 σ' B H e' → (∀ p, Own σ' e' p → Own σ e p) → (∀ j, j ∉ is → σ'[j]? = σ[j]?) → Q σ' H) → gNames is vs σ H Q
  | [], _, _, _, _, _, _, σ, B, H, e, e', Q, ps, .nil, h, K => by
    cases h
    exact ⟨rfl, K σ ps (fun _ h => h) fun _ _ => rfl⟩
  | [], _, _, _, _, _, _, σ, B, H, e, e', Q, ps, .cons _ _, h, K => by cases h
  | i :: is, _, _, _, _, _, _, σ, B, H, e, e', Q, ps, .nil, h, K => by cases h
  | i :: is, _, _, σ0, B0, H0, e0, σ, B, H, e, e', Q, ps, .cons (v := v) (d := d) (ds := ds) r rs, h, K => by
    have key : ∃ e1, putA Γ.np i false d e = some e1 ∧ putTs Γ.np is ds e1 = some e' := by
      unfold putTs at h
      unfold putA
      cases q : e[i]? with
      | none => simp only [q] at h; cases h
      | some s =>
        simp only [q] at h
        cases s with
        | un => exact ⟨_, rfl, h⟩
        | va _ => exact ⟨_, rfl, h⟩
        | ow _ =>
          simp only at h ⊢
          split at h
          · cases h
          · rename_i hn
            rw [if_neg hn]
            exact ⟨_, rfl, h⟩
        | _ => cases h
    obtain ⟨e1, h1, h2⟩ := key
    obtain ⟨a, b, c, d'⟩ := store_ok' ps.pst (show ArR Γ σ B H e (.v false d) v from r) h1
    have ps1 : Ps Γ σ0 B0 H0 e0 (σ.set i (some v)) B H e1 := by
      refine ps.trans ⟨a, Stp.refl _ B H, fun p q => ?_, c, d', fun _ _ _ _ _ _ h => h, List.length_set⟩
      rcases b p q with z | z
      · exact .inl z
      · exact z.elim
    refine ⟨v, _, rfl, ?_⟩
    show gNames is _ (σ.set i (some v)) H Q
    exact names_ok ps1 rs h2 fun σ' p l o => K σ' p (fun q z => (b q (l q z)).elim (fun z => z) fun z => z.elim) fun j hj => by
      rw [o j fun z => hj (List.mem_cons_of_mem _ z)]
      exact List.getElem?_set_ne fun z => hj (by rw [← z]; exact List.mem_cons_self ..)
theorem ss_asgT {n : Nat} {is : List Nat} {m : E} {x : Expr} {es : List Expr} {kk : Nat} {tp pos : Pos} (top : Γ.top = true) (hh : Γ.hot = false) (hn : ckNames Γ.N Γ.sc is es = true) (hc : noComp x = true) (hw : ∀ env, swappedStores [.Tuple es kk tp] x env = pure none) (hm : SO Γ F m x) :
    SS Γ F n (.asg (.tp is) m) (.Assign [.Tuple es kk tp] x pos) := by
  intro σ B H e o D P hr K
  have hr : okN ((evG Γ F m).o e) (fun a e1 => match deref e1 a with
      | some (.tup ds) => if Γ.hot then none else (putTs Γ.np is ds e1).map .nx
      | _ => none) = some o := hr
  refine ⟨tAsg (W Γ x) (gTup Γ.S.K is.length (gNames is)), fun X hX => ?_, ?_⟩
  · obtain ⟨n1, n2, n3⟩ := names_pg hX (hX.top top).2.2 hn
    rw [← hX.K]
    exact ps_asg (W_pe hX) (pg_tup (hX.calm hh).1 n1 n2 n3) (noComp_sw hc (some (.Tuple es kk tp)) pos.line X.env) (hw X.env)
  · show W Γ x σ H fun v H1 => ∃ a xs, v = .ref a ∧ SqT Γ.S.K H1 a xs ∧ xs.length = is.length ∧ gNames is xs σ H1 D.nx
    refine ex_step hm P hr K fun a e1 v B1 H1 hf po ar fr => ?_
    cases q1 : deref e1 a with
    | none => simp only [q1] at hf; cases hf
    | some dy =>
      cases dy with
      | tup ds =>
        simp only [q1] at hf
        rw [hh] at hf
        obtain ⟨e', h1, rfl⟩ := map_nx hf
        obtain ⟨p, vs, rfl, _, hp, rs⟩ := (ar.dr po.pst q1).tup po.pst.ext
        have hl : vs.length = is.length := by
          rw [rs.length]
          clear hr K ar q1 hf hp rs hn hw
          have : ∀ {is : List Nat} {ds : List Gal.D} {e1 e' : Env}, putTs Γ.np is ds e1 = some e' → ds.length = is.length := by
            intro is
            induction is with
            | nil => intro ds e1 e' h; cases ds with
              | nil => rfl
              | cons _ _ => cases h
            | cons i is ih =>
              intro ds e1 e' h
              cases ds with
              | nil => cases h
              | cons d ds =>
                unfold putTs at h
                cases q : e1[i]? with
                | none => simp only [q] at h; cases h
                | some s =>
                  simp only [q] at h
                  cases s with
                  | un => exact congrArg Nat.succ (ih h)
                  | va _ => exact congrArg Nat.succ (ih h)
                  | ow _ =>
                    simp only at h
                    split at h
                    · cases h
                    · exact congrArg Nat.succ (ih h)
                  | _ => cases h
          exact this h1
        exact ⟨p, vs, rfl, sqT_of hp, hl, names_ok po.ps rs h1 fun σ' ps _ _ => K σ' B1 H1 ps⟩
      | _ => simp only [q1] at hf; cases hf
/-! ### while -/
theorem wh_inv {n m : Nat} {mc : E} {b : S} {e : Env} {o : Out} (h : whL (evG Γ F mc).t (evT Γ F n b) m e = some o) : ∃ m', m = m' + 1 ∧
    ((∃ e1, (evG Γ F mc).t e = some (.ok false e1) ∧ o = .nx e1) ∨
     (∃ e1 o1, (evG Γ F mc).t e = some (.ok true e1) ∧ evT Γ F n b e1 = some o1 ∧
       ((∃ e2, (o1 = .nx e2 ∨ o1 = .ct e2) ∧ whL (evG Γ F mc).t (evT Γ F n b) m' e2 = some o) ∨ (∃ e2, o1 = .bk e2 ∧ o = .nx e2) ∨ (∃ w d e2, o1 = .rt w d e2 ∧ o = o1) ∨ ∃ c fs e2, o1 = .ex c fs e2 ∧ o = o1)) ∨
     ∃ c fs e1, (evG Γ F mc).t e = some (.ex c fs e1) ∧ o = .ex c fs e1) := by
  cases m with
  | zero => cases h
  | succ m =>
    refine ⟨m, rfl, ?_⟩
    unfold whL at h
    cases q : (evG Γ F mc).t e with
    | none => simp only [q] at h; cases h
    | some r =>
      cases r with
      | ex c fs e1 => simp only [q] at h; cases h; exact .inr (.inr ⟨c, fs, e1, rfl, rfl⟩)
      | ok x e1 =>
        cases x with
        | false => simp only [q] at h; cases h; exact .inl ⟨e1, rfl, rfl⟩
        | true =>
          simp only [q] at h
          cases q2 : evT Γ F n b e1 with
          | none => simp only [q2] at h; cases h
          | some o1 =>
            refine .inr (.inl ⟨e1, o1, rfl, q2, ?_⟩)
            simp only [q2] at h
            cases o1 with
            | nx e2 => exact .inl ⟨e2, .inl rfl, h⟩
            | ct e2 => exact .inl ⟨e2, .inr rfl, h⟩
            | bk e2 => cases h; exact .inr (.inl ⟨e2, rfl, rfl⟩)
            | rt w d e2 => cases h; exact .inr (.inr (.inl ⟨w, d, e2, rfl, rfl⟩))
            | ex c fs e2 => cases h; exact .inr (.inr (.inr ⟨c, fs, e2, rfl, rfl⟩))
theorem ss_while {n : Nat} {mc : E} {b : S} {c : Expr} {xs : List Stmt} {pos : Pos} (top : Γ.top = true) (hh : Γ.hot = false) (hc : ST Γ F mc c) (hb : SB Γ F n b xs) : SS Γ F n (.while_ mc b) (.While c xs [] pos) := by
  intro σ0 B0 H0 e0 o D P hr K
  have hr : (if Γ.hot then none else whL (evG Γ F mc).t (evT Γ F n b) n e0) = some o := hr
  rw [hh] at hr
  have hr : whL (evG Γ F mc).t (evT Γ F n b) n e0 = some o := hr
  refine ⟨_, fun X hX => ps_while (hX.own top) (WT_pt hX) (WSs_ps hX), ?_⟩
  refine ⟨fun m σ H => ∃ B e, Ps Γ σ0 B0 H0 e0 σ B H e ∧ whL (evG Γ F mc).t (evT Γ F n b) m e = some o, ⟨n, B0, e0, Ps.refl P, hr⟩, ?_⟩
  rintro m σ H ⟨B, e, ps, hw⟩
  obtain ⟨m', rfl, hw2⟩ := wh_inv hw
  have K' := K.step ps
  rcases hw2 with ⟨e1, h1, rfl⟩ | ⟨e1, o1, h1, h2, h3⟩ | ⟨c', fs, e1, h1, rfl⟩
  · refine hc σ B H e _ _ ps.pst h1 (fun b' e' he B1 H1 po => ?_) okX
    cases he
    exact K' σ B1 H1 po.ps
  · refine hc σ B H e _ _ ps.pst h1 (fun b' e' he B1 H1 po => ?_) okX
    cases he
    refine ⟨fun σ' H' => ∃ B e, Ps Γ σ0 B0 H0 e0 σ' B H' e ∧ whL (evG Γ F mc).t (evT Γ F n b) m' e = some o, fun σ' H' q => ⟨m', Nat.lt_succ_self _, q⟩, ?_⟩
    have ps1 := ps.trans po.ps
    refine hb σ B1 H1 e1 o1 _ po.pst h2 ?_
    rcases h3 with ⟨e2, h3, h4⟩ | ⟨e2, rfl, rfl⟩ | ⟨w, d, e2, rfl, rfl⟩ | ⟨c', fs, e2, rfl, rfl⟩
    · rcases h3 with rfl | rfl
      · exact fun σ' B' H' p => ⟨B', e2, ps1.trans p, h4⟩
      · exact fun σ' B' H' p => ⟨B', e2, ps1.trans p, h4⟩
    · exact fun σ' B' H' p => K' σ' B' H' (po.ps.trans p)
    · exact K'.step po.ps
    · exact K'.step po.ps
  · refine hc σ B H e _ _ ps.pst h1 (fun b' e' he => by cases he) fun c' fs' e' he cls dd B1 H1 po x => ?_
    cases he
    exact K' cls dd σ B1 H1 po.ps x
end
end Gal
set_option Elab.async false
set_option linter.all false
set_option maxRecDepth 100000
/-! G24: what loops walk. -/
namespace Gal
open PySem L2 PyProof.Rows PySem.Spec
section
variable {Γ : Ct} {F : Callee} {k : Nat} {σ σ1 σ2 σ' : L2.St} {B H B1 H1 B2 H2 B' H' : Hp} {e e1 e2 e' : Env}
theorem hold_get : ∀ (as : List Ar) (e : Env) (i : Nat), (hold as e)[i]? = (if i ∈ refs as then match e[i]? with | some (.ow d) => some (.lk d) | s => s else e[i]?)
  | [], e, i => by simp [hold, refs]
  | .v _ _ :: r, e, i => hold_get r e i
  | .r j :: r, e, i => by
    unfold hold
    have mem : (i ∈ refs (.r j :: r)) ↔ i = j ∨ i ∈ refs r := List.mem_cons
    cases q : e[j]? with
    | none =>
      simp only [q]
      rw [hold_get r e i]
      by_cases h : i = j
      · subst h; simp [mem, q]
      · simp [mem, h]
    | some s =>
      cases s with
      | ow d =>
        simp only [q]
        rw [hold_get r _ i]
        by_cases h : i = j
        · subst h
          rw [List.getElem?_set_self (List.getElem?_eq_some_iff.mp q).1]
          simp [mem, q]
        · rw [List.getElem?_set_ne (Ne.symm h)]
          simp [mem, h]
      | _ =>
        simp only [q]
        rw [hold_get r e i]
        by_cases h : i = j
        · subst h; simp [mem, q]
        · simp [mem, h]
theorem hold_len : ∀ (as : List Ar) (e : Env), (hold as e).length = e.length
  | [], e => by unfold hold; rfl
  | .v _ _ :: r, e => hold_len r e
  | .r j :: r, e => by
    unfold hold
    split
    · rw [hold_len r, List.length_set]
    · exact hold_len r e
theorem hold_own {as : List Ar} {j : Nat} {p : Addr} : OwnAt σ (hold as e) j p ↔ OwnAt σ e j p := by
  unfold OwnAt
  rw [hold_get]
  constructor
  · rintro ⟨⟨d, hd⟩, h2⟩
    refine ⟨?_, h2⟩
    split at hd
    · cases q : e[j]? with
      | none => simp [q] at hd
      | some s =>
        cases s with
        | ow d' => exact ⟨d', .inl rfl⟩
        | lk d' => exact ⟨d', .inr rfl⟩
        | _ => simp [q] at hd
    · exact ⟨d, hd⟩
  · rintro ⟨⟨d, hd⟩, h2⟩
    refine ⟨?_, h2⟩
    split
    · rcases hd with hd | hd
      · rw [hd]; exact ⟨d, .inr rfl⟩
      · rw [hd]; exact ⟨d, .inr rfl⟩
    · exact ⟨d, hd⟩
/-- the walked objects are held -/
theorem hold_ps (as : List Ar) (P : Pst Γ σ B H e) : Ps Γ σ B H e σ B H (hold as e) := by
  refine ⟨⟨(hold_len as e).trans P.len, P.ext, fun i s hs => ?_, fun i j p o1 o2 => P.dj i j p (hold_own.mp o1) (hold_own.mp o2)⟩, Stp.refl _ B H, fun p ⟨i, o⟩ => .inl ⟨i, hold_own.mp o⟩, fun i hi ho => ⟨?_, rfl⟩, fun i d hd => ⟨?_, rfl⟩, fun _ _ _ _ _ _ h => h, rfl⟩
  · rw [hold_get] at hs
    split at hs
    · cases q : e[i]? with
      | none => simp [q] at hs
      | some t =>
        have z := P.sl i t q
        cases t <;> (simp only [q] at hs; cases hs; exact z)
    · exact P.sl i s hs
  · rw [hold_get]
    split
    · cases q : e[i]? with
      | none => rw [q] at ho; exact ho.elim
      | some t => rw [q] at ho; cases t <;> first | trivial | exact ho.elim
    · exact ho
  · rw [hold_get]
    split
    · rw [hd]
    · exact hd
theorem unhold_get (e0 : Env) : ∀ (as : List Ar) (e : Env) (i : Nat), i < e.length → (unhold e0 as e)[i]? = (if i ∈ refs as then match e0[i]? with | some (.ow d) => some (.ow d) | _ => e[i]? else e[i]?)
  | [], e, i, _ => by simp [unhold, refs]
  | .v _ _ :: r, e, i, h => unhold_get e0 r e i h
  | .r j :: r, e, i, hi => by
    unfold unhold
    have mem : (i ∈ refs (.r j :: r)) ↔ i = j ∨ i ∈ refs r := List.mem_cons
    cases q : e0[j]? with
    | none =>
      simp only [q]
      rw [unhold_get e0 r e i hi]
      by_cases h : i = j
      · subst h; simp [mem, q]
      · simp [mem, h]
    | some s =>
      cases s with
      | ow d =>
        simp only [q]
        rw [unhold_get e0 r _ i (by rw [List.length_set]; exact hi)]
        by_cases h : i = j
        · subst h
          rw [List.getElem?_set_self hi]
          simp [mem, q]
        · rw [List.getElem?_set_ne (Ne.symm h)]
          simp [mem, h]
      | _ =>
        simp only [q]
        rw [unhold_get e0 r e i hi]
        by_cases h : i = j
        · subst h; simp [mem, q]
        · simp [mem, h]
theorem unhold_len (e0 : Env) : ∀ (as : List Ar) (e : Env), (unhold e0 as e).length = e.length
  | [], e => by unfold unhold; rfl
  | .v _ _ :: r, e => unhold_len e0 r e
  | .r j :: r, e => by
    unfold unhold
    split
    · rw [unhold_len e0 r, List.length_set]
    · exact unhold_len e0 r e
theorem unhold_none (e0 : Env) (as : List Ar) {e : Env} {i : Nat} (h : ¬ i < e.length) : (unhold e0 as e)[i]? = none := List.getElem?_eq_none (by rw [unhold_len]; omega)
theorem unhold_key {as : List Ar} (ps : Ps Γ σ B H (hold as e) σ' B' H' e') {i : Nat} {d : D} (hi : i ∈ refs as) (hd : e[i]? = some (.ow d)) : e'[i]? = some (.lk d) ∧ σ'[i]? = σ[i]? := by
  refine ps.lk i d ?_
  rw [hold_get, if_pos hi, hd]
theorem unhold_cases (e : Env) (as : List Ar) (e' : Env) (i : Nat) : (unhold e as e')[i]? = (if i ∈ refs as then match e[i]? with | some (.ow d) => some (.ow d) | _ => e'[i]? else e'[i]?) ∨ ((unhold e as e')[i]? = none ∧ e'[i]? = none) := by
  by_cases h : i < e'.length
  · exact .inl (unhold_get e as e' i h)
  · exact .inr ⟨unhold_none e as h, List.getElem?_eq_none (by omega)⟩
theorem unhold_own {as : List Ar} (ps : Ps Γ σ B H (hold as e) σ' B' H' e') {j : Nat} {p : Addr} : OwnAt σ' (unhold e as e') j p → OwnAt σ' e' j p := by
  intro ⟨⟨d, hd⟩, h2⟩
  rcases unhold_cases e as e' j with g | ⟨g, _⟩
  · rw [g] at hd
    split at hd
    · rename_i hm
      cases q : e[j]? with
      | none => simp only [q] at hd; exact ⟨⟨d, hd⟩, h2⟩
      | some s =>
        cases s with
        | ow d' => exact ⟨⟨d', .inr (unhold_key ps hm q).1⟩, h2⟩
        | _ => simp only [q] at hd; exact ⟨⟨d, hd⟩, h2⟩
    · exact ⟨⟨d, hd⟩, h2⟩
  · rw [g] at hd
    rcases hd with hd | hd <;> cases hd
/-- .. and free again -/
theorem unhold_ps {as : List Ar} (ps : Ps Γ σ B H (hold as e) σ' B' H' e') (P : Pst Γ σ B H e) : Ps Γ σ B H e σ' B' H' (unhold e as e') := by
  have h0 := hold_ps as P
  have get := unhold_cases e as e'
  have all := h0.trans ps
  refine ⟨⟨(unhold_len e as e').trans ps.pst.len, ps.pst.ext, fun i s hs => ?_, fun i j p o1 o2 => ps.pst.dj i j p (unhold_own ps o1) (unhold_own ps o2)⟩, all.stp, fun p ⟨j, o⟩ => all.own p ⟨j, unhold_own ps o⟩, fun i hi ho => ?_, fun i d hd => ?_, all.lh, ps.ln⟩
  · rcases get i with g | ⟨g, _⟩
    · rw [g] at hs
      split at hs
      · rename_i hm
        cases q : e[i]? with
        | none => simp only [q] at hs; exact ps.pst.sl i s hs
        | some t =>
          cases t with
          | ow d' =>
            simp only [q] at hs
            cases hs
            have z := ps.pst.sl i _ (unhold_key ps hm q).1
            exact z
          | _ => simp only [q] at hs; exact ps.pst.sl i s hs
      · exact ps.pst.sl i s hs
    · rw [g] at hs; cases hs
  · obtain ⟨a, b⟩ := all.kp i hi ho
    refine ⟨?_, b⟩
    rcases get i with g | ⟨g, h⟩
    · rw [g]
      split
      · cases q : e[i]? with
        | none => exact a
        | some t => cases t <;> first | trivial | exact a
      · exact a
    · rw [h] at a; exact a.elim
  · obtain ⟨a, b⟩ := all.lk i d hd
    refine ⟨?_, b⟩
    rcases get i with g | ⟨g, h⟩
    · rw [g]
      split
      · rw [hd]; exact a
      · exact a
    · rw [h] at a; cases a
/-! ### walks over data -/
/-- J gives the data xs, one by one, while G stands -/
def Goes (Γ : Ct) (B : Hp) (G : Hp → Prop) (J : It) (xs : List D) : Prop :=
  ∃ Y, Walk J xs.length G Y ∧ ∀ i H x H' B', i < xs.length → Ex B B' → Ex B' H → Y i H x H' → ∃ d B'', xs[i]? = some d ∧ NewR Γ.S B' H false d x B'' H'
/-- what a source gives -/
def SrcOk (Γ : Ct) (σ : L2.St) (B H : Hp) (e : Env) (xs : List D) (J : It) : Prop := ∃ G, Goes Γ B G J xs ∧ ∀ σ' B' H' e', Ps Γ σ B H e σ' B' H' e' → G H'
def WI (Γ : Ct) (tg iter : Expr) : TI := fun σ H R => ∃ wi, (∀ X, Cxt Γ X → PI X tg iter wi) ∧ wi σ H R
theorem WI_pi {X : Cx} {tg iter : Expr} (h : Cxt Γ X) : PI X tg iter (WI Γ tg iter) := ⟨fun pins s σ H R I ⟨_, f, q⟩ => (f X h).run pins s σ H R I q⟩
/-- a source of a loop -/
def SI (Γ : Ct) (F : Callee) (w : Io) (m : E) (tg iter : Expr) : Prop := ∀ σ B H e r R, Pst Γ σ B H e → (evG Γ F m).l e = some r →
  (∀ as e1, r = .ok as e1 → ∃ ds xs, derefs e1 as = some ds ∧ walkD w ds = some xs ∧ ∀ J B1 H1, Po Γ σ noT B H e B1 H1 e1 → SrcOk Γ σ B1 H1 (hold as e1) xs J → R J H1) → KX Γ σ B H e r → WI Γ tg iter σ H R
/-- a list that stays -/
theorem stays {a : Ar} {v : V} {ds : List D} (as : List Ar) (P : Pst Γ σ B H e) (ar : ArR Γ σ B H e a v) (hd : deref e a = some (.lst ds)) (hm : ∀ i, a = .r i → i ∈ refs as) :
    ∃ p vs, v = .ref p ∧ H p = some (.lst vs) ∧ Reps Γ.S B vs ds ∧ ∀ σ' B' H' e', Ps Γ σ B H (hold as e) σ' B' H' e' → H' p = some (.lst vs) := by
  cases a with
  | v w d =>
    cases hd
    cases w with
    | false =>
      cases ar with
      | lst hp rs => exact ⟨_, _, rfl, P.ext _ _ hp, rs, fun σ' B' H' e' ps => ps.pst.ext _ _ (ps.stp.b _ _ hp)⟩
    | true =>
      obtain ⟨p, rfl, hb, r, no⟩ := ar
      cases r with
      | lst hp rs => exact ⟨_, _, rfl, hp, rs, fun σ' B' H' e' ps => ps.stp.k _ _ (fun ⟨j, o⟩ => no ⟨j, hold_own.mp o⟩) hp⟩
  | r i =>
    have ar : σ[i]? = some (some v) := ar
    have hd : (e[i]?).bind derefS = some (.lst ds) := hd
    cases q : e[i]? with
    | none => rw [q] at hd; cases hd
    | some s =>
      rw [q] at hd
      have z := P.sl i s q
      rw [ar] at z
      cases s with
      | ow x =>
        cases hd
        obtain ⟨p, hp, hb, r⟩ := z
        cases hp
        cases r with
        | lst hp rs => exact ⟨_, _, rfl, hp, rs, fun σ' B' H' e' ps => ps.lh i _ _ _ (by rw [hold_get, if_pos (hm i rfl), q]) ar hp⟩
      | lk x =>
        cases hd
        obtain ⟨p, hp, hb, r⟩ := z
        cases hp
        cases r with
        | lst hp rs => exact ⟨_, _, rfl, hp, rs, fun σ' B' H' e' ps => ps.lh i _ _ _ (by rw [hold_get, if_pos (hm i rfl), q]) ar hp⟩
      | _ => cases hd
theorem newR_same {B H : Hp} {d : D} {v : V} (e : Ex B H) (r : Rep Γ.S B v d) : NewR Γ.S B H false d v B H := new_same e r
theorem goes_list {a : Addr} {vs : List V} {ds : List D} (rs : Reps Γ.S B vs ds) : Goes Γ B (fun H => SqL Γ.S.K H a vs) (Itl Γ.S.K a) ds := by
  refine ⟨YAt vs, by rw [← rs.length]; exact walk_list, fun i H x H' B' hi eb eh hy => ?_⟩
  obtain ⟨rfl, hx⟩ := hy
  obtain ⟨d, h1, h2⟩ := rs.getV hx
  exact ⟨d, B', h1, newR_same eh (h2.mono eb)⟩
theorem goes_tup {a : Addr} {vs : List V} {ds : List D} (rs : Reps Γ.S B vs ds) : Goes Γ B (fun H => SqT Γ.S.K H a vs) (Itt Γ.S.K a) ds := by
  refine ⟨YAt vs, by rw [← rs.length]; exact walk_tup, fun i H x H' B' hi eb eh hy => ?_⟩
  obtain ⟨rfl, hx⟩ := hy
  obtain ⟨d, h1, h2⟩ := rs.getV hx
  exact ⟨d, B', h1, newR_same eh (h2.mono eb)⟩
theorem goes_str {s : List Nat} (ok : StrOk s) : Goes Γ B (fun _ => True) (Its (mkS s)) (s.map fun c => .str [c]) := by
  refine ⟨_, by rw [List.length_map, show s.length = (mkS s).cps.size by simp [mkS]]; exact walk_str, fun i H x H' B' hi eb eh hy => ?_⟩
  obtain ⟨rfl, c, hc, rfl⟩ := hy
  have hc : s[i]? = some c := by simpa [mkS] using hc
  refine ⟨.str [c], B', by rw [List.getElem?_map, hc]; rfl, newR_same eh (.str [c] ⟨fun c' hc' => ?_, by simp [LIM]⟩)⟩
  have : c' = c := by simpa using hc'
  rw [this]; exact ok.1 c (List.mem_of_getElem? hc)
theorem goes_range {lo : Int} {n : Nat} : Goes Γ B (fun _ => True) (Itr lo n) (rangeF lo 1 n) := by
  refine ⟨_, by rw [show (rangeF lo 1 n).length = n by simp [rangeF]]; exact walk_range, fun i H x H' B' hi eb eh hy => ?_⟩
  obtain ⟨rfl, rfl⟩ := hy
  have hi : i < n := by simpa [rangeF] using hi
  refine ⟨.int (lo + i), B', ?_, newR_same eh (.int _)⟩
  unfold rangeF
  rw [List.getElem?_map, List.getElem?_range hi]
  simp
/-! ### the sources -/
theorem walkM_inv {w : Io} {as : List Ar} {r : R (List D)} (h : walkM w as e = some r) : ∃ ds xs, derefs e as = some ds ∧ walkD w ds = some xs ∧ r = .ok xs (hold as e) := by
  unfold walkM at h
  cases q1 : derefs e as with
  | none => simp only [q1] at h; cases h
  | some ds =>
    simp only [q1] at h
    cases q2 : walkD w ds with
    | none => simp only [q2] at h; cases h
    | some xs =>
      simp only [q2] at h
      split at h
      · cases h; exact ⟨ds, xs, rfl, q2, rfl⟩
      · cases h
/-- a list, a tuple, a text, the script -/
def iSeq (K : PySem.W.Frag) (te : TE) : TI := fun σ H R => te σ H fun v H1 => (∃ a, v = .ref a ∧ (∃ xs, SqL K H1 a xs) ∧ R (Itl K a) H1) ∨ (∃ a, v = .ref a ∧ (∃ xs, SqT K H1 a xs) ∧ R (Itt K a) H1) ∨ ∃ z, v = .str z ∧ R (Its z) H1
theorem pi_seq {X : Cx} {tg x : Expr} {te : TE} (he : PE X x te) : PI X tg x (iSeq X.K te) := by
  refine ⟨fun pins s σ H R I h => ?_⟩
  refine thn (he.run pins s σ H _ I h) fun v s1 ⟨y, H1, I1, r1, q⟩ => ?_
  have lit : ∀ {y : V} {te' : TE}, RelV y v → te' σ H1 (fun v H1 => ∃ a, v = .ref a ∧ (∃ xs, SqL X.K H1 a xs) ∧ R (Itl X.K a) H1) → True := fun _ _ => trivial
  rcases q with ⟨a, rfl, ⟨xs, hq⟩, q⟩ | ⟨a, rfl, ⟨xs, hq⟩, q⟩ | ⟨z, rfl, q⟩
  · cases r1
    obtain ⟨its, rv, p, hz⟩ := I1.list hq
    refine wpAny_pyIter_list p.isList ?_
    refine ⟨s1.heap.objs.size, [s1.heap.objs.size], _, _, H1, rfl, I1.kept (t' := s1.toks) fun b o e => Heap.get?_push_of_some _ e, turn_list a _, ⟨_, Heap.get?_push_size _ rfl, rfl, rfl⟩, fun b hb => ?_, q⟩
    have e : b = s1.heap.objs.size := by simpa using hb
    subst e
    exact I1.fpOk (Nat.le_refl _) (I1.hok.fresh (Nat.le_refl _))
  · cases r1
    obtain ⟨its, rv, p, hz⟩ := I1.tuple hq
    refine wpAny_pyIter_tuple (show s1.heap.IsTuple a its.toArray from p) ?_
    refine ⟨s1.heap.objs.size, [s1.heap.objs.size], _, _, H1, rfl, I1.kept (t' := s1.toks) fun b o e => Heap.get?_push_of_some _ e, turn_tuple a _, ⟨_, Heap.get?_push_size _ rfl, rfl, rfl⟩, fun b hb => ?_, q⟩
    have e : b = s1.heap.objs.size := by simpa using hb
    subst e
    exact I1.fpOk (Nat.le_refl _) (I1.hok.fresh (Nat.le_refl _))
  · obtain ⟨t, rfl⟩ := r1
    cases ha : z.cps.all (· < 128)
    · exact wpAny_pyIter_wide ha (pi_one (tk := s1.toks) I1 _ (turn_str _ z t "str_iterator" (.inr rfl)) ⟨_, Heap.get?_push_size _ rfl, rfl, rfl⟩ q)
    · exact wpAny_pyIter_ascii ha (pi_one (tk := s1.toks) I1 _ (turn_str _ z t "str_ascii_iterator" (.inl rfl)) ⟨_, Heap.get?_push_size _ rfl, rfl, rfl⟩ q)
theorem one_l {m : E} {r : R (List Ar)} (h : (evG Γ F (.cons m .nil)).l e = some r) : M.bind (evG Γ F m).o (fun a => M.pure [a]) e = some r := by
  have h : M.bind (evG Γ F m).o (fun a => M.bind (M.pure []) fun as => M.pure (a :: as)) e = some r := h
  exact h
theorem si_seq {m : E} {tg x : Expr} (hm : SO Γ F m x) : SI Γ F .seq (.cons m .nil) tg x := by
  intro σ B H e r R P hr K X
  have hr := one_l hr
  refine ⟨iSeq Γ.S.K (W Γ x), fun X hX => by rw [← hX.K]; exact pi_seq (W_pe hX), ?_⟩
  refine one_step hm P hr X fun a e1 v B1 H1 hf po ar fr => ?_
  cases hf
  obtain ⟨ds, xs, h1, h2, K⟩ := K _ _ rfl
  obtain ⟨d, rfl, hd⟩ : ∃ d, ds = [d] ∧ deref e1 a = some d := by
    unfold derefs derefs at h1
    cases q : deref e1 a with
    | none => rw [q] at h1; cases h1
    | some d => rw [q] at h1; cases h1; exact ⟨d, rfl, rfl⟩
  have K' := fun J => K J B1 H1 po
  have mem : ∀ i, a = .r i → i ∈ refs [a] := fun i h => by subst h; exact List.mem_cons_self ..
  cases d with
  | lst ds =>
    cases h2
    obtain ⟨p, vs, rfl, hp, rs, st⟩ := stays [a] po.pst ar hd mem
    exact .inl ⟨p, rfl, ⟨vs, sqL_of hp⟩, K' _ ⟨_, goes_list rs, fun σ' B' H' e' ps => sqL_of (st σ' B' H' e' ps)⟩⟩
  | tup ds =>
    cases h2
    obtain ⟨p, vs, rfl, hb, hp, rs⟩ := (ar.dr po.pst hd).tup po.pst.ext
    exact .inr (.inl ⟨p, rfl, ⟨vs, sqT_of hp⟩, K' _ ⟨_, goes_tup rs, fun σ' B' H' e' ps => sqT_of (ps.pst.ext _ _ (ps.stp.b _ _ hb))⟩⟩)
  | str s =>
    cases h2
    obtain ⟨rfl, ok⟩ := (ar.dr po.pst hd).str
    exact .inr (.inr ⟨_, rfl, K' _ ⟨_, goes_str ok, fun _ _ _ _ _ => trivial⟩⟩)
  | scr ns =>
    cases h2
    have rp : ∃ p, v = .ref p ∧ SqL Γ.S.K B1 p (ns.map V.int) := by
      rcases ar.dr po.pst hd with r | ⟨p, _, r⟩
      · cases r with
        | scr h => exact ⟨_, rfl, h⟩
      · cases r
    obtain ⟨p, rfl, hp⟩ := rp
    exact .inl ⟨p, rfl, ⟨_, ex_l po.pst.ext hp⟩, K' _ ⟨_, goes_list (reps_ints ns), fun σ' B' H' e' ps => ex_l (ps.stp.b.trans ps.pst.ext) hp⟩⟩
  | _ => cases h2
end
end Gal
set_option Elab.async false
set_option linter.all false
set_option maxRecDepth 100000
/-! G25: ranges, enumerate, zip; the for loop. -/
namespace Gal
open PySem L2 PyProof.Rows PySem.Spec
section
variable {Γ : Ct} {F : Callee} {k : Nat} {σ σ1 σ2 σ' : L2.St} {B H B1 H1 B2 H2 B' H' : Hp} {e e1 e2 e' : Env}
/-- a source of several operands -/
theorem src_list {w : Io} {as : E} {xs : List Expr} {r : R (List Ar)} {R' : It → Hp → Prop} {R : List V → Hp → Prop} (hl : SL Γ F as xs []) (P : Pst Γ σ B H e) (hr : (evG Γ F as).l e = some r)
    (K : ∀ as e1, r = .ok as e1 → ∃ ds xs, derefs e1 as = some ds ∧ walkD w ds = some xs ∧ ∀ J B1 H1, Po Γ σ noT B H e B1 H1 e1 → SrcOk Γ σ B1 H1 (hold as e1) xs J → R' J H1) (X : KX Γ σ B H e r)
    (h : ∀ as' e1 vs B1 H1 ds ys, derefs e1 as' = some ds → walkD w ds = some ys → (∀ J, SrcOk Γ σ B1 H1 (hold as' e1) ys J → R' J H1) → Po Γ σ noT B H e B1 H1 e1 → ArsR Γ σ B1 H1 e1 as' vs → R vs H1) : wA Γ xs σ H R := by
  have := hl σ B H e r R P hr (fun as' e1 he vs B1 H1 po ars fr => by
    obtain ⟨ds, ys, h1, h2, h3⟩ := K as' e1 he
    exact h as' e1 vs B1 H1 ds ys h1 h2 (fun J => h3 J B1 H1 po) po ars) X
  simpa using this
theorem si_range1 (Fa : Fac Γ F k) {as : E} {tg y : Expr} {p pos : Pos} (hg : isGl Γ.sc "range" = true) (hs : [y].all noStar = true) (hl : SL Γ F as [y] []) : SI Γ F .range1 as tg (.Call (.Name "range" p) [y] [] pos) := by
  intro σ B H e r R P hr K X
  refine ⟨iRng1 (wA Γ [y]), fun X hX => pi_range1 (isGl_ok hX hg).1 (by rw [hX.mg]; exact Fa.blt _ (.inl (by decide))) (wA_pa hX hs) (by
    have := starEach_of (x := y) (r := []) (env := X.env) (by simpa using hs); rw [this]; rfl), ?_⟩
  refine src_list hl P hr K X fun as' e1 vs B1 H1 ds ys h1 h2 h3 po ars => ?_
  have dr := ars.drs po.pst h1
  cases dr with
  | nil => cases h2
  | cons r1 t =>
    rename_i v d vs ds
    cases t with
    | cons _ _ => cases d <;> cases h2
    | nil =>
      cases d with
      | int n =>
        have h2 : (if -(2 ^ 40) < n ∧ n < 2 ^ 40 then some (rangeF 0 1 n.toNat) else none) = some ys := h2
        split at h2
        · rename_i hn
          cases h2
          have r1 := r1.int
          subst r1
          exact ⟨n, rfl, by omega, by omega, h3 _ ⟨_, goes_range, fun _ _ _ _ _ => trivial⟩⟩
        · cases h2
      | _ => cases h2
theorem si_range2 (Fa : Fac Γ F k) {as : E} {tg y z : Expr} {p pos : Pos} (hg : isGl Γ.sc "range" = true) (hs : [y, z].all noStar = true) (hl : SL Γ F as [y, z] []) : SI Γ F .range2 as tg (.Call (.Name "range" p) [y, z] [] pos) := by
  intro σ B H e r R P hr K X
  have s12 : noStar y = true ∧ noStar z = true := by simpa using hs
  refine ⟨iRng2 (wA Γ [y, z]), fun X hX => pi_range2 (isGl_ok hX hg).1 (by rw [hX.mg]; exact Fa.blt _ (.inl (by decide))) (wA_pa hX hs) (by
    rw [starEach_of s12.1, starEach_of s12.2]; rfl) (by rw [starEach_of s12.2]; rfl), ?_⟩
  refine src_list hl P hr K X fun as' e1 vs B1 H1 ds ys h1 h2 h3 po ars => ?_
  have dr := ars.drs po.pst h1
  cases dr with
  | nil => cases h2
  | cons r1 t =>
    rename_i v d vs ds
    cases t with
    | nil => cases d <;> cases h2
    | cons r2 t =>
      rename_i v2 d2 vs ds
      cases t with
      | cons _ _ => cases d <;> first | cases h2 | (cases d2 <;> cases h2)
      | nil =>
        cases d with
        | int a =>
          cases d2 with
          | int b =>
            have h2 : (if -(2 ^ 40) < a ∧ a < 2 ^ 40 ∧ -(2 ^ 40) < b ∧ b < 2 ^ 40 then some (rangeF a 1 (b - a).toNat) else none) = some ys := h2
            split at h2
            · rename_i hn
              cases h2
              have r1 := r1.int
              subst r1
              have r2 := r2.int
              subst r2
              exact ⟨a, b, rfl, ⟨by omega, by omega, by omega, by omega⟩, h3 _ ⟨_, goes_range, fun _ _ _ _ _ => trivial⟩⟩
            · cases h2
          | _ => cases h2
        | _ => cases d2 <;> cases h2
/-! ### the for loop -/
def gT (Γ : Ct) : Tg → TG
  | .nm i => gName i
  | .tp is => gTup Γ.S.K is.length (gNames is)
def ckT (N : List PySem.Str) (sc : Scope) : Tg → Expr → Bool
  | .nm i, .Name id _ => decide (N[i]? = some id) && isLoc sc id
  | .tp is, .Tuple es _ _ => ckNames N sc is es
  | _, _ => false
theorem tg_pg {X : Cx} (hX : Cxt Γ X) (hh : Γ.hot = false) (hf : X.fn = fun _ => true) {t : Tg} {tg : Expr} (h : ckT Γ.N Γ.sc t tg = true) : PG X tg (gT Γ t) := by
  cases t with
  | nm i =>
    cases tg with
    | Name id p =>
      obtain ⟨h1, h2⟩ := and2 h
      exact pg_name (by rw [hX.N]; exact hX.nd) (by rw [hX.N]; exact of_decide_eq_true h1) (isLoc_ok hX h2) (.inl (by rw [hf]))
    | _ => cases h
  | tp is =>
    cases tg with
    | Tuple es kk p =>
      obtain ⟨n1, n2, n3⟩ := names_pg hX hf h
      show PG X _ (gTup Γ.S.K is.length (gNames is))
      rw [← hX.K]
      exact pg_tup (hX.calm hh).1 n1 n2 n3
    | _ => cases h
theorem putTs_len {np : Nat} : ∀ {is : List Nat} {ds : List D} {e1 e' : Env}, putTs np is ds e1 = some e' → ds.length = is.length := by
  intro is
  induction is with
  | nil => intro ds e1 e' h; cases ds with
    | nil => rfl
    | cons _ _ => cases h
  | cons i is ih =>
    intro ds e1 e' h
    cases ds with
    | nil => cases h
    | cons d ds =>
      unfold putTs at h
      cases q : e1[i]? with
      | none => simp only [q] at h; cases h
      | some s =>
        simp only [q] at h
        cases s with
        | un => exact congrArg Nat.succ (ih h)
        | va _ => exact congrArg Nat.succ (ih h)
        | ow _ =>
          simp only at h
          split at h
          · cases h
          · exact congrArg Nat.succ (ih h)
        | _ => cases h
theorem put_ok {t : Tg} {d : D} {v : V} {σ0 : L2.St} {B0 H0 : Hp} {e0 : Env} {Q : L2.St → Hp → Prop} (ps : Ps Γ σ0 B0 H0 e0 σ B H e) (r : Rep Γ.S B v d) (h : putT Γ.np t d e = some e')
    (K : ∀ σ', Ps Γ σ0 B0 H0 e0 σ' B H e' → (∀ p, Own σ' e' p → Own σ e p) → Q σ' H) : gT Γ t v σ H Q := by
  cases t with
  | nm i =>
    have := names_ok (Q := Q) ps (Reps.cons r .nil) h fun σ' p l _ => K σ' p l
    obtain ⟨v', r', e1, q1, q2⟩ := this
    cases e1
    exact q2
  | tp is =>
    cases d with
    | tup ds =>
      cases r with
      | tup hp rs =>
        exact ⟨_, _, rfl, sqT_of (ps.pst.ext _ _ hp), by rw [rs.length]; exact putTs_len h, names_ok ps rs h fun σ' p l _ => K σ' p l⟩
    | _ => cases h
theorem for_inv {put : D → Env → Option Env} {body : Env → Option Out} {x : D} {xs : List D} {o : Out} (h : forL put body (x :: xs) e = some o) : ∃ e1 o1, put x e = some e1 ∧ body e1 = some o1 ∧
    ((∃ e2, (o1 = .nx e2 ∨ o1 = .ct e2) ∧ forL put body xs e2 = some o) ∨ (((∃ e2, o1 = .bk e2) ∨ (∃ w d e2, o1 = .rt w d e2) ∨ ∃ c fs e2, o1 = .ex c fs e2) ∧ o = o1)) := by
  unfold forL at h
  cases q : put x e with
  | none => simp only [q] at h; cases h
  | some e1 =>
    simp only [q] at h
    cases q2 : body e1 with
    | none => simp only [q2] at h; cases h
    | some o1 =>
      refine ⟨e1, o1, rfl, q2, ?_⟩
      simp only [q2] at h
      cases o1 with
      | nx e2 => exact .inl ⟨e2, .inl rfl, h⟩
      | ct e2 => exact .inl ⟨e2, .inr rfl, h⟩
      | bk e2 => cases h; exact .inr ⟨.inl ⟨e2, rfl⟩, rfl⟩
      | rt w d e2 => cases h; exact .inr ⟨.inr (.inl ⟨w, d, e2, rfl⟩), rfl⟩
      | ex c fs e2 => cases h; exact .inr ⟨.inr (.inr ⟨c, fs, e2, rfl⟩), rfl⟩
/-- behind the loop the walked objects are free again -/
theorem rtv_unhold {as : List Ar} {w : Bool} {d : D} {v : V} (ps : Ps Γ σ B H (hold as e) σ' B' H' e') (h : RtV Γ σ H (hold as e) w d v σ' B' H' e') : RtV Γ σ H e w d v σ' B' H' (unhold e as e') := by
  cases w with
  | false => exact h
  | true =>
    obtain ⟨p, h1, h2, h3, h4, h5⟩ := h
    exact ⟨p, h1, h2, h3, fun ⟨j, o⟩ => h4 ⟨j, unhold_own ps o⟩, h5.imp (fun ⟨j, o⟩ => ⟨j, hold_own.mp o⟩) _root_.id⟩
theorem ss_for {n : Nat} {t : Tg} {w : Io} {src : E} {b : S} {tg iter : Expr} {xs : List Stmt} {pos : Pos} (top : Γ.top = true) (hh : Γ.hot = false) (ht : ckT Γ.N Γ.sc t tg = true) (hi : SI Γ F w src tg iter) (hb : SB Γ F n b xs)
    (hfs : ∀ env x, foldedSetIterable iter env x = pure x) : SS Γ F n (.for_ t w src b) (.For tg iter xs [] pos) := by
  intro σ0 B0 H0 e0 o D P hr K
  have hr : (if Γ.hot then none else okN ((evG Γ F src).l e0) fun as e1 => match walkM w as e1 with
    | some (.ok ys e2) => (forL (putT Γ.np t) (evT Γ F n b) ys e2).map fun o => outL (mapOut (unhold e1 as) o)
    | _ => none) = some o := hr
  rw [hh] at hr
  have hr : okN ((evG Γ F src).l e0) (fun as e1 => match walkM w as e1 with
    | some (.ok ys e2) => (forL (putT Γ.np t) (evT Γ F n b) ys e2).map fun o => outL (mapOut (unhold e1 as) o)
    | _ => none) = some o := hr
  refine ⟨tFor (WI Γ tg iter) (gT Γ t) (WSs Γ xs), fun X hX => ps_for (hX.own top) (hX.calm hh).1 (WI_pi hX) (tg_pg hX hh (hX.top top).2.2 ht) (WSs_ps hX) (hfs X.env), ?_⟩
  unfold okN at hr
  cases q : (evG Γ F src).l e0 with
  | none => rw [q] at hr; cases hr
  | some r =>
    rw [q] at hr
    refine hi σ0 B0 H0 e0 r _ P q (fun as e1 he => ?_) ?_
    · subst he
      have hr : (match walkM w as e1 with
        | some (.ok ys e2) => (forL (putT Γ.np t) (evT Γ F n b) ys e2).map fun o => outL (mapOut (unhold e1 as) o)
        | _ => none) = some o := hr
      cases qw : walkM w as e1 with
      | none => rw [qw] at hr; cases hr
      | some rw' =>
        obtain ⟨ds, ys, d1, d2, d3⟩ := walkM_inv qw
        subst d3
        rw [qw] at hr
        obtain ⟨o', f1, f2⟩ := map_some (x := forL (putT Γ.np t) (evT Γ F n b) ys (hold as e1)) hr
        refine ⟨ds, ys, d1, d2, fun J B1 H1 po src => ?_⟩
        obtain ⟨G, ⟨Y, wk, gy⟩, gst⟩ := src
        have K1 : KD Γ σ0 B1 H1 e1 D (outL (mapOut (unhold e1 as) o')) := by rw [f2]; exact K.step po.ps
        have h0 := hold_ps as po.pst
        refine for_it wk (fun i σ H => ∃ B e, Ps Γ σ0 B1 H1 (hold as e1) σ B H e ∧ forL (putT Γ.np t) (evT Γ F n b) (ys.drop i) e = some o') ⟨B1, _, Ps.refl h0.pst, by simpa using f1⟩ (fun i σ H _ ⟨B, e, ps, _⟩ => gst σ B H e ps) (fun i x σ H H' hi' ⟨B, e, ps, hf⟩ hy => ?_) fun σ H ⟨B, e, ps, hf⟩ => ?_
        · obtain ⟨d, B2, g1, g2⟩ := gy i H x H' B hi' ps.stp.b ps.pst.ext hy
          rw [List.drop_eq_getElem_cons hi'] at hf
          have gd : ys[i] = d := by rw [List.getElem?_eq_getElem hi'] at g1; exact Option.some.inj g1
          rw [gd] at hf
          obtain ⟨e2, o1, p1, p2, p3⟩ := for_inv hf
          obtain ⟨po2, ar2, _⟩ := new_po ps.pst g2
          refine put_ok (ps.trans po2.ps) ar2 p1 fun σ2 ps2 _ => ?_
          refine hb σ2 B2 H' e2 o1 _ ps2.pst p2 ?_
          rcases p3 with ⟨e3, p3, p4⟩ | ⟨p3, rfl⟩
          · rcases p3 with rfl | rfl
            · exact fun σ' B' H' p => ⟨B', e3, ps2.trans p, p4⟩
            · exact fun σ' B' H' p => ⟨B', e3, ps2.trans p, p4⟩
          · rcases p3 with ⟨e3, rfl⟩ | ⟨w', d', e3, rfl⟩ | ⟨c, fs, e3, rfl⟩
            · exact fun σ' B' H' p => K1 σ' B' H' (unhold_ps (ps2.trans p) po.pst)
            · exact fun v σ' B' H' p r => K1 v σ' B' H' (unhold_ps (ps2.trans p) po.pst) (rtv_unhold (ps2.trans p) (r.step ps2))
            · exact fun cls dd σ' B' H' p x => K1 cls dd σ' B' H' (unhold_ps (ps2.trans p) po.pst) x
        · rw [List.drop_length] at hf
          cases hf
          exact K1 σ B H (unhold_ps ps po.pst)
    · cases r with
      | ok as e1 => exact okX
      | ex c fs e1 => cases hr; exact fun c' fs' e' he cls dd B1 H1 po x => by cases he; exact K cls dd σ0 B1 H1 po.ps x
end
end Gal
set_option Elab.async false
set_option linter.all false
set_option maxRecDepth 100000
/-! G26: a def by its body's run. -/
namespace Gal
open PySem L2 PyProof.Rows PySem.Spec
/-- the kind of a def's body -/
def ctOf (S : Stc) (N : List PySem.Str) (sc : Scope) (k np : Nat) (E : XK) : Ct :=
  { S := S, N := N, sc := sc, k := k, hot := false, W := fun cls d _ H => E cls d H, xi := none, top := true, np := np }
section
variable {S : Stc} {F : Callee} {n Wn f : Nat}
theorem start_get (N : List PySem.Str) (vs : List V) (i : Nat) (hi : i < vs.length) : (L2.start N vs)[i]? = some (vs[i]?) := by
  unfold L2.start
  rw [List.getElem?_append_left (by simpa using hi), List.getElem?_map, List.getElem?_eq_getElem hi]
  rfl
theorem start_len {N : List PySem.Str} {vs : List V} (h : vs.length ≤ N.length) : (L2.start N vs).length = N.length := by
  unfold L2.start
  rw [List.length_append, List.length_map, List.length_replicate]
  omega
theorem SlVs.len {S : Stc} {B H : Hp} : ∀ {ss : List Sl} {vs : List V}, SlVs S B H ss vs → ss.length = vs.length
  | _, _, .nil => rfl
  | _, _, .cons _ t => congrArg Nat.succ (SlVs.len t)
theorem env_get (ss : List Sl) (m i : Nat) (s : Sl) (h : (ss ++ List.replicate m Sl.un)[i]? = some s) : (i < ss.length ∧ ss[i]? = some s) ∨ (ss.length ≤ i ∧ s = .un) := by
  by_cases q : i < ss.length
  · rw [List.getElem?_append_left q] at h
    exact .inl ⟨q, h⟩
  · rw [List.getElem?_append_right (by omega)] at h
    have := List.mem_of_getElem? h
    exact .inr ⟨by omega, List.eq_of_mem_replicate this⟩
/-- the start of a body -/
theorem start_ok {Γ : Ct} {B H : Hp} {ss : List Sl} {vs : List V} {N : List PySem.Str} (hS : Γ.S = S) (pa : PaR S B H ss vs) (hl : vs.length ≤ N.length) (m : Nat) (hm : ss.length + m = N.length) :
    Pst Γ (L2.start N vs) B H (ss ++ List.replicate m .un) ∧ ∀ i p, OwnAt (L2.start N vs) (ss ++ List.replicate m .un) i p ↔ OwnVAt ss vs i p := by
  subst hS
  have sl := pa.rel.len
  have own : ∀ i p, OwnAt (L2.start N vs) (ss ++ List.replicate m .un) i p ↔ OwnVAt ss vs i p := by
    intro i p
    constructor
    · rintro ⟨⟨d, hd⟩, h2⟩
      have : ∃ s, (ss ++ List.replicate m Sl.un)[i]? = some s ∧ (s = .ow d ∨ s = .lk d) := by
        rcases hd with hd | hd
        · exact ⟨_, hd, .inl rfl⟩
        · exact ⟨_, hd, .inr rfl⟩
      obtain ⟨s, hs, hk⟩ := this
      rcases env_get _ _ _ _ hs with ⟨hi, h3⟩ | ⟨_, rfl⟩
      · rw [start_get N vs i (by omega)] at h2
        have h2 : vs[i]? = some (.ref p) := Option.some.inj h2
        have z := pa.rel.get h3 h2
        rcases hk with rfl | rfl
        · exact ⟨d, h3, h2⟩
        · exact z.elim
      · rcases hk with h | h <;> cases h
    · rintro ⟨d, h1, h2⟩
      have hi : i < ss.length := (List.getElem?_eq_some_iff.mp h1).1
      refine ⟨⟨d, .inl ?_⟩, ?_⟩
      · rw [List.getElem?_append_left hi]; exact h1
      · rw [start_get N vs i (by omega), h2]
  refine ⟨⟨?_, pa.ext, fun i s hs => ?_, fun i j p o1 o2 => pa.dj i j p ((own i p).mp o1) ((own j p).mp o2)⟩, own⟩
  · rw [List.length_append, List.length_replicate, start_len hl, hm]
  · rcases env_get _ _ _ _ hs with ⟨hi, h3⟩ | ⟨_, rfl⟩
    · have hv : vs[i]? = some vs[i] := List.getElem?_eq_getElem (by omega)
      have z := pa.rel.get h3 hv
      rw [start_get N vs i (by omega), hv]
      cases s with
      | va d => exact ⟨_, rfl, z⟩
      | ow d => obtain ⟨p, a, b, c⟩ := z; exact ⟨p, by rw [a]; rfl, b, c⟩
      | _ => exact z.elim
    · trivial
/-- the end of a body: what the caller is told -/
theorem end_ok {Γ : Ct} {B H B' H' : Hp} {ss : List Sl} {vs : List V} {σ σ' : L2.St} {e e' : Env} (hS : Γ.S = S) (hnp : ss.length = Γ.np) (hle : ss.length ≤ e.length) (own : ∀ i p, OwnAt σ e i p ↔ OwnVAt ss vs i p) (P : Pst Γ σ B H e) (ps : Ps Γ σ B H e σ' B' H' e') : RtR S B H ss vs (e'.take Γ.np) B' H' := by
  subst hS
  have T : ∀ p, Own σ e p → OwnV ss vs p := fun p ⟨i, o⟩ => ⟨i, (own i p).mp o⟩
  have hl : e'.length = e.length := by rw [ps.pst.len, ps.ln, P.len]
  refine ⟨⟨ps.stp.b, fun a o nT h => ps.stp.k a o (fun z => nT (T a z)) h, fun a o h => (ps.stp.n a o h).imp _root_.id fun z => z.imp _root_.id (T a), ps.stp.a⟩, ps.pst.ext, ?_, fun i p o => ?_⟩
  · rw [List.length_take, hl]; omega
  · have o' := (own i p).mpr o
    have hi : i < Γ.np := by
      obtain ⟨d, h1, _⟩ := o
      have := (List.getElem?_eq_some_iff.mp h1).1
      omega
    have ho : ownish e[i]? := by
      obtain ⟨⟨d, hd⟩, _⟩ := o'
      rcases hd with hd | hd <;> (rw [hd]; trivial)
    obtain ⟨k1, k2⟩ := ps.kp i hi ho
    have hs : σ'[i]? = some (some (.ref p)) := k2.trans o'.2
    rw [List.getElem?_take_of_lt hi]
    cases q : e'[i]? with
    | none => rw [q] at k1; exact k1.elim
    | some s =>
      have z := ps.pst.sl i s q
      rw [hs] at z
      rw [q] at k1
      cases s with
      | ow d => obtain ⟨p', a, b, c⟩ := z; cases a; exact ⟨b, c⟩
      | lk d => obtain ⟨p', a, b, c⟩ := z; cases a; exact ⟨b, c⟩
      | fz d => obtain ⟨p', a, b, c⟩ := z; cases a; exact ⟨b, c⟩
      | _ => exact k1.elim
theorem val_ok {Γ : Ct} {B H B' H' : Hp} {ss : List Sl} {vs : List V} {σ σ' : L2.St} {e e' : Env} {w : Bool} {d : D} {v : V} (hS : Γ.S = S) (hnp : ss.length = Γ.np) (own : ∀ i p, OwnAt σ e i p ↔ OwnVAt ss vs i p) (ps : Ps Γ σ B H e σ' B' H' e') (r : RtV Γ σ H e w d v σ' B' H' e') : ValR S B H B' H' w d v := by
  subst hS
  cases w with
  | false => exact r
  | true =>
    obtain ⟨p, h1, h2, h3, h4, h5⟩ := r
    refine ⟨p, h1, ?_, h2, h3⟩
    rcases h5 with ⟨i, o⟩ | h5
    · exfalso
      obtain ⟨dd, q1, _⟩ := (own i p).mp o
      have hi : i < Γ.np := by rw [← hnp]; exact (List.getElem?_eq_some_iff.mp q1).1
      have ho : ownish e[i]? := by
        obtain ⟨⟨d, hd⟩, _⟩ := o
        rcases hd with hd | hd <;> (rw [hd]; trivial)
      obtain ⟨k1, k2⟩ := ps.kp i hi ho
      have hs : σ'[i]? = some (some (.ref p)) := k2.trans o.2
      cases q : e'[i]? with
      | none => rw [q] at k1; exact k1.elim
      | some s =>
        have z := ps.pst.sl i s q
        rw [hs] at z
        rw [q] at k1
        cases s with
        | ow d => exact h4 ⟨i, ⟨d, .inl q⟩, hs⟩
        | lk d => exact h4 ⟨i, ⟨d, .inr q⟩, hs⟩
        | fz d => obtain ⟨p', a, _, o2, c⟩ := z; cases a; rw [h2] at c; cases c
        | _ => exact k1.elim
    · exact h5
/-- THE RULE: a def runs as the pure one -/
theorem fn_ok {fn : Fn} {name qual : PySem.Str} {params : Arguments} {body : List Stmt} {scope : Scope} {dV kV doc pm cdv ct oc : Value} {an od : Option Addr} {osl : Array (Option Value)} {N ps : List PySem.Str} {k : Nat}
    (hf : S.P.fns[f]? = some fn) (lk : S.K.lookup (S.fa f) = some ⟨oc, od, .func (PySem.W.fnOf name qual params body scope dV kV doc pm an cdv ct), osl⟩) (hcd : PySem.W.codeIn S.K cdv qual = true) (fs : FnScope N ps scope) (hN : N.length = fn.ns) (hp : ps.length = fn.np) (hle : fn.np ≤ fn.ns)
    (hB : ∀ E, SB (ctOf S N scope k fn.np E) (callF S.P Wn n) Wn fn.body body) :
    FnOk S.pg S.w S.K S.mg S.base (L2.CX S.pg S.w) (k + 1) (S.fa f) (PySem.W.fnOf name qual params body scope dV kV doc pm an cdv ct) ps (spR S (callF S.P Wn (n + 1)) f) := by
  have unf : ∀ ss : List Sl, callF S.P Wn (n + 1) f ss = (if ss.length = fn.np then match evS S.P (callF S.P Wn n) fn.np Wn fn.body false (ss ++ List.replicate (fn.ns - fn.np) Sl.un) with
        | some (Out.rt o d e) => some (CR.rt o d (e.take fn.np))
        | some (Out.nx e) => some (CR.rt false .non (e.take fn.np))
        | some (Out.ex c fs e) => some (CR.ex c fs (e.take fn.np))
        | _ => none
      else none) := fun ss => by
    show (match S.P.fns[f]? with
      | some fn => if ss.length = fn.np then match evS S.P (callF S.P Wn n) fn.np Wn fn.body false (ss ++ List.replicate (fn.ns - fn.np) Sl.un) with
        | some (Out.rt o d e) => some (CR.rt o d (e.take fn.np))
        | some (Out.nx e) => some (CR.rt false .non (e.take fn.np))
        | some (Out.ex c fs e) => some (CR.ex c fs (e.take fn.np))
        | _ => none
      else none
      | none => none) = _
    rw [hf]
  refine fn_of lk hcd fs (fun vs H Q E ⟨B, ss, r, pa, h, _⟩ => ?_) fun A outer s H vs Q E hr ⟨B, ss, r, pa, h, hq⟩ => ?_
  · rw [unf] at h
    split at h
    · rename_i hl
      rw [← pa.rel.len, hl, hp]
    · cases h
  · rw [unf] at h
    split at h
    · rename_i hl
      have hv : vs.length = fn.np := by rw [← pa.rel.len, hl]
      obtain ⟨P, own⟩ := start_ok (Γ := ctOf S N scope k fn.np E) (N := N) rfl pa (by omega) (fn.ns - fn.np) (by omega)
      have hle' : ss.length ≤ (ss ++ List.replicate (fn.ns - fn.np) Sl.un).length := by rw [List.length_append]; omega
      refine ⟨WSs (ctOf S N scope k fn.np E) body, WSs_ps ?_, ?_⟩
      · refine ⟨rfl, rfl, rfl, rfl, rfl, rfl, rfl, fun _ => ⟨rfl, hr⟩, ?_, L2.takes_of rfl rfl rfl rfl, fun _ => ⟨rfl, rfl, rfl⟩, fun _ => L2.passes_of rfl, fs.nd, fun a cls d h => by cases h⟩
        have := hr.un
        show (A.deeper _).units + 80 < cLine
        omega
      · cases q : evS S.P (callF S.P Wn n) fn.np Wn fn.body false (ss ++ List.replicate (fn.ns - fn.np) .un) with
        | none => rw [q] at h; cases h
        | some o =>
          rw [q] at h
          refine hB E (L2.start N vs) B H _ o _ P q ?_
          cases o with
          | nx e' =>
            cases h
            exact fun σ' B' H' ps => hq .non B' H' (end_ok rfl hl hle' own P ps) .non
          | rt w d e' =>
            cases h
            exact fun v σ' B' H' ps r => hq v B' H' (end_ok rfl hl hle' own P ps) (val_ok rfl hl own ps r)
          | ex c fs' e' =>
            cases h
            exact fun cls dd σ' B' H' ps x => hq cls dd B' H' (end_ok rfl hl hle' own P ps) x
          | bk e' => cases h
          | ct e' => cases h
    · cases h
end
end Gal
set_option Elab.async false
set_option linter.all false
set_option maxRecDepth 100000
/-! G27: enumerate and zip of lists; a list unpacked. -/
namespace Gal
open PySem L2 PyProof.Rows PySem.Spec
section
variable {Γ : Ct} {F : Callee} {k : Nat} {σ σ1 σ2 σ' : L2.St} {B H B1 H1 B2 H2 B' H' : Hp} {e e1 e2 e' : Env}
/-- a list or the script, that stays -/
theorem staysL {a : Ar} {v : V} {d : D} {xs : List D} (as : List Ar) (P : Pst Γ σ B H e) (ar : ArR Γ σ B H e a v) (hd : deref e a = some d) (hx : seqL d = some xs) (hm : ∀ i, a = .r i → i ∈ refs as) :
    ∃ p vs, v = .ref p ∧ SqL Γ.S.K H p vs ∧ Reps Γ.S B vs xs ∧ ∀ σ' B' H' e', Ps Γ σ B H (hold as e) σ' B' H' e' → SqL Γ.S.K H' p vs := by
  have hk : (∃ ds, d = .lst ds) ∨ ∃ ns, d = .scr ns := by
    cases d with
    | lst ds => exact .inl ⟨ds, rfl⟩
    | scr ns => exact .inr ⟨ns, rfl⟩
    | _ => cases hx
  rcases hk with ⟨ds, rfl⟩ | ⟨ns, rfl⟩
  · cases hx
    obtain ⟨p, vs, rfl, hp, rs, st⟩ := stays as P ar hd hm
    exact ⟨p, vs, rfl, sqL_of hp, rs, fun σ' B' H' e' ps => sqL_of (st σ' B' H' e' ps)⟩
  · cases hx
    have rp : ∃ p, v = .ref p ∧ SqL Γ.S.K B p (ns.map V.int) := by
      rcases ar.dr P hd with r | ⟨p, _, r⟩
      · cases r with
        | scr h => exact ⟨_, rfl, h⟩
      · cases r
    obtain ⟨p, rfl, hp⟩ := rp
    exact ⟨p, _, rfl, ex_l P.ext hp, reps_ints ns, fun σ' B' H' e' ps => ex_l (ps.stp.b.trans ps.pst.ext) hp⟩
theorem enumF_get : ∀ (xs : List D) (k i : Nat), (enumF k xs)[i]? = (xs[i]?).map fun x => D.tup [.int ((k + i : Nat) : Int), x]
  | [], k, i => by simp [enumF]
  | x :: r, k, 0 => by simp [enumF]
  | x :: r, k, i + 1 => by
    show (enumF (k + 1) r)[i]? = _
    rw [enumF_get r (k + 1) i]
    simp only [List.getElem?_cons_succ]
    congr 1
    funext y
    congr 4
    omega
theorem enumF_len : ∀ (xs : List D) (k : Nat), (enumF k xs).length = xs.length
  | [], _ => rfl
  | _ :: r, k => congrArg Nat.succ (enumF_len r (k + 1))
theorem pair_new {T : Addr} {H : Hp} {x y : V} {a b : D} (e : Ex B H) (hT : H T = none) (ra : Rep Γ.S B x a) (rb : Rep Γ.S B y b) : NewR Γ.S B H false (.tup [a, b]) (.ref T) (upd B T (.tup [x, y])) (upd H T (.tup [x, y])) :=
  new_tup e hT (.cons ra (.cons rb .nil))
theorem goes_enum {a : Addr} {vs : List V} {ds : List D} (rs : Reps Γ.S B vs ds) : Goes Γ B (fun H => SqL Γ.S.K H a vs) (Ite Γ.S.K a) (enumF 0 ds) := by
  refine ⟨_, by rw [enumF_len, ← rs.length]; exact walk_enum, fun i H x H' B' hi eb eh hy => ?_⟩
  obtain ⟨T, v1, v2, rfl, hT, rfl, h1, h2⟩ := hy
  cases h1
  obtain ⟨d, g1, g2⟩ := rs.getV h2
  refine ⟨.tup [.int ((0 + i : Nat) : Int), d], _, by rw [enumF_get, g1]; rfl, pair_new eh hT ?_ (g2.mono eb)⟩
  rw [Nat.zero_add]
  exact .int _
theorem zipF_get : ∀ (xs ys : List D) (i : Nat) (x y : D), xs[i]? = some x → ys[i]? = some y → (zipF xs ys)[i]? = some (.tup [x, y])
  | [], _, i, x, y, h, _ => by simp at h
  | _ :: _, [], i, x, y, _, h => by simp at h
  | a :: r, b :: s, 0, x, y, h, h' => by simp at h h'; subst h; subst h'; rfl
  | a :: r, b :: s, i + 1, x, y, h, h' => zipF_get r s i x y (by simpa using h) (by simpa using h')
theorem zipF_len : ∀ (xs ys : List D), (zipF xs ys).length = min xs.length ys.length
  | [], ys => by simp [zipF]
  | _ :: _, [] => by simp [zipF]
  | _ :: r, _ :: s => by
    show (zipF r s).length + 1 = min (r.length + 1) (s.length + 1)
    rw [zipF_len r s]
    omega
theorem goes_zip {a b : Addr} {vs us : List V} {ds es : List D} (rs : Reps Γ.S B vs ds) (rt : Reps Γ.S B us es) : Goes Γ B (fun H => SqL Γ.S.K H a vs ∧ SqL Γ.S.K H b us) (Itz Γ.S.K a b) (zipF ds es) := by
  refine ⟨_, walk_zip (by rw [zipF_len, rs.length, rt.length]), fun i H x H' B' hi eb eh hy => ?_⟩
  obtain ⟨T, v1, v2, rfl, hT, rfl, h1, h2⟩ := hy
  obtain ⟨d, g1, g2⟩ := rs.getV h1
  obtain ⟨d', g3, g4⟩ := rt.getV h2
  exact ⟨_, _, zipF_get _ _ _ _ _ g1 g3, pair_new eh hT (g2.mono eb) (g4.mono eb)⟩
theorem si_enum (Fa : Fac Γ F k) {m : E} {y : Expr} {es : List Expr} {kk : Nat} {tp p pos : Pos} (hg : isGl Γ.sc "enumerate" = true) (hs : noStar y = true) (hm : SO Γ F m y) : SI Γ F .enum (.cons m .nil) (.Tuple es kk tp) (.Call (.Name "enumerate" p) [y] [] pos) := by
  intro σ B H e r R P hr K X
  have hr := one_l hr
  refine ⟨iEnum Γ.S.K (wA Γ [y]), fun X hX => ?_, ?_⟩
  · rw [← hX.K]
    exact pi_enum (isGl_ok hX hg).1 (by rw [hX.mg]; exact Fa.blt _ (.inl (by decide))) (wA_pa hX (by simp [hs])) (by rw [starEach_of hs]; rfl)
  · show W Γ y σ H fun v H1 => ∃ a xs, [v] = [.ref a] ∧ SqL Γ.S.K H1 a xs ∧ R (Ite Γ.S.K a) H1
    refine one_step hm P hr X fun a e1 v B1 H1 hf po ar fr => ?_
    cases hf
    obtain ⟨ds, xs, h1, h2, K⟩ := K _ _ rfl
    obtain ⟨d, rfl, hd⟩ : ∃ d, ds = [d] ∧ deref e1 a = some d := by
      unfold derefs derefs at h1
      cases q : deref e1 a with
      | none => rw [q] at h1; cases h1
      | some d => rw [q] at h1; cases h1; exact ⟨d, rfl, rfl⟩
    have h2 : (seqL d).map (enumF 0) = some xs := h2
    obtain ⟨zs, h3, rfl⟩ := map_some h2
    obtain ⟨pp, vs, rfl, hp, rs, st⟩ := staysL [a] po.pst ar hd h3 fun i h => by subst h; exact List.mem_cons_self ..
    exact ⟨pp, vs, rfl, hp, K _ B1 H1 po ⟨_, goes_enum rs, st⟩⟩
end
end Gal
set_option Elab.async false
set_option linter.all false
set_option maxRecDepth 100000
/-! G28: comprehensions with one for. -/
namespace Gal
open PySem L2 PyProof.Rows PySem.Spec
/-- the kind of a comprehension's block -/
def blkΓ (Γ : Ct) (scope : Scope) : Ct := { Γ with sc := relS scope Γ.sc, W := fun _ _ _ _ => False, xi := none, top := false }
section
variable {Γ : Ct} {F : Callee} {k : Nat} {σ σ1 σ2 σ' : L2.St} {B H B1 H1 B2 H2 B' H' : Hp} {e e1 e2 e' : Env}
theorem blk_cxt {X : Cx} (hX : Cxt Γ X) (scope : Scope) (s : Shared) (H : Hp) (C : Addr) (cl : List (PySem.Str × Addr)) (fp : List Addr) : Cxt (blkΓ Γ scope) (X.blk s H scope (compEnvC scope cl C X.env) fp) := by
  refine ⟨hX.pg, hX.w, hX.K, hX.mg, hX.base, hX.N, ?_, hX.calm, hX.units, ?_, fun h => (by cases h), fun h => (by cases h), hX.nd, fun a cls d h => (by cases h)⟩
  · show relabel scope X.env = relS scope Γ.sc
    rw [← hX.sc]
    rfl
  · intro u s' ⟨_, _, _, _, _, _, _, _, _, _, _, _, _, _, _, _, w⟩
    exact w.elim
/-- the slots of a block's own names are new -/
theorem wipe_get (σ : L2.St) : ∀ (vs : List Nat) (i : Nat), (wipe σ vs)[i]? = if i ∈ vs then (σ[i]?).map fun _ => none else σ[i]?
  | [], i => by simp [wipe]
  | v :: vs, i => by
    unfold wipe
    by_cases h : v = i
    · subst h
      by_cases hl : v < (wipe σ vs).length
      · rw [List.getElem?_set_self hl]
        rw [wipe_length] at hl
        simp [List.getElem?_eq_getElem hl]
      · rw [List.getElem?_eq_none (by simpa using hl)]
        rw [wipe_length] at hl
        simp [List.getElem?_eq_none (Nat.le_of_not_lt hl)]
    · rw [List.getElem?_set_ne h, wipe_get σ vs i]
      have : (i ∈ v :: vs) ↔ i ∈ vs := by simp [Ne.symm h]
      simp [this]
def unE (own : List Nat) (e : Env) : Env := own.foldl (fun e i => e.set i .un) e
theorem unE_len (own : List Nat) : ∀ e : Env, (unE own e).length = e.length := by
  induction own with
  | nil => intro e; rfl
  | cons v vs ih => intro e; show (unE vs (e.set v .un)).length = _; rw [ih, List.length_set]
theorem unE_get (own : List Nat) : ∀ (e : Env) (i : Nat), (unE own e)[i]? = if i ∈ own then (e[i]?).map fun _ => Sl.un else e[i]? := by
  induction own with
  | nil => intro e i; simp [unE]
  | cons v vs ih =>
    intro e i
    show (unE vs (e.set v .un))[i]? = _
    rw [ih]
    by_cases h : v = i
    · subst h
      by_cases hl : v < e.length
      · simp [List.getElem?_set_self hl, List.getElem?_eq_getElem hl]
      · have q : (e.set v Sl.un)[v]? = none := List.getElem?_eq_none (by simpa using Nat.le_of_not_lt hl)
        simp [q, List.getElem?_eq_none (Nat.le_of_not_lt hl)]
    · rw [List.getElem?_set_ne h]
      have : (i ∈ v :: vs) ↔ i ∈ vs := by simp [Ne.symm h]
      simp [this]
theorem wipeE_inv {own : List Nat} (h : wipeE own e = some e') : e' = unE own e ∧ ∀ i ∈ own, e[i]? = some .un ∨ ∃ d, e[i]? = some (.va d) := by
  unfold wipeE at h
  split at h
  · rename_i hc
    cases h
    refine ⟨rfl, fun i hi => ?_⟩
    have := List.all_eq_true.mp hc i hi
    cases q : e[i]? with
    | none => rw [q] at this; cases this
    | some s =>
      rw [q] at this
      cases s with
      | un => exact .inl rfl
      | va d => exact .inr ⟨d, rfl⟩
      | _ => cases this
  · cases h
theorem backE_get (own : List Nat) (e0 : Env) : ∀ (e : Env) (i : Nat), (backE own e0 e)[i]? = if i ∈ own then (e[i]?).map fun _ => e0.getD i .un else e[i]? := by
  induction own with
  | nil => intro e i; simp [backE]
  | cons v vs ih =>
    intro e i
    show (backE vs e0 (e.set v (e0.getD v .un)))[i]? = _
    rw [ih]
    by_cases h : v = i
    · subst h
      by_cases hl : v < e.length
      · simp [List.getElem?_set_self hl, List.getElem?_eq_getElem hl]
      · have q : (e.set v (e0.getD v Sl.un))[v]? = none := List.getElem?_eq_none (by simpa using Nat.le_of_not_lt hl)
        rw [q, List.getElem?_eq_none (Nat.le_of_not_lt hl)]
        simp
    · rw [List.getElem?_set_ne h]
      have : (i ∈ v :: vs) ↔ i ∈ vs := by simp [Ne.symm h]
      simp [this]
theorem backE_len (own : List Nat) (e0 : Env) : ∀ e : Env, (backE own e0 e).length = e.length := by
  induction own with
  | nil => intro e; rfl
  | cons v vs ih => intro e; show (backE vs e0 (e.set v _)).length = _; rw [ih, List.length_set]
theorem backE_self (own : List Nat) (e : Env) : backE own e e = e := by
  apply List.ext_getElem?
  intro i
  rw [backE_get]
  split
  · cases q : e[i]? with
    | none => rfl
    | some s =>
      show some (e.getD i .un) = some s
      rw [List.getD_eq_getElem?_getD, q]
      rfl
  · rfl
/-- such a slot of a block -/
def plainS (e : Env) (own : List Nat) : Prop := ∀ i ∈ own, e[i]? = some .un ∨ ∃ d, e[i]? = some (.va d)
theorem slR_kind {Γ Γ' : Ct} (hS : Γ'.S = Γ.S) (hx : Γ.xi = none) {B H : Hp} {x : Option V} {s : Sl} (h : SlR Γ B H x s) : SlR Γ' B H x s := by
  cases s with
  | ex c fs => obtain ⟨a, cls, d, h1, _⟩ := h; rw [hx] at h1; cases h1
  | un => trivial
  | va d => obtain ⟨v, h1, h2⟩ := h; exact ⟨v, h1, hS ▸ h2⟩
  | fz d => obtain ⟨v, h1, h2, h3⟩ := h; exact ⟨v, h1, hS ▸ h2, h3⟩
  | ow d => obtain ⟨v, h1, h2, h3⟩ := h; exact ⟨v, h1, h2, hS ▸ h3⟩
  | lk d => obtain ⟨v, h1, h2, h3⟩ := h; exact ⟨v, h1, h2, hS ▸ h3⟩
/-- into the block: eb, the slots as they stand outside -/
theorem to_blk {scope : Scope} {own : List Nat} {eb : Env} (hx : Γ.xi = none) (P : Pst Γ σ B H eb) (pl : plainS eb own) (hl : e.length = eb.length) (hs : ∀ i, i ∉ own → e[i]? = eb[i]?) :
    Pst (blkΓ Γ scope) (wipe σ own) B H (unE own e) ∧ ∀ j p, OwnAt (wipe σ own) (unE own e) j p ↔ OwnAt σ eb j p := by
  have ow : ∀ j p, OwnAt (wipe σ own) (unE own e) j p ↔ OwnAt σ eb j p := by
    intro j p
    unfold OwnAt
    rw [unE_get, wipe_get]
    by_cases h : j ∈ own
    · rw [if_pos h, if_pos h]
      constructor
      · rintro ⟨⟨d, hd⟩, _⟩
        cases q : e[j]? with
        | none => rw [q] at hd; rcases hd with hd | hd <;> cases hd
        | some s => rw [q] at hd; rcases hd with hd | hd <;> cases hd
      · rintro ⟨⟨d, hd⟩, _⟩
        rcases pl j h with z | ⟨d', z⟩ <;> (rw [z] at hd; rcases hd with hd | hd <;> cases hd)
    · rw [if_neg h, if_neg h, hs j h]
  refine ⟨⟨?_, P.ext, fun i s hi => ?_, fun i j p o1 o2 => P.dj i j p ((ow i p).mp o1) ((ow j p).mp o2)⟩, ow⟩
  · rw [unE_len, wipe_length, hl, P.len]
  · rw [unE_get] at hi
    rw [wipe_get]
    by_cases h : i ∈ own
    · rw [if_pos h] at hi
      cases q : e[i]? with
      | none => rw [q] at hi; cases hi
      | some t => rw [q] at hi; cases hi; trivial
    · rw [if_neg h, hs i h] at hi
      rw [if_neg h]
      exact slR_kind (Γ := Γ) (Γ' := blkΓ Γ scope) rfl hx (P.sl i s hi)
/-- .. and out of it -/
theorem from_blk {scope : Scope} {own : List Nat} {eb eh : Env} (hx : Γ.xi = none) (P : Pst Γ σ B H eb) (pl : plainS eb own) (hl : e.length = eb.length) (hs : ∀ i, i ∉ own → e[i]? = eb[i]?) (hb : ∀ i ∈ own, eb[i]? = eh[i]?)
    (ps : Ps (blkΓ Γ scope) (wipe σ own) B H (unE own e) σ2 B' H' e') (out : ∀ i, i ∉ own → σ2[i]? = (wipe σ own)[i]?) (st : ∀ p, Own σ2 e' p → Own (wipe σ own) (unE own e) p) : Ps Γ σ B H eb σ B' H' (backE own eh e') ∧ ∀ p, Own σ (backE own eh e') p → Own σ eb p := by
  obtain ⟨P0, ow⟩ := to_blk (scope := scope) (e := e) hx P pl hl hs
  have len' : e'.length = σ.length := by rw [ps.pst.len, ps.ln, wipe_length]
  have σo : ∀ {i}, i ∉ own → σ2[i]? = σ[i]? := fun {i} h => by rw [out i h, wipe_get, if_neg h]
  have un : ∀ {i}, i ∉ own → (unE own e)[i]? = eb[i]? := fun {i} h => by rw [unE_get, if_neg h, hs i h]
  have bk : ∀ {i}, i ∉ own → (backE own eh e')[i]? = e'[i]? := fun {i} h => by rw [backE_get, if_neg h]
  have bo : ∀ {i}, i ∈ own → (backE own eh e')[i]? = eb[i]? := fun {i} h => by
    rw [backE_get, if_pos h]
    have : i < e'.length := by
      rw [len', ← P.len]
      rcases pl i h with z | ⟨d, z⟩ <;> exact (List.getElem?_eq_some_iff.mp z).1
    rw [List.getElem?_eq_getElem this]
    show some (eh.getD i .un) = _
    rw [List.getD_eq_getElem?_getD, ← hb i h]
    rcases pl i h with z | ⟨d, z⟩ <;> (rw [z]; rfl)
  have own' : ∀ {j p}, OwnAt σ (backE own eh e') j p → OwnAt σ2 e' j p := by
    intro j p ⟨⟨d, hd⟩, h2⟩
    by_cases h : j ∈ own
    · rw [bo h] at hd
      rcases pl j h with z | ⟨d', z⟩ <;> (rw [z] at hd; rcases hd with hd | hd <;> cases hd)
    · rw [bk h] at hd
      exact ⟨⟨d, hd⟩, (σo h).trans h2⟩
  refine ⟨?_, fun p ⟨j, o⟩ => let ⟨j', z⟩ := st p ⟨j, own' o⟩; ⟨j', (ow j' p).mp z⟩⟩
  refine ⟨⟨by rw [backE_len, len'], ps.pst.ext, fun i s hi => ?_, fun i j p o1 o2 => ps.pst.dj i j p (own' o1) (own' o2)⟩, ⟨ps.stp.b, fun a o nT h => ps.stp.k a o (fun ⟨j, z⟩ => nT ⟨j, (ow j a).mp z⟩) h, fun a o h => ?_, ps.stp.a⟩, fun p ⟨j, o⟩ => ?_, fun i hi ho => ?_, fun i d hd => ?_, fun i d p o h1 h2 h3 => ?_, rfl⟩
  · by_cases h : i ∈ own
    · rw [bo h] at hi
      have z := P.sl i s hi
      rcases pl i h with q | ⟨d, q⟩
      · rw [q] at hi; cases hi; trivial
      · rw [q] at hi; cases hi
        obtain ⟨v, z1, z2⟩ := z
        exact ⟨v, z1, z2.mono ps.stp.b⟩
    · rw [bk h] at hi
      have z := ps.pst.sl i s hi
      rw [σo h] at z
      exact slR_kind (Γ := blkΓ Γ scope) (Γ' := Γ) rfl rfl z
  · rcases ps.stp.n a o h with z | z | ⟨j, z⟩
    · exact .inl z
    · exact .inr (.inl z)
    · exact .inr (.inr ⟨j, (ow j a).mp z⟩)
  · rcases ps.own p ⟨j, own' o⟩ with ⟨j', z⟩ | z
    · exact .inl ⟨j', (ow j' p).mp z⟩
    · exact .inr z
  · refine ⟨?_, rfl⟩
    by_cases h : i ∈ own
    · exfalso
      rcases pl i h with q | ⟨d, q⟩ <;> (rw [q] at ho; exact ho)
    · rw [bk h]
      exact (ps.kp i hi (by rw [un h]; exact ho)).1
  · refine ⟨?_, rfl⟩
    by_cases h : i ∈ own
    · exfalso
      rcases pl i h with q | ⟨d', q⟩ <;> (rw [q] at hd; cases hd)
    · rw [bk h]
      exact (ps.lk i d (by rw [un h]; exact hd)).1
  · by_cases h : i ∈ own
    · exfalso
      rcases pl i h with q | ⟨d', q⟩ <;> (rw [q] at h1; cases h1)
    · exact ps.lh i d p o (by rw [un h]; exact h1) (by rw [wipe_get, if_neg h]; exact h2) h3
end
end Gal
set_option Elab.async false
set_option linter.all false
set_option maxRecDepth 100000
/-! G29: comprehensions with one for. -/
namespace Gal
open PySem L2 PyProof.Rows PySem.Spec
section
variable {Γ : Ct} {F : Callee} {k : Nat} {σ σ1 σ2 σ' : L2.St} {B H B1 H1 B2 H2 B' H' : Hp} {e e1 e2 e' : Env}
/-- a new object of ours beside is written -/
theorem tmp_write {D : Addr} {o : HO} (ps : Ps Γ σ B1 H1 e1 σ' B H e) (h1 : H1 D = none) (hb : B D = none) (no : ¬ Own σ' e D) : Ps Γ σ B1 H1 e1 σ' B (upd H D o) e := by
  refine ⟨⟨ps.pst.len, fun a u h => ?_, fun i s hs => ?_, ps.pst.dj⟩, ⟨ps.stp.b, fun a u nT h => ?_, ps.stp.n, fun a u h => ?_⟩, ps.own, ps.kp, ps.lk, fun i d p u h2 h3 h4 => ?_, ps.ln⟩
  · rw [upd_ne (ne_of_none h hb)]; exact ps.pst.ext a u h
  · refine SlR.mono (Ex.refl B) (fun a u h => ?_) (fun p u hd hx hu => ?_) (fun _ _ _ h => h) (ps.pst.sl i s hs)
    · rw [upd_ne (ne_of_none h hb)]; exact ps.pst.ext a u h
    · have : p ≠ D := by
        rintro rfl
        obtain ⟨d, hd⟩ := hd
        refine no ⟨i, ⟨d, ?_⟩, slot_join hx⟩
        rcases hd with hd | hd
        · rw [hd] at hs; exact .inl hs
        · rw [hd] at hs; exact .inr hs
      rw [upd_ne this]; exact hu
  · rw [upd_ne (ne_of_none h h1)]; exact ps.stp.k a u nT h
  · by_cases q : a = D
    · subst q; exact ⟨_, upd_same⟩
    · obtain ⟨v, hv⟩ := ps.stp.a a u h
      exact ⟨v, by rw [upd_ne q]; exact hv⟩
  · rw [upd_ne (ne_of_none h4 h1)]; exact ps.lh i d p u h2 h3 h4
def ttOf (Γ : Ct) : List Expr → TT
  | [] => tYes
  | [c] => WT Γ c
  | _ => fun _ _ _ => False
theorem ttOf_pts {X : Cx} (hX : Cxt Γ X) {ifs : List Expr} (h : ifs.length ≤ 1) : PTs X ifs (ttOf Γ ifs) := by
  match ifs, h with
  | [], _ => exact pts_nil
  | [c], _ => exact pts_one (WT_pt hX)
  | _ :: _ :: _, h => simp at h
def SC (Γ : Ct) (F : Callee) (c : E) (ifs : List Expr) : Prop := ifs.length ≤ 1 ∧ ∀ σ B H e r Q, Pst Γ σ B H e → (evG Γ F c).t e = some r → KT Γ σ B H e r Q → KX Γ σ B H e r → ttOf Γ ifs σ H Q
theorem sc_nil : SC Γ F .nil [] := ⟨Nat.zero_le _, fun σ B H e r Q P hr K X => by cases hr; exact K true e rfl B H (Po.refl P)⟩
theorem sc_one {c : E} {x : Expr} (h : ST Γ F c x) : SC Γ F c [x] := ⟨Nat.le_refl _, fun σ B H e r Q P hr K X => h σ B H e r Q P hr K X⟩
theorem names_pgB {X : Cx} {sc0 : Scope} (hN : X.N = Γ.N) (nd : Γ.N.Nodup) (hL : ∀ id, isLoc sc0 id = true → Loc X.env.scope id ∧ (X.fn id = true ∨ X.env.scope.names.lookup id = some .local)) : ∀ {is : List Nat} {es : List Expr}, ckNames Γ.N sc0 is es = true → PGs X es (gNames is) ∧ (assignEach es X.env).length = is.length ∧ (assignEach es X.env).findIdx? (·.1) = none
  | [], [], _ => ⟨pgs_nil, rfl, rfl⟩
  | i :: is, .Name id p :: es, h => by
    have h : (decide (Γ.N[i]? = some id) && isLoc sc0 id && ckNames Γ.N sc0 is es) = true := h
    obtain ⟨h, h3⟩ := and2 h
    obtain ⟨h1, h2⟩ := and2 h
    obtain ⟨i1, i2, i3⟩ := names_pgB hN nd hL h3
    obtain ⟨l1, l2⟩ := hL id h2
    refine ⟨pgs_cons (pg_name (by rw [hN]; exact nd) (by rw [hN]; exact of_decide_eq_true h1) l1 l2) i1 rfl, ?_, ?_⟩
    · show (assignEach es X.env).length + 1 = _
      rw [i2]; rfl
    · show ((false, assign (.Name id p) X.env) :: assignEach es X.env).findIdx? (·.1) = none
      rw [List.findIdx?_cons, i3]
      rfl
theorem tg_blk {X : Cx} (hX : Cxt Γ X) (hh : Γ.hot = false) {scope : Scope} {t : Tg} {tg : Expr} (h : ckT Γ.N scope t tg = true) (s : Shared) (H : Hp) (C : Addr) (cl : List (PySem.Str × Addr)) (fp : List Addr) : PG (X.blk s H scope (compEnvC scope cl C X.env) fp) tg (gT Γ t) := by
  have hL : ∀ id, isLoc scope id = true → Loc (X.blk s H scope (compEnvC scope cl C X.env) fp).env.scope id ∧ ((X.blk s H scope (compEnvC scope cl C X.env) fp).fn id = true ∨ (X.blk s H scope (compEnvC scope cl C X.env) fp).env.scope.names.lookup id = some .local) := by
    intro id hl
    unfold isLoc at hl
    simp only [Bool.or_eq_true, decide_eq_true_eq] at hl
    rcases hl with hl | hl
    · have z : (relS scope X.env.scope).names.lookup id = some .local := lookup_relS_keep (by decide) hl
      exact ⟨.inl z, .inr z⟩
    · have z : (relS scope X.env.scope).names.lookup id = some .cell := lookup_relS_keep (by decide) hl
      exact ⟨.inr z, .inl (by show (scope.names.lookup id == some .cell) = true; rw [hl]; rfl)⟩
  cases t with
  | nm i =>
    cases tg with
    | Name id p =>
      obtain ⟨h1, h2⟩ := and2 h
      obtain ⟨l1, l2⟩ := hL id h2
      exact pg_name (by show X.N.Nodup; rw [hX.N]; exact hX.nd) (by show X.N[i]? = _; rw [hX.N]; exact of_decide_eq_true h1) l1 l2
    | _ => cases h
  | tp is =>
    cases tg with
    | Tuple es kk p =>
      obtain ⟨n1, n2, n3⟩ := names_pgB (Γ := Γ) (X := X.blk s H scope (compEnvC scope cl C X.env) fp) hX.N hX.nd hL h
      show PG _ _ (gTup Γ.S.K is.length (gNames is))
      rw [← hX.K]
      exact pg_tup (X := X.blk s H scope (compEnvC scope cl C X.env) fp) (hX.calm hh).1 n1 n2 n3
    | _ => cases h
theorem put_ok2 {t : Tg} {d : D} {v : V} {σ0 : L2.St} {B0 H0 : Hp} {e0 : Env} {Q : L2.St → Hp → Prop} (ps : Ps Γ σ0 B0 H0 e0 σ B H e) (r : Rep Γ.S B v d) (h : putT Γ.np t d e = some e')
    (K : ∀ σ', Ps Γ σ0 B0 H0 e0 σ' B H e' → (∀ p, Own σ' e' p → Own σ e p) → (∀ j, j ∉ tgS t → σ'[j]? = σ[j]?) → Q σ' H) : gT Γ t v σ H Q := by
  cases t with
  | nm i =>
    have := names_ok (Q := Q) ps (Reps.cons r .nil) h fun σ' p l o => K σ' p l o
    obtain ⟨v', r', e1, q1, q2⟩ := this
    cases e1
    exact q2
  | tp is =>
    cases d with
    | tup ds =>
      cases r with
      | tup hp rs => exact ⟨_, _, rfl, sqT_of (ps.pst.ext _ _ hp), by rw [rs.length]; exact putTs_len h, names_ok ps rs h fun σ' p l o => K σ' p l o⟩
    | _ => cases h
/-- a turn of the pure run -/
theorem lcT_inv {own : List Nat} {t : Tg} {mc : M Bool} {me : M Ar} {x : D} {np : Nat} {r : R (Option D)} (h : lcT np own t mc me x e = some r) : ∃ e0 e1, wipeE own e = some e0 ∧ putT np t x e0 = some e1 ∧
    ((∃ e2 a e3 w d e4, mc e1 = some (.ok true e2) ∧ me e2 = some (.ok a e3) ∧ settle np a e3 = some (.ok (w, d) e4) ∧ r = .ok (some d) e4) ∨ ∃ e2, mc e1 = some (.ok false e2) ∧ r = .ok none e2) := by
  unfold lcT at h
  cases q0 : wipeE own e with
  | none => simp only [q0] at h; cases h
  | some e0 =>
    simp only [q0] at h
    cases q1 : putT np t x e0 with
    | none => simp only [q1] at h; cases h
    | some e1 =>
      refine ⟨e0, e1, rfl, q1, ?_⟩
      simp only [q1] at h
      cases q2 : mc e1 with
      | none => simp only [q2] at h; cases h
      | some r2 =>
        cases r2 with
        | ex c fs e2 => simp only [q2] at h; cases h
        | ok b e2 =>
          cases b with
          | false => simp only [q2] at h; cases h; exact .inr ⟨e2, rfl, rfl⟩
          | true =>
            simp only [q2] at h
            cases q3 : me e2 with
            | none => simp only [q3] at h; cases h
            | some r3 =>
              cases r3 with
              | ex c fs e3 => simp only [q3] at h; cases h
              | ok a e3 =>
                simp only [q3] at h
                cases q4 : settle np a e3 with
                | none => simp only [q4] at h; cases h
                | some r4 =>
                  cases r4 with
                  | ex c fs e4 => simp only [q4] at h; cases h
                  | ok y e4 =>
                    obtain ⟨w, d⟩ := y
                    simp only [q4] at h
                    cases h
                    exact .inl ⟨e2, a, e3, w, d, e4, rfl, q3, q4, rfl⟩
theorem lcL_len {body : D → M (Option D)} : ∀ {xs acc : List D} {e e' : Env} {z : List D}, lcL body xs acc e = some (.ok z e') → acc.length ≤ z.length
  | [], acc, e, e', z, h => by cases h; simp
  | x :: r, acc, e, e', z, h => by
    unfold lcL at h
    cases q : body x e with
    | none => simp only [q] at h; cases h
    | some y =>
      cases y with
      | ex c fs e1 => simp only [q] at h; cases h
      | ok o e1 =>
        cases o with
        | none => simp only [q] at h; exact lcL_len h
        | some d =>
          simp only [q] at h
          have := lcL_len h
          simp at this
          omega
theorem lcL_ex {body : D → M (Option D)} : ∀ {xs acc : List D} {e e' : Env} {c : Nat} {fs : List (Nat × D)}, lcL body xs acc e ≠ some (.ex c fs e')
  | [], acc, e, e', c, fs, h => by cases h
  | x :: r, acc, e, e', c, fs, h => by
    unfold lcL at h
    cases q : body x e with
    | none => simp only [q] at h; cases h
    | some y =>
      cases y with
      | ex c fs e1 => simp only [q] at h; cases h
      | ok o e1 =>
        cases o with
        | none => simp only [q] at h; exact lcL_ex h
        | some d => simp only [q] at h; exact lcL_ex h
theorem ps_po (ps : Ps Γ σ B H e σ B' H' e') (own : ∀ p, Own σ e' p → Own σ e p) : Po Γ σ noT B H e B' H' e' := by
  refine ⟨ps.pst, ⟨ps.stp.b, fun p o q => ps.stp.k p o fun z => q (.inl z), fun p o q => ?_, ps.stp.a⟩, own, fun i hi q => (ps.kp i hi q).1, fun i d q => (ps.lk i d q).1, ps.lh⟩
  rcases ps.stp.n p o q with z | z | z
  · exact .inl z
  · exact .inr (.inl z)
  · exact .inr (.inr (.inl z))
end
end Gal
set_option Elab.async false
set_option linter.all false
set_option maxRecDepth 100000
/-! G30: a comprehension with one for runs as the small one. -/
namespace Gal
open PySem L2 PyProof.Rows PySem.Spec
section
variable {Γ : Ct} {F : Callee} {k : Nat}
def ownp (N : List PySem.Str) (own : List Nat) : List (PySem.Str × Nat) := own.map fun i => (N.getD i Str.empty, i)
theorem ownp_map (N : List PySem.Str) (own : List Nat) : (ownp N own).map (·.2) = own := by
  unfold ownp
  rw [List.map_map]
  show own.map (fun i => i) = own
  simp
/-- what stays true from turn to turn: D the new list -/
structure LcI (Γ : Ct) (σ0 : L2.St) (B1 H1 : Hp) (eh : Env) (own : List Nat) (body : D → M (Option D)) (xs zf : List D) (ef : Env) (L : Addr) (i : Nat) (H : Hp) (B : Hp) (e : Env) (acc : List V) (zs : List D) : Prop where
  ps : Ps Γ σ0 B1 H1 eh σ0 B H (backE own eh e)
  st : ∀ p, Own σ0 (backE own eh e) p → Own σ0 eh p
  hl : H L = some (.lst acc)
  bl : B L = none
  no : ¬ Own σ0 (backE own eh e) L
  rs : Reps Γ.S B acc zs
  pl : e = eh ∨ plainS eh own
  ln : e.length = eh.length
  run : lcL body (xs.drop i) zs.reverse e = some (.ok zf ef)
theorem lc_run {own : List Nat} {t : Tg} {w : Io} {src c m : E} {elt tg iter : Expr} {ifs : List Expr} {scope : Scope} (hh : Γ.hot = false) (hx : Γ.xi = none) (hown : ∀ i, i ∈ tgS t → i ∈ own) (hblk : blkC Γ.N Γ.sc scope (ownp Γ.N own) = true) (hcT : ckT Γ.N scope t tg = true)
    (hi : SI Γ F w src tg iter) (hc : SC (blkΓ Γ scope) F c ifs) (hm : SO (blkΓ Γ scope) F m elt) : ∀ σ0 B0 H0 e0 r Q, Pst Γ σ0 B0 H0 e0 → (evG Γ F (.lc own t w src c m)).o e0 = some r → KO Γ σ0 B0 H0 e0 r Q → KX Γ σ0 B0 H0 e0 r → tLc (WI Γ tg iter) (gT Γ t) (ttOf (blkΓ Γ scope) ifs) (W (blkΓ Γ scope) elt) own σ0 H0 Q := by
  intro σ0 B0 H0 e0 r Q P hr K X
  have hr : cold Γ.hot (lcM Γ.np own t w (evG Γ F src).l (evG Γ F c).t (evG Γ F m).o) e0 = some r := hr
  rw [hh] at hr
  have hr : lcM Γ.np own t w (evG Γ F src).l (evG Γ F c).t (evG Γ F m).o e0 = some r := hr
  unfold lcM at hr
  rcases bind_inv hr with ⟨as, e1, q1, q2⟩ | ⟨c', fs, e1, q1, q2⟩
  · refine hi σ0 B0 H0 e0 _ _ P q1 (fun as' e1' he => ?_) okX
    cases he
    cases qw : walkM w as e1 with
    | none => simp only [qw] at q2; cases q2
    | some rw' =>
      obtain ⟨ds, xs, d1, d2, d3⟩ := walkM_inv qw
      subst d3
      simp only [qw] at q2
      cases ql : lcL (lcT Γ.np own t (evG Γ F c).t (evG Γ F m).o) xs [] (hold as e1) with
      | none => simp only [ql] at q2; cases q2
      | some rl =>
        cases rl with
        | ex c' fs e3 => exact (lcL_ex ql).elim
        | ok zf ef =>
          simp only [ql] at q2
          split at q2
          · rename_i hlim
            cases q2
            refine ⟨ds, xs, d1, d2, fun J B1 H1 po src L hL => ?_⟩
            obtain ⟨G, ⟨Y, wk, gy⟩, gst⟩ := src
            have h0 := hold_ps as po.pst
            have ln0 : (hold as e1).length = σ0.length := h0.pst.len
            -- the new list stands beside
            have bL : B1 L = none := b_none po.pst.ext hL
            have nL : ¬ Own σ0 (hold as e1) L := fun z => by obtain ⟨u, hu⟩ := h0.pst.own_some z; rw [hL] at hu; cases hu
            refine lc_it wk (fun i H => ∃ B e acc zs, LcI Γ σ0 B1 H1 (hold as e1) own (lcT Γ.np own t (evG Γ F c).t (evG Γ F m).o) xs zf ef L i H B e acc zs) ⟨B1, hold as e1, [], [], ?_⟩ (fun i H _ ⟨B, e, acc, zs, v⟩ => gst σ0 B H _ v.ps) (fun i x H H' hi' ⟨B, e, acc, zs, v⟩ hy => ?_) fun H ⟨B, e, acc, zs, v⟩ => ?_
            · refine ⟨?_, ?_, upd_same, bL, ?_, .nil, .inl rfl, rfl, by simpa using ql⟩
              · rw [backE_self]; exact tmp_write (Ps.refl h0.pst) hL bL nL
              · rw [backE_self]; exact fun _ h => h
              · rw [backE_self]; exact nL
            · obtain ⟨d, B2, g1, g2⟩ := gy i H x H' B hi' v.ps.stp.b v.ps.pst.ext hy
              have gd : xs[i] = d := by rw [List.getElem?_eq_getElem hi'] at g1; exact Option.some.inj g1
              have run := v.run
              rw [List.drop_eq_getElem_cons hi', gd] at run
              unfold lcL at run
              cases qt : lcT Γ.np own t (evG Γ F c).t (evG Γ F m).o d e with
              | none => simp only [qt] at run; cases run
              | some rt =>
                simp only [qt] at run
                obtain ⟨e0', e1', w1, w2, w3⟩ := lcT_inv qt
                obtain ⟨rfl, ple⟩ := wipeE_inv w1
                have pleh : plainS (hold as e1) own := by
                  rcases v.pl with h | h
                  · rw [← h]; exact ple
                  · exact h
                have ebo : ∀ j ∈ own, (backE own (hold as e1) e)[j]? = (hold as e1)[j]? := fun j hj => by
                  rw [backE_get, if_pos hj]
                  have : j < e.length := by
                    rw [v.ln]
                    rcases pleh j hj with z | ⟨d', z⟩ <;> exact (List.getElem?_eq_some_iff.mp z).1
                  rw [List.getElem?_eq_getElem this]
                  show some ((hold as e1).getD j .un) = _
                  rw [List.getD_eq_getElem?_getD]
                  rcases pleh j hj with z | ⟨d', z⟩ <;> (rw [z]; rfl)
                have plb : plainS (backE own (hold as e1) e) own := fun j hj => by rw [ebo j hj]; exact pleh j hj
                have lnb : e.length = (backE own (hold as e1) e).length := (backE_len _ _ _).symm
                have osb : ∀ j, j ∉ own → e[j]? = (backE own (hold as e1) e)[j]? := fun j hj => by rw [backE_get, if_neg hj]
                obtain ⟨P0, ow⟩ := to_blk (scope := scope) hx v.ps.pst plb lnb osb
                obtain ⟨po2, ar2, _⟩ := new_po P0 g2
                have fin : ∀ {σ2 B5 H4 e4}, Ps (blkΓ Γ scope) (wipe σ0 own) B H (unE own e) σ2 B5 H4 e4 → (∀ p, Own σ2 e4 p → Own (wipe σ0 own) (unE own e) p) → (∀ j, j ∉ tgS t → σ2[j]? = (wipe σ0 own)[j]?) →
                    Ps Γ σ0 B1 H1 (hold as e1) σ0 B5 H4 (backE own (hold as e1) e4) ∧ (∀ p, Own σ0 (backE own (hold as e1) e4) p → Own σ0 (hold as e1) p) ∧ H4 L = some (.lst acc) ∧ B5 L = none ∧ ¬ Own σ0 (backE own (hold as e1) e4) L ∧ e4.length = (hold as e1).length := by
                  intro σ2 B5 H4 e4 p5 st5 out
                  obtain ⟨f1, f2⟩ := from_blk (scope := scope) (eh := hold as e1) hx v.ps.pst plb lnb osb ebo p5 (fun j hj => out j fun z => hj (hown j z)) st5
                  refine ⟨v.ps.trans f1, fun p z => v.st p (f2 p z), f1.stp.k _ _ v.no v.hl, ?_, fun z => v.no (f2 L z), ?_⟩
                  · cases z : B5 L with
                    | none => rfl
                    | some u =>
                      rcases f1.stp.n L u z with y | y | y
                      · rw [v.bl] at y; cases y
                      · rw [v.hl] at y; cases y
                      · exact absurd y v.no
                  · rw [p5.pst.len, p5.ln, wipe_length, ln0]
                refine put_ok2 (Γ := blkΓ Γ scope) po2.ps ar2 w2 fun σ2 ps2 st2 out2 => ⟨?_, ?_⟩
                · apply List.ext_getElem?
                  intro j
                  rw [wipe_get, wipe_get]
                  have l2 : σ2.length = σ0.length := by rw [ps2.ln, wipe_length]
                  by_cases hj : j ∈ own
                  · rw [if_pos hj, if_pos hj]
                    by_cases hlt : j < σ0.length
                    · rw [List.getElem?_eq_getElem hlt, List.getElem?_eq_getElem (by omega)]; rfl
                    · rw [List.getElem?_eq_none (by omega), List.getElem?_eq_none (by omega)]
                  · rw [if_neg hj, if_neg hj, out2 j fun z => hj (hown j z), wipe_get, if_neg hj]
                · rcases w3 with ⟨e2, a, e3, w', d', e4, m1, m2, m3, rfl⟩ | ⟨e2, m1, rfl⟩
                  · refine hc.2 σ2 B2 H' e1' _ _ ps2.pst m1 (fun b' e' he B3 H3 po3 => ?_) okX
                    cases he
                    refine hm σ2 B3 H3 e2 _ _ po3.pst m2 (fun a' e' he u B4 H4 po4 ar4 fr4 => ?_) okX
                    cases he
                    obtain ⟨B5, po5, rp⟩ := settle_ok po4.pst ar4 m3
                    have po345 := (po3.then po4).trans po5 fun q tq => .inr (po3.stp.fresh (fr4 q tq))
                    obtain ⟨f1, f2, f3, f4, f5, f6⟩ := fin (ps2.trans po345.ps) (fun p z => st2 p (po345.own p z)) out2
                    have run : lcL (lcT Γ.np own t (evG Γ F c).t (evG Γ F m).o) (xs.drop (i + 1)) (d' :: zs.reverse) e4 = some (.ok zf ef) := run
                    have hz := lcL_len run
                    refine ⟨acc, f3, ?_, B5, e4, acc ++ [u], zs ++ [d'], ?_⟩
                    · rw [v.rs.length, lim_eq]
                      simp at hz
                      omega
                    · refine ⟨tmp_write f1 hL f4 f5, f2, upd_same, f4, f5, (v.rs.mono ((ps2.trans po345.ps).stp.b)).append (.cons rp .nil), .inr pleh, f6, by rw [List.reverse_append]; exact run⟩
                  · refine hc.2 σ2 B2 H' e1' _ _ ps2.pst m1 (fun b' e' he B3 H3 po3 => ?_) okX
                    cases he
                    obtain ⟨f1, f2, f3, f4, f5, f6⟩ := fin (ps2.trans po3.ps) (fun p z => st2 p (po3.own p z)) out2
                    exact ⟨B3, e2, acc, zs, f1, f2, f3, f4, f5, v.rs.mono ((ps2.trans po3.ps).stp.b), .inr pleh, f6, run⟩
            · have run := v.run
              rw [List.drop_length] at run
              have e4 : zs = zf ∧ e = ef := by
                unfold lcL at run
                rw [List.reverse_reverse] at run
                cases run
                exact ⟨rfl, rfl⟩
              obtain ⟨rfl, rfl⟩ := e4
              have u := unhold_ps v.ps po.pst
              have uo : ∀ p, Own σ0 (unhold e1 as (backE own (hold as e1) e)) p → Own σ0 e1 p := fun p ⟨j, o⟩ => by
                obtain ⟨j', z⟩ := v.st p ⟨j, unhold_own v.ps o⟩
                exact ⟨j', hold_own.mp z⟩
              refine K _ _ rfl (.ref L) B H (po.then (ps_po u uo)) ⟨L, rfl, v.bl, .lst v.hl v.rs, fun ⟨j, o⟩ => v.no ⟨j, unhold_own v.ps o⟩⟩ fun q tq => ?_
              have : V.ref L = .ref q := tq
              cases this
              exact po.stp.fresh hL
          · cases q2
  · subst q2
    exact hi σ0 B0 H0 e0 _ _ P q1 (fun as' e1' he => by cases he) (X.to (exR rfl))
theorem lc_pe {X : Cx} (hX : Cxt Γ X) {own : List Nat} {t : Tg} {elt tg iter : Expr} {ifs : List Expr} {scope : Scope} {pos : Pos} (hh : Γ.hot = false) (hblk : blkC Γ.N Γ.sc scope (ownp Γ.N own) = true) (hcT : ckT Γ.N scope t tg = true) (hl : ifs.length ≤ 1) (hfs : ∀ env x, foldedSetIterable iter env x = pure x) :
    PE X (.ListComp elt [⟨tg, iter, ifs, 0⟩] scope pos) (tLc (WI Γ tg iter) (gT Γ t) (ttOf (blkΓ Γ scope) ifs) (W (blkΓ Γ scope) elt) own) := by
  have := pe_lc (X := X) (elt := elt) (pos := pos) (hX.calm hh).1 (by rw [hX.N]; exact hX.nd) (WI_pi (tg := tg) (iter := iter) hX) (own := ownp Γ.N own) (by rw [hX.N, hX.sc]; exact blkOk_by hblk) (fun s H C cl fp => tg_blk hX hh hcT s H C cl fp) (fun s H C cl fp => ttOf_pts (blk_cxt hX scope s H C cl fp) hl) (fun s H C cl fp => W_pe (x := elt) (blk_cxt hX scope s H C cl fp)) (hfs X.env)
  rw [ownp_map] at this
  exact this
theorem so_lc {own : List Nat} {t : Tg} {w : Io} {src c m : E} {elt tg iter : Expr} {ifs : List Expr} {scope : Scope} {pos : Pos} (hh : Γ.hot = false) (hx : Γ.xi = none) (hown : ∀ i, i ∈ tgS t → i ∈ own) (hblk : blkC Γ.N Γ.sc scope (ownp Γ.N own) = true) (hcT : ckT Γ.N scope t tg = true)
    (hi : SI Γ F w src tg iter) (hc : SC (blkΓ Γ scope) F c ifs) (hm : SO (blkΓ Γ scope) F m elt) (hfs : ∀ env x, foldedSetIterable iter env x = pure x) : SO Γ F (.lc own t w src c m) (.ListComp elt [⟨tg, iter, ifs, 0⟩] scope pos) := by
  intro σ0 B0 H0 e0 r Q P hr K X
  exact ⟨_, fun X hX => lc_pe hX hh hblk hcT hc.1 hfs, lc_run hh hx hown hblk hcT hi hc hm σ0 B0 H0 e0 r Q P hr K X⟩
/-- name = [..], the name a plain local, on one line -/
theorem ss_asgC {n i : Nat} {own : List Nat} {t : Tg} {w : Io} {src c m : E} {elt tg iter : Expr} {ifs : List Expr} {scope : Scope} {pos py spos : Pos} {y : PySem.Str} (hh : Γ.hot = false) (hx : Γ.xi = none) (hown : ∀ i, i ∈ tgS t → i ∈ own) (hblk : blkC Γ.N Γ.sc scope (ownp Γ.N own) = true) (hcT : ckT Γ.N scope t tg = true)
    (hi : SI Γ F w src tg iter) (hc : SC (blkΓ Γ scope) F c ifs) (hm : SO (blkΓ Γ scope) F m elt) (hfs : ∀ env x, foldedSetIterable iter env x = pure x)
    (hN : Γ.N[i]? = some y) (hyl : Γ.sc.names.lookup y = some .local) (hk : Γ.sc.kind = .function) (hline : (py.line == pos.line) = true) (ha : (scope.names.any fun (n, k) => n == y && (k == .local || k == .cell)) = false) :
    SS Γ F n (.asgC i (.lc own t w src c m)) (.Assign [.Name y py] (.ListComp elt [⟨tg, iter, ifs, 0⟩] scope pos) spos) := by
  intro σ B H e o D P hr K
  have hr : okN ((evG Γ F (.lc own t w src c m)).o e) (fun a e1 => match a with
    | .v o d => (putA Γ.np i o d e1).map .nx
    | _ => none) = some o := hr
  refine ⟨tAsg (tLc (WI Γ tg iter) (gT Γ t) (ttOf (blkΓ Γ scope) ifs) (W (blkΓ Γ scope) elt) own) (gName i), fun X hX => ?_, ?_⟩
  · have := ps_setLc (X := X) (elt := elt) (pos := pos) (spos := spos) (py := py) (hX.calm hh).1 (by rw [hX.N]; exact hX.nd) (by rw [hX.N]; exact hN) (by rw [hX.sc]; exact hyl) (sw_true (by rw [hX.sc]; exact hk) (by rw [hX.sc]; exact hyl) hline ha) (WI_pi (tg := tg) (iter := iter) hX) (own := ownp Γ.N own) (by rw [hX.N, hX.sc]; exact blkOk_by hblk) (fun s H C cl fp => tg_blk hX hh hcT s H C cl fp) (fun s H C cl fp => ttOf_pts (blk_cxt hX scope s H C cl fp) hc.1) (fun s H C cl fp => W_pe (x := elt) (blk_cxt hX scope s H C cl fp)) (hfs X.env)
    rw [ownp_map] at this
    exact this
  · unfold okN at hr
    cases q : (evG Γ F (.lc own t w src c m)).o e with
    | none => rw [q] at hr; cases hr
    | some r =>
      rw [q] at hr
      refine lc_run hh hx hown hblk hcT hi hc hm σ B H e r (fun x H1 => D.nx (σ.set i (some x)) H1) P q (fun a e1 he v B1 H1 po ar fr => ?_) ?_
      · subst he
        cases a with
        | v w' d =>
          obtain ⟨e', h1, rfl⟩ := map_nx hr
          exact K _ _ _ (store_ps po ar fr h1)
        | r j => cases hr
      · cases r with
        | ok a e1 => exact okX
        | ex c' fs e1 => cases hr; exact fun c'' fs' e' he cls dd B1 H1 po x => by cases he; exact K cls dd σ B1 H1 po.ps x
end
end Gal
set_option Elab.async false
set_option linter.all false
set_option maxRecDepth 100000
/-! X4: raise; a caught exception's fields and class. -/
namespace Gal
open PySem L2 PyProof.Rows PySem.Spec
section
variable {Γ : Ct} {F : Callee} {k : Nat} {σ σ1 σ2 σ' : L2.St} {B H B1 H1 B2 H2 B' H' : Hp} {e e1 e2 e' : Env}
/-! ### raise -/
theorem settle_ne {np : Nat} {a : Ar} {c : Nat} {fs : List (Nat × D)} {e e' : Env} (h : settle np a e = some (.ex c fs e')) : False := by
  cases a with
  | v o d => cases h
  | r i =>
    unfold settle at h
    cases q : e[i]? with
    | none => simp only [q] at h; cases h
    | some s => simp only [q] at h; cases s <;> cases h
theorem settles_ne {np : Nat} {as : List Ar} {c : Nat} {fs : List (Nat × D)} {e e' : Env} (h : settles np as e = some (.ex c fs e')) : False := by
  cases as with
  | nil => cases h
  | cons a r =>
    unfold settles at h
    split at h
    · split at h
      · cases h
      · cases h
    · cases h
theorem pmk_call {X : Cx} {C : Addr} {x : PySem.Str} {p pos : Pos} {es : List Expr} {r : List V → Hp → XK → Prop} (hX : Cxt Γ X) (hc : MkSt X (.ref C) r) (hg : Gl X x) (hm : X.mg x = some (.ref C)) (hk : PySem.W.keepIn X.K (.ref C) = true) (hs : es.all noStar = true)
    (hdb : (x == ("__debug__" : PySem.Str)) = false) : PMk X (.Call (.Name x p) es [] pos) (fun σ H Q => wA Γ es σ H fun vs H1 => r vs H1 Q) := by
  intro pins s σ H Q I h
  refine wpAny_Call_Name_kw (ld_glob I hg hm ?_ hdb)
  exact args_K (first := []) hX I hk hs h fun us s1 vs H1 I1 rv q => hc pins s1 σ H1 vs us Q I1 rv q
theorem repF_zip {S : Stc} {B : Hp} : ∀ {fs : List Nat} {vs : List V} {ds : List D}, (∀ f ∈ fs, f < S.nA) → Reps S B vs ds → fs.length = vs.length → RepF S B ((fs.map S.an).zip vs) (fs.zip ds)
  | [], [], _, _, .nil, _ => .nil
  | f :: fs, v :: vs, _, h, .cons r t, hl => .cons (h f (List.mem_cons_self ..)) r (repF_zip (fun g hg => h g (List.mem_cons_of_mem _ hg)) t (Nat.succ.inj hl))
  | [], _ :: _, _, _, _, hl => by cases hl
  | _ :: _, [], _, _, _, hl => by cases hl
theorem RepF.append {S : Stc} {B : Hp} : ∀ {gs gs' : List (PySem.Str × V)} {fs fs' : List (Nat × D)}, RepF S B gs fs → RepF S B gs' fs' → RepF S B (gs ++ gs') (fs ++ fs')
  | _, _, _, _, .nil, r => r
  | _, _, _, _, .cons h1 h2 t, r => .cons h1 h2 (RepF.append t r)
theorem RepF.reverse {S : Stc} {B : Hp} : ∀ {gs : List (PySem.Str × V)} {fs : List (Nat × D)}, RepF S B gs fs → RepF S B gs.reverse fs.reverse
  | _, _, .nil => .nil
  | _, _, .cons h1 h2 t => by
    rw [List.reverse_cons, List.reverse_cons]
    exact RepF.append (RepF.reverse t) (.cons h1 h2 .nil)
theorem ss_raise (Fa : Fac Γ F k) {n c : Nat} {as : E} {x : PySem.Str} {p pos pos' : Pos} {es : List Expr} (hh : Γ.hot = false) (hg : isGl Γ.sc x = true) (hv : Γ.S.gl x = some (.cls c)) (hs : es.all noStar = true) (hl : SL Γ F as es []) :
    SS Γ F n (.raise c as) (.Raise (some (.Call (.Name x p) es [] pos)) none pos') := by
  intro σ B H e o DE P hr K
  have hr : (if Γ.hot = true then none else match (Γ.S.P.cl c).exf with
    | some fs => okN ((evG Γ F as).l e) fun xs e1 => okN (settles Γ.np xs e1) fun ds e2 => if fs.length = ds.length then some (.ex c (fs.zip ds).reverse e2) else none
    | none => none) = some o := hr
  rw [hh, if_neg Bool.false_ne_true] at hr
  cases hx : (Γ.S.P.cl c).exf with
  | none => rw [hx] at hr; cases hr
  | some fs =>
    rw [hx] at hr
    have hr : okN ((evG Γ F as).l e) (fun xs e1 => okN (settles Γ.np xs e1) fun ds e2 => if fs.length = ds.length then some (.ex c (fs.zip ds).reverse e2) else none) = some o := hr
    obtain ⟨h1, h2⟩ := Fa.gls x _ hv
    obtain ⟨hn, hm⟩ := Fa.rz hh c fs hx
    refine ⟨fun D σ H => wA Γ es σ H fun vs H1 => rExcS Γ.S c fs vs H1 fun cls d H' => Γ.W cls d σ H', fun X hX => ?_, ?_⟩
    · exact ps_raise (hX.calm hh).1 hX.takes (pmk_call hX (hm X hX) (isGl_ok hX hg).1 (by rw [hX.mg]; exact h1) (by rw [hX.K]; exact h2) hs (isGl_ok hX hg).2.1)
    · show wA Γ es σ H fun vs H1 => rExcS Γ.S c fs vs H1 fun cls d H' => Γ.W cls d σ H'
      have fin : ∀ as' e1 vs B1 H1, okN (settles Γ.np as' e1) (fun ds e2 => if fs.length = ds.length then some (.ex c (fs.zip ds).reverse e2) else none) = some o → Po Γ σ noT B H e B1 H1 e1 → ArsR Γ σ B1 H1 e1 as' vs → (∀ q, Tmps as' vs q → H q = none) →
          rExcS Γ.S c fs vs H1 fun cls d H' => Γ.W cls d σ H' := by
        intro as' e1 vs B1 H1 hf po ar fr
        unfold okN at hf
        cases q : settles Γ.np as' e1 with
        | none => rw [q] at hf; cases hf
        | some r =>
          rw [q] at hf
          cases r with
          | ex c' fs' e' => exact (settles_ne q).elim
          | ok ds e2 =>
            have hf : (if fs.length = ds.length then some (Out.ex c (fs.zip ds).reverse e2) else none) = some o := hf
            split at hf
            · rename_i hlen
              cases hf
              obtain ⟨B2, po2, rs⟩ := settles_ok po.pst ar q
              have po3 := po.trans po2 fun q t => .inr (fr q t)
              have hvl : vs.length = fs.length := by rw [rs.length, hlen]
              unfold rExcS
              split
              · rename_i hnil
                subst hnil
                have hv0 : vs = [] := List.length_eq_zero_iff.mp hvl
                subst hv0
                refine ⟨rfl, K _ _ _ B2 H1 po3.ps ⟨rfl, .inl ⟨?_, rfl⟩⟩⟩
                cases ds with
                | nil => rfl
                | cons _ _ => cases hlen
              · refine ⟨by simpa using hvl, fun d hd => ?_⟩
                have hB : B2 d = none := by
                  cases z : B2 d with
                  | none => rfl
                  | some o => rw [po3.pst.ext d o z] at hd; cases hd
                have eb : Ex B2 (upd B2 d (.xd ((fs.map Γ.S.an).zip vs).reverse)) := Ex.new hB
                have eh : Ex H1 (upd H1 d (.xd ((fs.map Γ.S.an).zip vs).reverse)) := Ex.new hd
                have bh : Ex (upd B2 d (.xd ((fs.map Γ.S.an).zip vs).reverse)) (upd H1 d (.xd ((fs.map Γ.S.an).zip vs).reverse)) := fun a u z => by
                  by_cases ha : a = d
                  · subst ha; rw [upd_same] at z ⊢; exact z
                  · rw [upd_ne ha] at z ⊢; exact po3.pst.ext a u z
                have nn : ∀ a o, upd B2 d (.xd ((fs.map Γ.S.an).zip vs).reverse) a = some o → B2 a = some o ∨ H1 a = none := fun a u z => by
                  by_cases ha : a = d
                  · subst ha; exact .inr hd
                  · rw [upd_ne ha] at z; exact .inl z
                have po4 : Po Γ σ noT B2 H1 e2 (upd B2 d (.xd ((fs.map Γ.S.an).zip vs).reverse)) (upd H1 d (.xd ((fs.map Γ.S.an).zip vs).reverse)) e2 :=
                  ⟨po3.pst.grow eb eh bh nn, Stp.of_new eb eh nn, fun _ h => h, fun _ _ h => h, fun _ _ h => h, fun _ _ p o _ _ h => eh p o h⟩
                refine K _ (some d) _ _ _ (po3.then po4).ps ⟨rfl, .inr ⟨d, _, rfl, upd_same, upd_same, ?_⟩⟩
                exact (RepF.reverse (repF_zip hn rs hvl.symm)).mono eb
            · cases hf
      have ll : wA Γ es σ H fun vs H1 => rExcS Γ.S c fs (vs ++ ([] : List Gal.D).map cV) H1 fun cls d H' => Γ.W cls d σ H' := by
        unfold okN at hr
        cases q : (evG Γ F as).l e with
        | none => rw [q] at hr; cases hr
        | some r =>
          rw [q] at hr
          cases r with
          | ok as' e1 => exact hl σ B H e _ (fun vs H1 => rExcS Γ.S c fs vs H1 fun cls d H' => Γ.W cls d σ H') P q (fun a e' he vs B1 H1 po ar fr => by cases he; exact fin _ _ _ _ _ hr po ar fr) okX
          | ex c' fs' e' =>
            cases hr
            exact hl σ B H e _ (fun vs H1 => rExcS Γ.S c fs vs H1 fun cls d H' => Γ.W cls d σ H') P q (fun a e' he => by cases he) fun c2 fs2 e2 he cls dd B1 H1 po x => by cases he; exact K cls dd σ B1 H1 po.ps x
      have e0 : (fun vs H1 => rExcS Γ.S c fs (vs ++ ([] : List Gal.D).map cV) H1 fun cls d H' => Γ.W cls d σ H') = fun vs H1 => rExcS Γ.S c fs vs H1 fun cls d H' => Γ.W cls d σ H' := by
        funext vs H1
        rw [List.map_nil, List.append_nil]
      rw [e0] at ll
      exact ll
/-! ### the caught exception's field -/
theorem so_exf (Fa : Fac Γ F k) {f i : Nat} {id : PySem.Str} {p pos : Pos} (hN : Γ.N[i]? = some id) (hv : isVis Γ.sc id = true) : SO Γ F (.exf f i) (.Attribute (.Name id p) (Γ.S.an f) pos) := by
  intro σ B H e r Q P hr K X
  have hr : (match e[i]? with
    | some (.ex c fs) => if ((Γ.S.P.cl c).exf.getD []).contains f then (fs.lookup f).map fun x => .ok (.v false x) e else none
    | _ => none) = some r := hr
  cases q : e[i]? with
  | none => rw [q] at hr; cases hr
  | some s =>
    rw [q] at hr
    cases s with
    | ex c fs =>
      have hr : (if ((Γ.S.P.cl c).exf.getD []).contains f then (fs.lookup f).map fun x => R.ok (.v false x) e else none) = some r := hr
      split at hr
      · rename_i hf
        obtain ⟨x, h1, h2⟩ := map_some hr
        subst h2
        obtain ⟨a, cls, d, hxi, hx, hE, hd⟩ := P.sl i _ q
        subst hE
        cases hxf : (Γ.S.P.cl c).exf with
        | none => rw [hxf] at hf; simp at hf
        | some ns =>
          rw [hxf] at hf
          obtain ⟨xc, xn⟩ := Fa.xf c ns hxf
          obtain ⟨hfA, hno⟩ := xn f (by simpa using hf)
          have hpv : ∀ Y, Cxt Γ Y → PE Y (.Name id p) (tVar i) := fun Y hY => by
            unfold isVis at hv
            simp only [Bool.and_eq_true, Bool.or_eq_true, decide_eq_true_eq, Bool.not_eq_true'] at hv
            refine pe_var (by rw [hY.N]; exact hN) ?_ hv.1.2 hv.2
            rw [hY.sc]
            exact hv.1.1.imp _root_.id .inl
          refine ⟨tXf a (.ref (Γ.S.ca c)) d (Γ.S.ca c) (Γ.S.an f) (tVar i), fun Y hY => ?_, ?_⟩
          · obtain ⟨X0, oe, pn, rfl, hz, hff⟩ := hY.hotx _ _ _ hxi
            have hK : X0.K = Γ.S.K := hY.K
            exact pe_xf (X := X0) ⟨by rw [hK]; exact xc.ga, by rw [hK]; exact xc.gg, by rw [hK]; exact xc.exC, by rw [hK]; exact xc.hdC⟩ (by rw [hK]; exact hno) hz hff (hpv _ hY) rfl
          · rcases hd with ⟨hd, _⟩ | ⟨dd, gs, hd, hB, hH, rf⟩
            · subst hd; cases h1
            · obtain ⟨v, hv1, hv2⟩ := (repF_lookup hfA rf).2 x h1
              exact ⟨.ref a, jn_of' hx, rfl, rfl, dd, gs, v, hd, hH, hv1, K _ _ rfl v B H (Po.refl P) hv2 fun _ t => t.elim⟩
      · cases hr
    | _ => cases hr
where jn_of' {σ : L2.St} {i : Nat} {v : V} (h : σ[i]?.join = some v) : σ[i]? = some (some v) := by
        cases y : σ[i]? with
        | none => rw [y] at h; cases h
        | some y' => rw [y] at h; simp at h; rw [h]
/-! ### isinstance of it -/
def rIsX (K : PySem.W.Frag) (D a : Addr) (d : Option Addr) : List V → Hp → VK → Prop := fun xs H Q => ∃ (c : V) (cv : Value) (b : Bool), xs = [.ref a, c] ∧ (∀ u, RelV c u → u = cv) ∧ PySem.W.kitOne K (.ref D) cv = some b ∧ (d = none ∨ ∃ dd gs, d = some dd ∧ H dd = some (.xd gs)) ∧ Q (.bl b) H
theorem call_isX {X : Cx} {a D : Addr} {d : Option Addr} {oe : Obj} {pn : List (Addr × Obj)} (C : XcF X.K D) (hn : PySem.W.specialIn X.K (.builtin "object.__class__") "__get__" = some (some (.builtin "getset_descriptor.__get__"))) (ht : PySem.W.takesIn X.K (.builtin "object.__class__") = some true)
    (hz : Zc (.ref D) d oe) (hf : ∃ vs, oe.data = .fields vs) : CallR (X.suite a ((a, oe) :: pn)) (.builtin "isinstance") (rIsX X.K D a d) := by
  intro pins s σ H xs us Q I r h
  obtain ⟨c, cv, b, rfl, hcv, e, hd, q⟩ := h
  cases r with
  | cons rx rr =>
    cases rr with
    | cons rt rr =>
      cases rr
      cases rx
      have ec := hcv _ rt
      subst ec
      obtain ⟨hget, _⟩ := I.pin (a, oe) (List.mem_append.mpr (.inl List.mem_cons_self))
      obtain ⟨vs, hv⟩ := hf
      obtain ⟨od, J⟩ : ∃ od, PySem.W.InstAt s.heap a oe D od := by
        obtain ⟨oc, od0, oda, osl⟩ := oe
        obtain ⟨h1, h2⟩ := hz
        dsimp only at h1 h2 hv
        subst h1 h2 hv
        rcases hd with rfl | ⟨dd, gs, rfl, hx⟩
        · exact ⟨none, hget, rfl, rfl, trivial⟩
        · have hx : ObjOk X.prog X.w H s.heap dd (.xd gs) := I.hok dd _ hx
          obtain ⟨mA, hns, _⟩ := hx
          obtain ⟨o1, ho, _⟩ := lookIn_ns hns
          exact ⟨some o1, hget, rfl, rfl, ho⟩
      exact PySem.W.kia_one (PySem.W.kitx_exc C.cl C.ga C.gg C.exC C.ca hn ht C.om) I.kIn J e (fun z => nomatch z) fun tk => ⟨.bl b, H, I.kept (t' := tk) fun _ _ z => z, rfl, q⟩
theorem so_exi (Fa : Fac Γ F k) {ty : Ty} {i : Nat} {id : PySem.Str} {p p2 pos : Pos} {tx : Expr} {tv : V} (hN : Γ.N[i]? = some id) (hv : isVis Γ.sc id = true) (hg : isGl Γ.sc "isinstance" = true) (hc : ClsV tv (tyVal Γ.S ty)) (ht : ∀ (σ : L2.St) (H : Hp) (Q : VK), Q tv H → W Γ tx σ H Q) (hs : [(.Name id p : Expr), tx].all noStar = true) :
    SO Γ F (.exi ty i) (.Call (.Name "isinstance" p2) [.Name id p, tx] [] pos) := by
  intro σ B H e r Q P hr K X
  have hr : (match e[i]? with
    | some (.ex c _) => if (Γ.S.P.cl c).exf.isNone then none else match (generalizing := false) ty with
      | .cls k => if (Γ.S.P.cl k).exf.isSome then some (.ok (.v false (.bl ((Γ.S.P.cl c).sup.contains k))) e) else none
      | .ve => some (.ok (.v false (.bl true)) e)
      | _ => none
    | _ => none) = some r := hr
  cases q : e[i]? with
  | none => rw [q] at hr; cases hr
  | some s =>
    rw [q] at hr
    cases s with
    | ex c fs =>
      have hr : (if (Γ.S.P.cl c).exf.isNone then none else match (generalizing := false) ty with
        | .cls k => if (Γ.S.P.cl k).exf.isSome then some (R.ok (Ar.v false (.bl ((Γ.S.P.cl c).sup.contains k))) e) else none
        | .ve => some (.ok (.v false (.bl true)) e)
        | _ => none) = some r := hr
      obtain ⟨a, cls, d, hxi, hx, hE, hd⟩ := P.sl i _ q
      subst hE
      cases hxf : (Γ.S.P.cl c).exf with
      | none => rw [hxf] at hr; cases hr
      | some ns =>
        rw [hxf, if_neg (by simp)] at hr
        obtain ⟨xc, _⟩ := Fa.xf c ns hxf
        obtain ⟨i1, i2⟩ := Fa.xi c ns hxf
        obtain ⟨b, hb, rb⟩ : ∃ b, PySem.W.kitOne Γ.S.K (.ref (Γ.S.ca c)) (tyVal Γ.S ty) = some b ∧ r = .ok (.v false (.bl b)) e := by
          cases ty with
          | ve => cases hr; exact ⟨true, i1, rfl⟩
          | cls k =>
            simp only at hr
            split at hr
            · rename_i hk
              cases hr
              exact ⟨_, i2 k hk, rfl⟩
            · cases hr
          | _ => cases hr
        subst rb
        refine ⟨fun σ H Q => wA Γ [.Name id p, tx] σ H fun vs H1 => rIsX Γ.S.K (Γ.S.ca c) a d vs H1 Q, fun Y hY => ?_, ?_⟩
        · obtain ⟨g1, g2, g3⟩ := isGl_ok hY hg
          obtain ⟨X0, oe, pn, rfl, hz, hff⟩ := hY.hotx _ _ _ hxi
          have hK : X0.K = Γ.S.K := hY.K
          have cr := call_isX (X := X0) (a := a) (pn := pn) (by rw [hK]; exact xc) (by rw [hK]; exact Fa.tyc.1) (by rw [hK]; exact Fa.tyc.2) hz hff
          rw [hK] at cr
          exact pe_bltF hY cr g1 (by rw [hY.mg]; exact Fa.blt _ (.inl (by decide))) rfl hs g3 g2
        · show W Γ (.Name id p) σ H fun v H1 => W Γ tx σ H1 fun c' H2 => rIsX Γ.S.K (Γ.S.ca c) a d [v, c'] H2 Q
          have hpv : ∀ Y, Cxt Γ Y → PE Y (.Name id p) (tVar i) := fun Y hY => by
            unfold isVis at hv
            simp only [Bool.and_eq_true, Bool.or_eq_true, decide_eq_true_eq, Bool.not_eq_true'] at hv
            refine pe_var (by rw [hY.N]; exact hN) ?_ hv.1.2 hv.2
            rw [hY.sc]
            exact hv.1.1.imp _root_.id .inl
          refine ⟨_, hpv, .ref a, so_exf.jn_of' hx, ht _ _ _ ⟨tv, _, b, rfl, fun u r => hc.eq r, hb, ?_, K _ _ rfl _ B H (Po.refl P) (show Rep Γ.S B _ _ from .bl b) fun _ t => t.elim⟩⟩
          rcases hd with ⟨_, hd⟩ | ⟨dd, gs, hd, hB, hH, rf⟩
          · exact .inl hd
          · exact .inr ⟨dd, gs, hd, hH⟩
    | _ => cases hr
end
end Gal
set_option Elab.async false
set_option linter.all false
set_option maxRecDepth 100000
/-! X5: try .. except C as n. -/
namespace Gal
open PySem L2 PyProof.Rows PySem.Spec
/-- the context kinds of a try's body and of its except suite -/
def tryΓ (Γ : Ct) (W : WX) : Ct := { Γ with W := W }
def sutΓ (Γ : Ct) (a : Addr) (cls : Value) (d : Option Addr) : Ct := { Γ with hot := true, W := fun _ _ _ _ => False, xi := some (a, cls, d) }
section
variable {Γ : Ct} {F : Callee} {k : Nat} {σ σ1 σ2 σ' : L2.St} {B H B1 H1 B2 H2 B' H' : Hp} {e e1 e2 e' : Env}
theorem SlR.toTry {W : WX} {x : Option V} {s : Sl} : SlR (tryΓ Γ W) B H x s ↔ SlR Γ B H x s := by cases s <;> exact Iff.rfl
theorem Pst.toTry {W : WX} : Pst (tryΓ Γ W) σ B H e ↔ Pst Γ σ B H e := ⟨fun p => ⟨p.len, p.ext, fun i s h => SlR.toTry.mp (p.sl i s h), p.dj⟩, fun p => ⟨p.len, p.ext, fun i s h => SlR.toTry.mpr (p.sl i s h), p.dj⟩⟩
theorem Ps.ofTry {W : WX} (p : Ps (tryΓ Γ W) σ B H e σ' B' H' e') : Ps Γ σ B H e σ' B' H' e' := ⟨Pst.toTry.mp p.pst, p.stp, p.own, p.kp, p.lk, p.lh, p.ln⟩
theorem try_cxt {X : Cx} {W : WX} {pn : List (Addr × Obj)} {xe : Value → Shared → Prop} (hX : Cxt Γ X) (hxi : Γ.xi = none) (tk : Takes (X.tr pn xe) W) (po : PassesOwn (model X.prog X.w) X.A X.env xe) : Cxt (tryΓ Γ W) (X.tr pn xe) :=
  ⟨hX.pg, hX.w, hX.K, hX.mg, hX.base, hX.N, hX.sc, hX.calm, hX.units, tk, hX.top, fun _ => po, hX.nd, fun a cls d h => by
    have h : Γ.xi = some (a, cls, d) := h
    rw [hxi] at h; cases h⟩
theorem sut_cxt {X : Cx} {a : Addr} {cls : Value} {d : Option Addr} {oe : Obj} {pn : List (Addr × Obj)} (hX : Cxt Γ X) (hz : Zc cls d oe) (hf : ∃ vs, oe.data = .fields vs) : Cxt (sutΓ Γ a cls d) (X.suite a ((a, oe) :: pn)) :=
  ⟨hX.pg, hX.w, hX.K, hX.mg, hX.base, hX.N, hX.sc, fun h => (by cases h), hX.units, fun u s' ⟨_, _, _, _, _, _, _, _, _, _, _, _, _, _, _, _, w⟩ => w.elim, hX.top, fun _ => PassesOwn.never, hX.nd, fun a' cls' d' h => by
    cases h
    exact ⟨X, oe, pn, rfl, hz, hf⟩⟩
theorem notEx_slR {a : Addr} {cls : Value} {d : Option Addr} {x : Option V} {s : Sl} (n : notEx s = true) (h : SlR (sutΓ Γ a cls d) B H x s) : SlR Γ B H x s := by
  cases s <;> first | exact h | cases n
/-- into the suite: slot i holds the exception -/
theorem into_suite {i c : Nat} {fs : List (Nat × D)} {a : Addr} {cls : Value} {d : Option Addr} (hxi : Γ.xi = none) (P : Pst Γ σ B H e) (hi : e[i]? = some .un) (x : ExR Γ.S B H cls d c fs) : Pst (sutΓ Γ a cls d) (σ.set i (some (.ref a))) B H (e.set i (.ex c fs)) := by
  have hl : i < e.length := (List.getElem?_eq_some_iff.mp hi).1
  have hs : i < σ.length := by rw [← P.len]; exact hl
  have own' : ∀ {j : Nat} {p : Addr}, OwnAt (σ.set i (some (.ref a))) (e.set i (.ex c fs)) j p → OwnAt σ e j p := by
    intro j p ⟨⟨d', hd⟩, h2⟩
    by_cases q : i = j
    · subst q
      rw [List.getElem?_set_self hl] at hd
      rcases hd with hd | hd <;> cases hd
    · rw [List.getElem?_set_ne q] at hd h2
      exact ⟨⟨d', hd⟩, h2⟩
  refine ⟨by rw [List.length_set, List.length_set]; exact P.len, P.ext, fun j s hj => ?_, fun j j' p o1 o2 => P.dj j j' p (own' o1) (own' o2)⟩
  by_cases q : i = j
  · subst q
    rw [List.getElem?_set_self hl] at hj
    rw [List.getElem?_set_self hs]
    cases hj
    exact ⟨a, cls, d, rfl, rfl, x⟩
  · rw [List.getElem?_set_ne q] at hj
    rw [List.getElem?_set_ne q]
    have z := P.sl j s hj
    cases s with
    | ex c' fs' =>
      obtain ⟨_, _, _, h, _⟩ := z
      rw [hxi] at h; cases h
    | _ => exact z
theorem own_out {i : Nat} {j : Nat} {p : Addr} (o : OwnAt (σ.set i none) (e.set i .un) j p) : i ≠ j ∧ OwnAt σ e j p := by
  obtain ⟨⟨d', hd⟩, h2⟩ := o
  by_cases q : i = j
  · subst q
    exfalso
    by_cases hl : i < σ.length
    · rw [List.getElem?_set_self hl] at h2; cases h2
    · rw [List.getElem?_eq_none (by rw [List.length_set]; omega)] at h2; cases h2
  · rw [List.getElem?_set_ne q] at hd h2
    exact ⟨q, ⟨d', hd⟩, h2⟩
/-- the whole: the body's part, then the suite's -/
theorem ps_suite {i c : Nat} {fs : List (Nat × D)} {a : Addr} {cls : Value} {d : Option Addr} (p1 : Ps Γ σ B H e σ1 B1 H1 e1) (hi : e1[i]? = some .un) (p2 : Ps (sutΓ Γ a cls d) (σ1.set i (some (.ref a))) B1 H1 (e1.set i (.ex c fs)) σ2 B2 H2 e2) (hn : (e2.set i .un).all notEx = true) :
    Ps Γ σ B H e (σ2.set i none) B2 H2 (e2.set i .un) := by
  have hl1 : i < e1.length := (List.getElem?_eq_some_iff.mp hi).1
  have own1 : ∀ p, Own (σ1.set i (some (.ref a))) (e1.set i (.ex c fs)) p → Own σ1 e1 p := fun p ⟨j, ⟨d', hd⟩, h2⟩ => by
    by_cases q : i = j
    · subst q
      rw [List.getElem?_set_self hl1] at hd
      rcases hd with hd | hd <;> cases hd
    · rw [List.getElem?_set_ne q] at hd h2
      exact ⟨j, ⟨d', hd⟩, h2⟩
  have nl : ∀ {j : Nat}, ownish e1[j]? → i ≠ j := fun {j} h z => by rw [← z, hi] at h; exact h
  have nlk : ∀ {j : Nat} {d'}, e1[j]? = some (.lk d') → i ≠ j := fun {j d'} h z => by rw [← z, hi] at h; cases h
  refine ⟨⟨by rw [List.length_set, List.length_set]; exact p2.pst.len, p2.pst.ext, fun j s hj => ?_, fun j j' p o1 o2 => p2.pst.dj j j' p (own_out o1).2 (own_out o2).2⟩, p1.stp.trans p2.stp fun p h => p1.own p (own1 p h), fun p ⟨j, o⟩ => ?_, fun j hj ho => ?_, fun j d' hj => ?_, fun j d' p o h1 h2 h3 => ?_, by rw [List.length_set, p2.ln, List.length_set, p1.ln]⟩
  · have ne := List.all_eq_true.mp hn s (List.mem_of_getElem? hj)
    by_cases q : i = j
    · subst q
      have : s = .un := by
        have hl2 : i < e2.length := by
          have := (List.getElem?_eq_some_iff.mp hj).1
          rw [List.length_set] at this
          exact this
        rw [List.getElem?_set_self hl2] at hj
        exact (Option.some.inj hj).symm
      subst this
      trivial
    · rw [List.getElem?_set_ne q] at hj
      rw [List.getElem?_set_ne q]
      exact notEx_slR ne (p2.pst.sl j s hj)
  · rcases p2.own p ⟨j, (own_out o).2⟩ with z | z
    · exact p1.own p (own1 p z)
    · exact .inr (p1.stp.fresh z)
  · obtain ⟨a1, a2⟩ := p1.kp j hj ho
    have q := nl a1
    obtain ⟨b1, b2⟩ := p2.kp j hj (by rw [List.getElem?_set_ne q]; exact a1)
    rw [List.getElem?_set_ne q] at b2
    rw [List.getElem?_set_ne q, List.getElem?_set_ne q]
    exact ⟨b1, b2.trans a2⟩
  · obtain ⟨a1, a2⟩ := p1.lk j d' hj
    have q := nlk a1
    obtain ⟨b1, b2⟩ := p2.lk j d' (by rw [List.getElem?_set_ne q]; exact a1)
    rw [List.getElem?_set_ne q] at b2
    rw [List.getElem?_set_ne q, List.getElem?_set_ne q]
    exact ⟨b1, b2.trans a2⟩
  · obtain ⟨a1, a2⟩ := p1.lk j d' h1
    have q := nlk a1
    exact p2.lh j d' p o (by rw [List.getElem?_set_ne q]; exact a1) (by rw [List.getElem?_set_ne q]; exact a2.trans h2) (p1.lh j d' p o h1 h2 h3)
theorem ss_try (Fa : Fac Γ F k) {n c i : Nat} {b s : S} {body suite : List Stmt} {b₀ : Stmt} {x nm : PySem.Str} {np pos pos' : Pos} (top : Γ.top = true) (hh : Γ.hot = false) (hxi : Γ.xi = none) (hN : Γ.N[i]? = some nm) (hln : Γ.sc.names.lookup nm = some .local) (hg : isGl Γ.sc x = true) (hv : Γ.S.gl x = some (.cls c)) (hc : ((Γ.S.P.cl c).exf).isSome = true)
    (hb : ∀ W, SB (tryΓ Γ W) F n b body) (hs : ∀ a cls d, SB (sutΓ Γ a cls d) F n s (b₀ :: suite)) :
    SS Γ F n (.try_ b c i s) (.Try body [.ExceptHandler (some (.Name x np)) (some nm) (b₀ :: suite) pos'] [] [] pos) := by
  intro σ B H e o DE P hr K
  have hr : (if Γ.hot = true then none else match evS Γ.S.P F Γ.np n b Γ.hot e with
    | some (.ex k fs e1) => if (Γ.S.P.cl k).exf.isNone then none else if (Γ.S.P.cl k).sup.contains c then match e1[i]? with
        | some .un => (evS Γ.S.P F Γ.np n s true (e1.set i (.ex k fs))).bind fun o => match o with
          | .ex _ _ _ => none
          | o => if ((outE o).set i .un).all notEx then some (mapOut (fun e2 => e2.set i .un) o) else none
        | _ => none
      else some (.ex k fs e1)
    | r => r) = some o := hr
  rw [if_neg (by rw [hh]; exact Bool.false_ne_true)] at hr
  obtain ⟨h1, h2⟩ := Fa.gls x _ hv
  refine ⟨fun D σ H => WSs (tryΓ Γ (wAs Γ.S.K (.ref (Γ.S.ca c)) i (fun a cls d => WSs (sutΓ Γ a cls d) (b₀ :: suite)) Γ.W D)) body D σ H, fun X hX => ?_, ?_⟩
  · obtain ⟨t1, t2, _⟩ := hX.top top
    have nm1 : Names X x (.ref (Γ.S.ca c)) := ⟨(isGl_ok hX hg).1, (isGl_ok hX hg).2.1, .inl (by rw [hX.mg]; exact h1)⟩
    have pt := ps_try_as (c := .ref (Γ.S.ca c)) (np := np) (pos := pos) (pos' := pos') (body := body) (suite := suite) (b₀ := b₀) (tb := fun W => WSs (tryΓ Γ W) body) (ts := fun a cls d => WSs (sutΓ Γ a cls d) (b₀ :: suite)) t1 t2 (by rw [hX.N]; exact hX.nd) (by rw [hX.N]; exact hN)
      (show X.env.scope.names.lookup nm = some .local by rw [hX.sc]; exact hln) nm1 hX.takes (fun W pn xe tk po => WSs_ps (try_cxt hX hxi tk po)) (fun a oe cls d pn hz hf => WSs_ps (sut_cxt hX hz hf))
    rw [hX.K] at pt
    exact pt
  · show WSs (tryΓ Γ _) body DE σ H
    cases q : evS Γ.S.P F Γ.np n b Γ.hot e with
    | none => rw [q] at hr; cases hr
    | some o1 =>
      rw [q] at hr
      refine hb _ σ B H e o1 DE (Pst.toTry.mpr P) q ?_
      cases o1 with
      | nx e1 => cases hr; exact fun σ' B' H' p => K σ' B' H' p.ofTry
      | bk e1 => cases hr; exact fun σ' B' H' p => K σ' B' H' p.ofTry
      | ct e1 => cases hr; exact fun σ' B' H' p => K σ' B' H' p.ofTry
      | rt w d e1 => cases hr; exact fun v σ' B' H' p r => K v σ' B' H' p.ofTry r
      | ex kk fs e1 =>
        intro cls dd σ1 B1 H1 p1 x1
        have p1 := p1.ofTry
        have x1' := x1
        obtain ⟨hcls, _⟩ := x1'
        subst hcls
        have hr : (if (Γ.S.P.cl kk).exf.isNone = true then none else if (Γ.S.P.cl kk).sup.contains c = true then match e1[i]? with
          | some .un => (evS Γ.S.P F Γ.np n s true (e1.set i (.ex kk fs))).bind fun o => match o with
            | .ex _ _ _ => none
            | o => if ((outE o).set i .un).all notEx then some (mapOut (fun e2 => e2.set i .un) o) else none
          | _ => none
        else some (.ex kk fs e1)) = some o := hr
        have ex : PySem.W.exmOne Γ.S.K (.ref (Γ.S.ca kk)) (.ref (Γ.S.ca c)) = some ((Γ.S.P.cl kk).sup.contains c) := by
          cases hkx : (Γ.S.P.cl kk).exf with
          | none => rw [hkx] at hr; cases hr
          | some ns => exact Fa.xm kk ns c hkx hc
        have hkn : (Γ.S.P.cl kk).exf.isNone = false := by
          cases hkx : (Γ.S.P.cl kk).exf with
          | none => rw [hkx] at hr; cases hr
          | some ns => rfl
        rw [hkn, if_neg Bool.false_ne_true] at hr
        refine ⟨_, ex, fun hb1 a na => ?_, fun hb0 => ?_⟩
        · rw [if_pos hb1] at hr
          cases qi : e1[i]? with
          | none => rw [qi] at hr; cases hr
          | some si =>
            rw [qi] at hr
            cases si with
            | un =>
              have hr : ((evS Γ.S.P F Γ.np n s true (e1.set i (.ex kk fs))).bind fun o => match o with
                | .ex _ _ _ => none
                | o => if ((outE o).set i .un).all notEx then some (mapOut (fun e2 => e2.set i .un) o) else none) = some o := hr
              cases q2 : evS Γ.S.P F Γ.np n s true (e1.set i (.ex kk fs)) with
              | none => rw [q2] at hr; cases hr
              | some o2 =>
                rw [q2, Option.bind_some] at hr
                refine hs a _ dd _ B1 H1 _ o2 _ (into_suite hxi p1.pst qi x1) q2 ?_
                cases o2 with
                | ex _ _ _ => cases hr
                | nx e2 =>
                  have hr : (if (e2.set i .un).all notEx = true then some (Out.nx (e2.set i .un)) else none) = some o := hr
                  split at hr
                  · rename_i hn
                    cases hr
                    exact fun σ2 B2 H2 p2 => K _ B2 H2 (ps_suite p1 qi p2 hn)
                  · cases hr
                | bk e2 =>
                  have hr : (if (e2.set i .un).all notEx = true then some (Out.bk (e2.set i .un)) else none) = some o := hr
                  split at hr
                  · rename_i hn
                    cases hr
                    exact fun σ2 B2 H2 p2 => K _ B2 H2 (ps_suite p1 qi p2 hn)
                  · cases hr
                | ct e2 =>
                  have hr : (if (e2.set i .un).all notEx = true then some (Out.ct (e2.set i .un)) else none) = some o := hr
                  split at hr
                  · rename_i hn
                    cases hr
                    exact fun σ2 B2 H2 p2 => K _ B2 H2 (ps_suite p1 qi p2 hn)
                  · cases hr
                | rt w d2 e2 =>
                  have hr : (if (e2.set i .un).all notEx = true then some (Out.rt w d2 (e2.set i .un)) else none) = some o := hr
                  split at hr
                  · rename_i hn
                    cases hr
                    refine fun v σ2 B2 H2 p2 r2 => K v _ B2 H2 (ps_suite p1 qi p2 hn) ?_
                    cases w with
                    | false => exact r2
                    | true =>
                      obtain ⟨p, e3, e4, e5, e6, e7⟩ := r2
                      refine ⟨p, e3, e4, e5, fun ⟨j, oj⟩ => e6 ⟨j, (own_out oj).2⟩, ?_⟩
                      rcases e7 with ⟨j, ⟨d', hd⟩, h5⟩ | e7
                      · have hl1 : i < e1.length := (List.getElem?_eq_some_iff.mp qi).1
                        by_cases z : i = j
                        · subst z
                          rw [List.getElem?_set_self hl1] at hd
                          rcases hd with hd | hd <;> cases hd
                        · rw [List.getElem?_set_ne z] at hd h5
                          exact p1.own p ⟨j, ⟨d', hd⟩, h5⟩
                      · exact .inr (p1.stp.fresh e7)
                  · cases hr
            | _ => cases hr
        · rw [if_neg (by rw [hb0]; exact Bool.false_ne_true)] at hr
          cases hr
          exact K _ dd σ1 B1 H1 p1 x1
end
end Gal
set_option Elab.async false
set_option linter.all false
set_option maxRecDepth 100000
/-! X6: C(.., k = v), list(range(..)), names = list. -/
namespace Gal
open PySem L2 PyProof.Rows PySem.Spec
section
variable {Γ : Ct} {F : Callee} {k : Nat} {σ σ1 σ2 σ' : L2.St} {B H B1 H1 B2 H2 B' H' : Hp} {e e1 e2 e' : Env}
/-! ### keywords -/
/-- the keywords are names -/
def kwNames : List Keyword → Option (List PySem.Str)
  | [] => some []
  | kw :: r => match kw.arg, kwNames r with
    | some n, some ns => some (n :: ns)
    | _, _ => none
def kwVals (kws : List Keyword) : List Expr := kws.map (·.value)
theorem wA_append {Γ : Ct} : ∀ (a b : List Expr) (σ : L2.St) (H : Hp) (R : List V → Hp → Prop), wA Γ (a ++ b) σ H R → wA Γ a σ H fun vs H1 => wA Γ b σ H1 fun zs H2 => R (vs ++ zs) H2
  | [], b, σ, H, R, h => h
  | x :: a, b, σ, H, R, h => by
    obtain ⟨te, f, q⟩ := (show W Γ x σ H _ from h)
    have h : W Γ x σ H fun v H1 => wA Γ (a ++ b) σ H1 fun vs H2 => R (v :: vs) H2 := h
    show W Γ x σ H fun v H1 => wA Γ a σ H1 fun vs H2 => wA Γ b σ H2 fun zs H3 => R (v :: vs ++ zs) H3
    have e : (fun v H1 => wA Γ (a ++ b) σ H1 fun vs H2 => R (v :: vs) H2) = fun v H1 => wA Γ (a ++ b) σ H1 fun vs H2 => R (v :: vs) H2 := rfl
    exact W_mono h fun v H1 q => wA_append a b σ H1 _ q
where W_mono {Γ : Ct} {x : Expr} {σ : L2.St} {H : Hp} {Q Q' : VK} (h : W Γ x σ H Q) (q : ∀ v H, Q v H → Q' v H) : W Γ x σ H Q' := by
        obtain ⟨te, f, g⟩ := h
        refine ⟨fun σ' H' Q'' => ∃ Q0 : VK, te σ' H' Q0 ∧ ∀ v H, Q0 v H → Q'' v H, fun X hX => ⟨fun pins s σ' H' Q'' I ⟨Q0, a, b⟩ => ?_⟩, ⟨Q, g, q⟩⟩
        exact thn ((f X hX).run pins s σ' H' Q0 I a) fun v s1 ⟨x, H1, I1, r1, q1⟩ => ⟨x, H1, I1, r1, b x H1 q1⟩
theorem kw_pk {X : Cx} (hX : Cxt Γ X) : ∀ kws : List Keyword, PK X kws (wA Γ (kwVals kws))
  | [] => pk_nil
  | ⟨nm, v, p⟩ :: r => pk_cons (W_pe hX) (kw_pk hX r)
theorem kw_names {env : PySem.Env} {pos : Pos} : ∀ {kws : List Keyword} {ks : List PySem.Str}, kwNames kws = some ks → (backToKw pos (keywordEach kws env)).filterMap (·.1) = ks ∧ (backToKw pos (keywordEach kws env)).all (·.1.isSome) = true ∧ (backToKw pos (keywordEach kws env)).any (·.1.isNone) = false ∧ kws.length = ks.length
  | [], ks, h => by cases h; exact ⟨rfl, rfl, rfl, rfl⟩
  | ⟨a, v, p⟩ :: r, ks, h => by
    unfold kwNames at h
    cases a with
    | none => simp at h
    | some n =>
      cases q : kwNames r with
      | none => rw [q] at h; simp at h
      | some ns =>
        rw [q] at h
        cases h
        obtain ⟨i1, i2, i3, i4⟩ := kw_names (env := env) (pos := pos) q
        refine ⟨?_, ?_, ?_, ?_⟩
        · show ((some n, _) :: backToKw pos (keywordEach r env)).filterMap (·.1) = _
          rw [List.filterMap_cons, i1]
        · show ((some n, _) :: backToKw pos (keywordEach r env)).all (·.1.isSome) = true
          rw [List.all_cons, i2]; rfl
        · show ((some n, _) :: backToKw pos (keywordEach r env)).any (·.1.isNone) = false
          rw [List.any_cons, i3]; rfl
        · simp [i4]
theorem mk_callK {X : Cx} (Fa : Fac Γ F k) (hh : Γ.hot = false) (hX : Cxt Γ X) {c f n : Nat} {ks : List PySem.Str} (hi : (Γ.S.P.cl c).init = some f) (hm : (n + 1, ks) ∈ Γ.S.kw f) {pins : List (Addr × Obj)} {s : Shared} {σ : L2.St} {H : Hp} {vs zs : List V} {us ws : List Value} {Q : VK}
    (I : Inv X pins σ H s) (r : Vals vs us) (rz : Vals zs ws) (l1 : us.length = n) (l2 : ws.length = ks.length)
    (h : ∀ x dx, H x = none → H dx = none → dx ≠ x → spR Γ.S F f (.ref x :: (vs ++ zs)) (upd (upd H dx (.own x)) x (.ins (Γ.S.ca c) dx [])) (fun v H2 => v = .non ∧ Q (.ref x) H2) (WE Γ.W σ)) :
    wpAny (model X.prog X.w) X.A (call (.ref (Γ.S.ca c)) us (ks.zip ws)) (EP X pins σ Q) X.xe s := by
  have M := Fa.mki c f hi
  rw [← hX.K] at M
  have FR := Fa.runK hh f _ ks hm
  rw [← hX.pg, ← hX.w, ← hX.K, ← hX.mg, ← hX.base] at FR
  have hx := passAt hX.takes σ
  have hq := h (s.heap.objs.size + 1) s.heap.objs.size (I.hok.fresh (Nat.le_succ _)) (I.hok.fresh (Nat.le_refl _)) (Nat.ne_of_lt (Nat.lt_succ_self _))
  have I2 := Inv.made (C := Γ.S.ca c) I
  have r2 : Vals (V.ref (s.heap.objs.size + 1) :: vs) (Value.ref (s.heap.objs.size + 1) :: us) := .cons rfl r
  refine wpAny_call (make_map (f := Γ.S.fa f) I.kIn M.makes M.init (beq_iff_eq.mp M.fn) (codeAny_mono (FR _ X.stack _ _ (Value.ref (s.heap.objs.size + 1) :: us) ws _ zs _ (WE Γ.W σ) ((((hX.calm hh).2).mono (Nat.le_trans (by omega) Fa.room) : Room (k + 1) X.A).make (Γ.S.ca c) us (ks.zip ws))
    (I2.env0.make (Γ.S.ca c) us (ks.zip ws)) r2 rz (by rw [List.length_cons, l1]) l2 hq) fun r s' hq' => ?_))
  cases r with
  | error e => exact hx pins _ _ e s' I2 hq'
  | ok fl =>
    cases fl with
    | ret u =>
      obtain ⟨v, H', I3, rv, ev, q3⟩ := I2.after hq'
      subst ev
      exact ⟨rv, ⟨V.ref (s.heap.objs.size + 1), H', I3, rfl, q3⟩⟩
    | next => exact False.elim hq'
    | brk => exact False.elim hq'
    | cont => exact False.elim hq'
theorem so_makeK (Fa : Fac Γ F k) (hh : Γ.hot = false) {c f : Nat} {as : E} {x : PySem.Str} {p pos : Pos} {y : Expr} {ys : List Expr} {kws : List Keyword} {ks : List PySem.Str} (hi : (Γ.S.P.cl c).init = some f) (hk : kwNames kws = some ks) (hm : ((y :: ys).length + 1, ks) ∈ Γ.S.kw f)
    (hg : isGl Γ.sc x = true) (hv : Γ.S.gl x = some (.cls c)) (hs : (y :: ys).all noStar = true) (hl : SL Γ F as ((y :: ys) ++ kwVals kws) []) : SO Γ F (.make c as) (.Call (.Name x p) (y :: ys) kws pos) := by
  intro σ B H e r Q P hr K X
  obtain ⟨h1, h2⟩ := Fa.gls x _ hv
  have hr : cold Γ.hot (M.bind (evG Γ F as).l (mkObj Γ.S.P F Γ.np c)) e = some r := hr
  rw [hh] at hr
  refine ⟨fun σ H Q => wA Γ (y :: ys) σ H fun vs H1 => wA Γ (kwVals kws) σ H1 fun zs H2 => vs.length = (y :: ys).length ∧ zs.length = ks.length ∧ ∀ x dx, H2 x = none → H2 dx = none → dx ≠ x →
    spR Γ.S F f (.ref x :: (vs ++ zs)) (upd (upd H2 dx (.own x)) x (.ins (Γ.S.ca c) dx [])) (fun v H3 => v = .non ∧ Q (.ref x) H3) (WE Γ.W σ), fun X hX => ⟨fun pins s σ H Q I h => ?_⟩, ?_⟩
  · refine wpAny_Call_Name_kw (ld_glob I (isGl_ok hX hg).1 (by rw [hX.mg]; exact h1) ?_ (isGl_ok hX hg).2.1)
    obtain ⟨n1, n2, n3, n4⟩ := kw_names (env := X.env) (pos := pos) hk
    have hplain : ((backTo pos (starEach (y :: ys) X.env)).any (·.1) || (backToKw pos (keywordEach kws X.env)).any (·.1.isNone)) = false := by
      rw [n3, noStars_plain hs]; rfl
    refine PySem.W.callWith_KW (h₀ := X.base) I.ok.mod.kin (by rw [hX.K]; exact h2) n2 (thn ((wA_pa hX hs).run pos pins s σ H _ I h) fun us s1 ⟨vs, H1, I1, r1, q⟩ => ?_) hplain (any_cons (X := X) (pos := pos) hs).1
    refine thn ((kw_pk hX kws).run pos pins s1 σ H1 _ I1 q) fun ws s2 ⟨zs, H2, I2, rz, l1, l2, q2⟩ => ⟨I2.kIn, ?_⟩
    rw [n1]
    exact mk_callK Fa hh hX hi hm I2 r1 rz (show us.length = _ by rw [← r1.length, l1]) (by rw [← rz.length, l2]) q2
  · have len : ∀ (a : List Expr) (σ : L2.St) (H : Hp) (R R' : List V → Hp → Prop), wA Γ a σ H R → (∀ vs H, vs.length = a.length → R vs H → R' vs H) → wA Γ a σ H R' := by
      intro a
      induction a with
      | nil => intro σ H R R' h q; exact q [] H rfl h
      | cons x a ih => intro σ H R R' h q; exact wA_append.W_mono (Q' := fun v H1 => wA Γ a σ H1 fun vs H2 => R' (v :: vs) H2) h fun v H1 z => ih σ H1 _ _ z fun vs H2 hl z => q (v :: vs) H2 (by simp [hl]) z
    have st := list_step0 (R' := fun vs H2 => ∀ x dx, H2 x = none → H2 dx = none → dx ≠ x → spR Γ.S F f (.ref x :: vs) (upd (upd H2 dx (.own x)) x (.ins (Γ.S.ca c) dx [])) (fun v H3 => v = .non ∧ Q (.ref x) H3) (WE Γ.W σ)) hl P hr X
      fun as' e1 vs B1 H1 hf P1 po ars fr => make_inv hi P1 ars hf (fin_KO po fr K) (fin_KX po fr X)
    refine len _ _ _ _ _ (wA_append _ _ _ _ _ st) fun vs H1 l1 q => len _ _ _ _ _ q fun zs H2 l2 q2 => ⟨l1, ?_, q2⟩
    rw [l2]
    unfold kwVals
    rw [List.length_map]
    exact (kw_names (env := default) (pos := pos) hk).2.2.2
/-! ### list(range(a, b)) -/
theorem rg_reps {B : Hp} (a b : Int) : Reps Γ.S B (rgV a b) (rangeF a 1 (b - a).toNat) := by
  show Reps Γ.S B ((List.range (b - a).toNat).map fun i => V.int (a + (i : Nat))) ((List.range (b - a).toNat).map fun (i : Nat) => D.int (a + (i : Int) * 1))
  generalize (List.range (b - a).toNat) = l
  induction l with
  | nil => rw [List.map_nil, List.map_nil]; exact .nil
  | cons i l ih =>
    rw [List.map_cons, List.map_cons]
    refine .cons ?_ ih
    rw [Int.mul_one]
    exact .int _
theorem so_lrg (Fa : Fac Γ F k) (hh : Γ.hot = false) {a b : E} {x y : Expr} {p p2 pos pos2 : Pos} (hg : isGl Γ.sc "list" = true) (hg2 : isGl Γ.sc "range" = true) (hs : [x, y].all noStar = true) (ha : SO Γ F a x) (hb : SO Γ F b y) :
    SO Γ F (.lrg a b) (.Call (.Name "list" p) [.Call (.Name "range" p2) [x, y] [] pos2] [] pos) := by
  intro σ B H e r Q P hr K X
  have hr : cold Γ.hot (M.bind (evG Γ F a).o fun x => M.bind (evG Γ F b).o fun y => fun e => match derefs e [x, y] with
    | some [.int i, .int j] => if -(2 ^ 40) < i ∧ i < 2 ^ 40 ∧ -(2 ^ 40) < j ∧ j < 2 ^ 40 ∧ j - i ≤ 16777216 then some (.ok (.v true (.lst (rangeF i 1 (j - i).toNat))) e) else none
    | _ => none) e = some r := hr
  rw [hh] at hr
  have hs1 : (noStar x && noStar y) = true := by simpa using hs
  obtain ⟨nx, ny⟩ := Bool.and_eq_true_iff.mp hs1
  refine ⟨tLstRg (tRg2 (W Γ x) (W Γ y)), fun Y hY => ?_, ?_⟩
  · exact pe_listRg (hY.calm hh).1 (isGl_ok hY hg).1 (by rw [hY.mg]; exact Fa.blt _ (.inl (by decide))) (prg_2 (isGl_ok hY hg2).1 (by rw [hY.mg]; exact Fa.blt _ (.inl (by decide))) (W_pe hY) (W_pe hY) (starEach_of nx) (starEach_of ny) (noStars_plain (r := [y]) (by simpa using ny))) rfl
  · show W Γ x σ H fun v H1 => W Γ y σ H1 fun u H2 => ∃ i j, v = .int i ∧ u = .int j ∧ RgOk i j ∧ ∀ q, H2 q = none → Q (.ref q) (upd H2 q (.lst (rgV i j)))
    refine one_step ha P hr X fun xa e1 v B1 H1 hf po ar fr => ?_
    refine one_step hb po.pst hf (X.step po fun _ _ _ z => z) fun ya e2 u B2 H2 hf2 po2 ar2 fr2 => ?_
    have ar1 := po2.ar ar
    cases q1 : derefs e2 [xa, ya] with
    | none => simp only [q1] at hf2; cases hf2
    | some ds =>
      simp only [q1] at hf2
      match ds, hf2 with
      | [.int i, .int j], hf2 =>
        have hf2 : (if -(2 ^ 40) < i ∧ i < 2 ^ 40 ∧ -(2 ^ 40) < j ∧ j < 2 ^ 40 ∧ j - i ≤ 16777216 then some (R.ok (Ar.v true (.lst (rangeF i 1 (j - i).toNat))) e2) else none) = some r := hf2
        split at hf2
        · rename_i hb
          cases hf2
          have hd1 : deref e2 xa = some (.int i) ∧ deref e2 ya = some (.int j) := by
            unfold derefs derefs derefs at q1
            cases z1 : deref e2 xa with
            | none => simp only [z1] at q1; cases q1
            | some d1 =>
              cases z2 : deref e2 ya with
              | none => simp only [z1, z2] at q1; cases q1
              | some d2 => simp only [z1, z2] at q1; cases q1; exact ⟨rfl, rfl⟩
          have hx := (ar1.dr po2.pst hd1.1).int
          have hy := (ar2.dr po2.pst hd1.2).int
          refine ⟨i, j, hx, hy, ⟨by omega, by omega, by omega, by omega, by omega⟩, fun q hq => ?_⟩
          have n := new_lst (S := Γ.S) po2.pst.ext hq (rg_reps (Γ := Γ) (B := B2) i j)
          obtain ⟨po3, ar3, fr3⟩ := new_po po2.pst n
          exact K _ _ rfl _ B2 _ ((po.then po2).then po3) ar3 fun q t => (po.then po2).stp.fresh (fr3 q t)
        · cases hf2
end
end Gal
set_option Elab.async false
set_option linter.all false
set_option maxRecDepth 100000
/-! G31: the check with comprehensions and what loops walk. -/
namespace Gal
open PySem L2 PyProof.Rows PySem.Spec
def notSet : Expr → Bool
  | .Set _ _ _ => false
  | _ => true
theorem notSet_ok {e : Expr} (h : notSet e = true) : ∀ env x, foldedSetIterable e env x = pure x := by
  intro env x
  cases e <;> first | rfl | cases h
structure Ckx where
  o : Expr → Bool
  l : List Expr → List D → Bool
  b : List Expr → Bool
  p : Option Expr → Bool
  /-- as what a loop walks -/
  i : Io → Expr → Expr → Bool
def ckxV (f : Expr → Bool) : Ckx := ⟨f, fun _ _ => false, fun _ => false, fun x => match x with
  | some x => f x
  | none => false, fun _ _ _ => false⟩
def ckx (c : Cp) : E → Ckx
  | .var i => ckxV fun x => match x with
    | .Name id _ => decide (c.N[i]? = some id) && isVis c.sc id
    | _ => false
  | .con d => ckxV fun x => match x with
    | .Constant k _ _ => constEq k d
    | _ => false
  | .gl k => ckxV fun x => match x with
    | .Name id _ => isGl c.sc id && decide (c.gl id = some (.val k))
    | _ => false
  | .op o as => ckxV fun x => match x with
    | .BinOp a op b _ => decide (binOf op = some o) && (ckx c as).l [a, b] []
    | .UnaryOp op a _ => decide (unOf op = some o) && (ckx c as).l [a] []
    | .Compare a [op] [b] _ => decide (cmpOf op = some o) && !behindInMarks op b && (ckx c as).l [a, b] []
    | .Subscript a b _ => decide (o = .ix) && plainIx b && (ckx c as).l [a, b] []
    | .Call (.Name id _) (y :: ys) [] _ => isGl c.sc id && (match bltOf id (y :: ys).length with
      | some (o', hb) => decide (o' = o) && (hb || !c.hot)
      | none => false) && (ckx c as).l (y :: ys) []
    | _ => false
  | .mt m ob as => ckxV fun x => match x with
    | .Call (.Attribute o name apos) [y] [] pos => decide (mtOf name = some m) && (ckx c ob).o o && noSuper o && (apos.endLine == pos.line) && (ckx c as).l [y] []
    | _ => false
  | .bool a ms => ckxV fun x => match x with
    | .BoolOp op xs _ => (isAnd op == a) && (ckx c ms).b xs
    | _ => false
  | .not m => ckxV fun x => match x with
    | .UnaryOp .Not a _ => (ckx c m).o a && noIte m
    | _ => false
  | .ite mc ma mb => ckxV fun x => match x with
    | .IfExp t a b _ => (ckx c mc).o t && noIte mc && (ckx c ma).o a && (ckx c mb).o b
    | _ => false
  | .chain o1 o2 ma mb mc => ckxV fun x => match x with
    | .Compare a [p1, p2] [b, d] _ => decide (cmpOf p1 = some o1) && decide (cmpOf p2 = some o2) && !lastMarks [p1, p2] [b, d] && (ckx c ma).o a && (ckx c mb).o b && (ckx c mc).o d
    | _ => false
  | .call f as => ckxV fun x => match x with
    | .Call (.Name id _) es [] _ => isGl c.sc id && decide (c.gl id = some (.fn f)) && !c.hot && (ckx c as).l es ((c.dd f).drop (dfl c f as es))
    | _ => false
  | .meth m ob as => ckxV fun x => match x with
    | .Call (.Attribute o name apos) es [] pos => decide (name = c.an m) && decide (m < c.nA) && (ckx c ob).o o && noSuper o && decide (es.length < 30) && (apos.endLine == pos.line) && !c.hot && (ckx c as).l es []
    | _ => false
  | .make k as => ckxV fun x => match x with
    | .Call (.Name id _) es [] _ => isGl c.sc id && decide (c.gl id = some (.cls k)) && !c.hot && (match (c.P.cl k).init with
      | some f => (ckx c as).l es ((c.dd f).drop (dfl c f as es))
      | none => false)
    | .Call (.Name id _) (y :: ys) (kw :: kws) _ => isGl c.sc id && decide (c.gl id = some (.cls k)) && !c.hot && (y :: ys).all noStar && (match (c.P.cl k).init with
      | some f => (match kwNames (kw :: kws) with
        | some ks => decide (((y :: ys).length + 1, ks) ∈ c.kw f) && (ckx c as).l ((y :: ys) ++ kwVals (kw :: kws)) []
        | none => false)
      | none => false)
    | _ => false
  | .cm k m as => ckxV fun x => match x with
    | .Call (.Attribute (.Name id _) name apos) (y :: ys) [] pos => isGl c.sc id && decide (c.gl id = some (.cls k)) && !c.hot && decide (name = c.an m) && decide ((y :: ys).length < 30) && (apos.endLine == pos.line) && (match (c.P.cl k).cms.lookup m with
      | some f => (ckx c as).l (y :: ys) ((c.dd f).drop (dfl c f as (y :: ys)))
      | none => false)
    | _ => false
  | .mkv k i as => ckxV fun x => match x with
    | .Call (.Name id _) es [] _ => decide (c.N[i]? = some id) && isVis c.sc id && !c.hot && (match (c.P.cl k).init with
      | some f => (ckx c as).l es ((c.dd f).drop (dfl c f as es))
      | none => false)
    | _ => false
  | .callo ob as => ckxV fun x => match x with
    | .Call fe (y :: ys) [] _ => notAttr fe && (ckx c ob).o fe && !c.hot && (ckx c as).l (y :: ys) []
    | _ => false
  | .fld f ob => ckxV fun x => match x with
    | .Attribute o name _ => decide (name = c.an f) && decide (f < c.nA) && (ckx c ob).o o && noSuper o
    | _ => false
  | .isi t ob => ckxV fun x => match x with
    | .Call (.Name id _) [o, tx] [] _ => decide (id = "isinstance") && isGl c.sc id && okTy c.P t && (ckx c ob).o o && tyOk c t tx && noStar o
    | _ => false
  | .slice a lo hi => ckxV fun x => match x with
    | .Subscript a' (.Slice l h none _) _ => (ckx c a).o a' && (ckx c lo).p l && (ckx c hi).p h
    | _ => false
  | .lst as => ckxV fun x => match x with
    | .List es _ => (ckx c as).l es []
    | _ => false
  | .tup as => ckxV fun x => match x with
    | .Tuple es _ _ => (ckx c as).l es []
    | _ => false
  | .dct => ckxV fun x => match x with
    | .Dict [] [] _ => true
    | _ => false
  | .lrg a b => ckxV fun x => match x with
    | .Call (.Name id _) [.Call (.Name id2 _) [y, z] [] _] [] _ => decide (id = "list") && decide (id2 = "range") && isGl c.sc id && isGl c.sc id2 && !c.hot && [y, z].all noStar && (ckx c a).o y && (ckx c b).o z
    | _ => false
  | .exf f i => ckxV fun x => match x with
    | .Attribute (.Name id _) name _ => decide (c.N[i]? = some id) && isVis c.sc id && decide (name = c.an f)
    | _ => false
  | .exi t i => ckxV fun x => match x with
    | .Call (.Name id _) [.Name id2 _, tx] [] _ => decide (id = "isinstance") && isGl c.sc id && decide (c.N[i]? = some id2) && isVis c.sc id2 && tyOk c t tx
    | _ => false
  | .nil => ⟨fun _ => false, fun xs ds => xs.isEmpty && ds.isEmpty, fun _ => false, fun x => x.isNone, fun _ _ _ => false⟩
  | .cons m r => ⟨fun _ => false, fun xs ds => match xs with
      | x :: xs => noStar x && (ckx c m).o x && (ckx c r).l xs ds
      | [] => conL (.cons m r) ds,
    fun xs => match xs with
      | [x] => (ckx c m).o x && noIte m && isNil r
      | x :: y :: ys => (ckx c m).o x && noIte m && (ckx c r).b (y :: ys)
      | [] => false, fun _ => false,
    fun w tg it => match w with
      | .seq => isNil r && (ckx c m).o it && notSet it
      | .range1 => match it with
        | .Call (.Name id _) [y] [] _ => decide (id = "range") && isGl c.sc id && noStar y && (ckx c m).o y && isNil r
        | _ => false
      | .range2 => match it with
        | .Call (.Name id _) [y, z] [] _ => decide (id = "range") && isGl c.sc id && noStar y && (ckx c m).o y && (ckx c r).l [z] []
        | _ => false
      | .enum => match tg, it with
        | .Tuple _ _ _, .Call (.Name id _) [y] [] _ => decide (id = "enumerate") && isGl c.sc id && noStar y && (ckx c m).o y && isNil r
        | _, _ => false
      | .zip => match tg, it with
        | .Tuple _ _ _, .Call (.Name id _) [y, z] [] _ => decide (id = "zip") && isGl c.sc id && noStar y && (ckx c m).o y && (ckx c r).l [z] []
        | _, _ => false
      | _ => false⟩
  | .lc own t w src cd m => ckxV fun x => match x with
    | .ListComp elt [⟨tg, iter, ifs, a⟩] scope _ => decide (a = 0) && !c.hot && (tgS t).all (fun i => own.contains i) && blkC c.N c.sc scope (ownp c.N own) && ckT c.N scope t tg && (ckx c src).i w tg iter
        && (match ifs with
          | [] => isNil cd
          | [y] => (ckx { c with sc := relS scope c.sc } cd).o y && noIte cd
          | _ => false) && (ckx { c with sc := relS scope c.sc } m).o elt
    | _ => false
  | _ => ckxV fun _ => false
end Gal
set_option Elab.async false
set_option linter.all false
set_option maxRecDepth 100000
set_option maxHeartbeats 1000000
/-! GZ: zip of two things of any kind: lists, tuples, texts. -/
namespace Gal
open PySem L2 PyProof.Rows PySem.Spec
/-- what is zipped -/
inductive Zk where
  | lst (a : Addr)
  | tup (a : Addr)
  | txt (x : PySem.Str)
def Zk.cells : Zk → List Addr
  | .lst a => [a]
  | .tup a => [a]
  | .txt _ => []
def Zk.v : Zk → V
  | .lst a => .ref a
  | .tup a => .ref a
  | .txt x => .str x
/-- its iterator, i turns on -/
def Zk.at (it : Addr) (i : Nat) (h : Heap) : Zk → Prop
  | .lst a => h.IsListIter it a i
  | .tup a => h.IsTupleIter it a i
  | .txt x => ∃ t, h.IsStrIter it (strIterType x) x t i
def Zk.Has (K : PySem.W.Frag) (H : Hp) (xs : List V) : Zk → Prop
  | .lst a => SqL K H a xs
  | .tup a => SqT K H a xs
  | .txt x => xs = x.cps.toList.map fun c => V.str ⟨#[c]⟩
def ItzX (K : PySem.W.Frag) (k1 k2 : Zk) : It :=
  ⟨fun i H => ∃ (xs ys : List V) (x y : V), k1.Has K H xs ∧ k2.Has K H ys ∧ xs[i]? = some x ∧ ys[i]? = some y,
    fun i H v H' => ∃ T x y, v = .ref T ∧ H T = none ∧ H' = upd H T (.tup [x, y]) ∧ (∀ xs, k1.Has K H xs → xs[i]? = some x) ∧ ∀ ys, k2.Has K H ys → ys[i]? = some y,
    fun i H => ∃ xs ys : List V, k1.Has K H xs ∧ k2.Has K H ys ∧ i ≤ xs.length ∧ i ≤ ys.length ∧ (i = xs.length ∨ i = ys.length)⟩
section
variable {X : Cx} {pins : List (Addr × Obj)} {σ : L2.St} {H : Hp} {s : Shared}
theorem Zk.inj (I : Inv X pins σ H s) {xs ys : List V} : ∀ (k : Zk), k.Has X.K H xs → k.Has X.K H ys → xs = ys
  | .lst a, h, h' => I.list_inj h h'
  | .tup a, h, h' => I.tuple_inj h h'
  | .txt x, h, h' => Eq.trans h (Eq.symm h')
theorem Zk.draws (I : Inv X pins σ H s) {A : Around} (hh : A.handled = none) {xs : List V} {it : Addr} {i : Nat} : ∀ (k : Zk), it ∉ k.cells → k.Has X.K H xs → k.at it i s.heap →
    ∃ (n : Nat) (P : Nat → Value → Prop) (St : Nat → Heap → Prop), n = xs.length ∧ Draws X.prog X.w A it (it :: k.cells) n P St ∧ St i s.heap ∧ (∀ j h, St j h → k.at it j h) ∧ ∀ j v, P j v → ∃ x, xs[j]? = some x ∧ RelV x v
  | .lst a, hne, hx, st => by
    obtain ⟨its, rv, p, _⟩ := I.list hx
    refine ⟨_, _, _, ?_, Draws.list hh it a (fun e => hne (by rw [e]; exact List.mem_cons_self ..)) its.toArray, ⟨st, p.isList⟩, fun j h q => q.1, fun j v q => ?_⟩
    · rw [List.size_toArray, rv.length]
    · have q : its[j]? = some v := by simpa using q
      obtain ⟨hj, _⟩ := List.getElem?_eq_some_iff.mp q
      have hj' : j < xs.length := by rw [rv.length]; exact hj
      have hx' : xs[j]? = some xs[j] := List.getElem?_eq_getElem hj'
      obtain ⟨u, hu, ru⟩ := rv.get hx'
      rw [q] at hu
      cases hu
      exact ⟨_, hx', ru⟩
  | .tup a, hne, hx, st => by
    obtain ⟨its, rv, p, _⟩ := I.tuple hx
    refine ⟨_, _, _, ?_, Draws.tuple hh it a (fun e => hne (by rw [e]; exact List.mem_cons_self ..)) its.toArray, ⟨st, p⟩, fun j h q => q.1, fun j v q => ?_⟩
    · rw [List.size_toArray, rv.length]
    · have q : its[j]? = some v := by simpa using q
      obtain ⟨hj, _⟩ := List.getElem?_eq_some_iff.mp q
      have hj' : j < xs.length := by rw [rv.length]; exact hj
      have hx' : xs[j]? = some xs[j] := List.getElem?_eq_getElem hj'
      obtain ⟨u, hu, ru⟩ := rv.get hx'
      rw [q] at hu
      cases hu
      exact ⟨_, hx', ru⟩
  | .txt x, _, hx, ⟨t, st⟩ => by
    have hx : xs = x.cps.toList.map fun c => V.str ⟨#[c]⟩ := hx
    subst hx
    refine ⟨_, _, _, by simp, Draws.text hh it x t, st, fun j h q => ⟨t, q⟩, fun j v q => ?_⟩
    obtain ⟨c, u, hc, rfl⟩ := q
    exact ⟨.str ⟨#[c]⟩, by rw [List.getElem?_map]; simp [hc], u, rfl⟩
theorem Zk.at_keep {it : Addr} {i : Nat} {h h' : Heap} (k : ∀ o, h.get? it = some o → h'.get? it = some o) : ∀ (z : Zk), z.at it i h → z.at it i h'
  | .lst a, st => Heap.IsListIter.at st k
  | .tup a, st => Heap.IsTupleIter.at st k
  | .txt x, ⟨t, o, e, r⟩ => ⟨t, o, k o e, r⟩
theorem Zk.at_obj {it : Addr} {i : Nat} {h : Heap} : ∀ (z : Zk), z.at it i h → ∃ o, h.get? it = some o ∧ ∀ v, o.data ≠ .cell v
  | .lst a, ⟨o, e, c, d⟩ => ⟨o, e, fun v q => by rw [d] at q; cases q⟩
  | .tup a, ⟨o, e, c, d⟩ => ⟨o, e, fun v q => by rw [d] at q; cases q⟩
  | .txt x, ⟨t, o, e, c, d⟩ => ⟨o, e, fun v q => by rw [d] at q; cases q⟩
end
section
variable {P : Program} {w : World} {K : PySem.W.Frag}
theorem turn_zipX {elts : List Expr} {kk : Nat} {tpos : Pos} {k1 k2 : Zk} {z TI TO i1 i2 : Addr} (S : ZipSep2 z TI TO i1 i2 (i1 :: k1.cells) (i2 :: k2.cells)) (m1 : i1 ∉ k1.cells) (m2 : i2 ∉ k2.cells) :
    Turn P w K (.Tuple elts kk tpos) (ItzX K k1 k2) [z, TI, TO, i1, i2] z (fun i h => IsZip h z TI TO .none ∧ IsPair h TI (.ref i1) (.ref i2) ∧ (∃ x y, IsPair h TO x y) ∧ k1.at i1 i h ∧ k2.at i2 i h) where
  mem := by simp
  obj := fun i h st c hc => by
    obtain ⟨hz, hTI, ⟨x, y, hTO⟩, h1, h2⟩ := st
    simp only [List.mem_cons, List.not_mem_nil, or_false] at hc
    rcases hc with rfl | rfl | rfl | rfl | rfl
    · exact ⟨_, hz, fun v q => nomatch q⟩
    · exact ⟨_, hTI, fun v q => nomatch q⟩
    · exact ⟨_, hTO, fun v q => nomatch q⟩
    · exact k1.at_obj h1
    · exact k2.at_obj h2
  keep := fun i h h' st kp => by
    obtain ⟨hz, hTI, ⟨x, y, hTO⟩, h1, h2⟩ := st
    exact ⟨kp z (by simp) _ hz, kp TI (by simp) _ hTI, ⟨x, y, kp TO (by simp) _ hTO⟩, k1.at_keep (kp i1 (by simp)) h1, k2.at_keep (kp i2 (by simp)) h2⟩
  item := by
    intro X hP hw hK hc i pins s σ H E I hf st hg
    subst hP hw hK
    obtain ⟨hz, hTI, ⟨x0, y0, hTO⟩, h1, h2⟩ := st
    obtain ⟨xs, ys, x, y, hqx, hqy, hx, hy⟩ := hg
    have hh : X.A.in1.handled = none := I.ok.hd hc
    obtain ⟨n1, P1, S1, e1, D1, s1, b1, v1⟩ := k1.draws I hh m1 hqx h1
    obtain ⟨n2, P2, S2, e2, D2, s2, b2, v2⟩ := k2.draws I hh m2 hqy h2
    have l1 : i < n1 := by rw [e1]; exact (List.getElem?_eq_some_iff.mp hx).1
    have l2 : i < n2 := by rw [e2]; exact (List.getElem?_eq_some_iff.mp hy).1
    have hzl : z < s.heap.objs.size := Heap.lt_size hz
    refine wpAny_pyNext_zipD2_item S D1 D2 hz hTI hTO s1 s2 l1 l2 fun u u2 h' tk q1 q2 z' TO' st1 st2 hT hsz hk => ?_
    obtain ⟨x', hx', ru⟩ := v1 _ _ q1
    obtain ⟨y', hy', ru2⟩ := v2 _ _ q2
    rw [hx] at hx'
    rw [hy] at hy'
    cases hx'
    cases hy'
    refine ⟨_, rfl, wpAny_letOwnedTupleGo_zip (s := { s with heap := h', toks := tk }) z' fun h'' z'' sb => ?_⟩
    have hT2 : h''.get? s.heap.objs.size = some { cls := .type "tuple", data := .seq #[u, u2] } := (sb.2 _ (Nat.ne_of_gt hzl)).trans hT
    have new : ObjOk X.prog X.w (upd H s.heap.objs.size (.tup [x, y])) h'' s.heap.objs.size (.tup [x, y]) :=
      ⟨by show 2 ≤ sizeLine; decide, [u, u2], .cons ru (.cons ru2 .nil), ⟨_, hT2, rfl, _, rfl⟩⟩
    have I1 : Inv X pins σ (upd H s.heap.objs.size (.tup [x, y])) { s with heap := h'', toks := tk } :=
      I.turnedNew (t' := tk) (ch := [z, TI, TO, i1, i2]) (fun c o hb q => (sb.2 c (fun q' => hb (by simp [q']))).trans (hk c o (fun q' => hb (by simp [q'])) (fun q' => hb (by simp [q'])) (fun q' => hb (by simp [q'])) (fun q' => hb (by simp [q'])) q)) hf (Nat.le_refl _) new
    refine ⟨.ref s.heap.objs.size, _, I1, rfl, ⟨_, x, y, rfl, I.hok.fresh (Nat.le_refl _), rfl, fun l hl => by rw [k1.inj I hl hqx]; exact hx, fun l hl => by rw [k2.inj I hl hqy]; exact hy⟩, ⟨z'', ?_, ⟨u, u2, ?_⟩, ?_, ?_⟩, fun c hcm => ?_⟩
    · exact (sb.2 _ S.TIz).trans (hk _ _ S.TIz S.TITO S.TIi1 S.TIi2 hTI)
    · exact (sb.2 _ S.TOz).trans TO'
    · exact k1.at_keep (fun o q => (sb.2 _ S.zi1.symm).trans q) (b1 _ _ st1)
    · exact k2.at_keep (fun o q => (sb.2 _ S.zi2.symm).trans q) (b2 _ _ st2)
    · have hlt : c < s.heap.objs.size := by
        simp only [List.mem_cons, List.not_mem_nil, or_false] at hcm
        rcases hcm with rfl | rfl | rfl | rfl | rfl
        · exact hzl
        · exact Heap.lt_size hTI
        · exact Heap.lt_size hTO
        · obtain ⟨_, e1, _⟩ := k1.at_obj h1; exact Heap.lt_size e1
        · obtain ⟨_, e2, _⟩ := k2.at_obj h2; exact Heap.lt_size e2
      rw [upd_ne (Nat.ne_of_lt hlt)]
      exact (hf c hcm).1
  done := by
    intro X hP hw hK hc i pins s σ H E I hf st hg
    subst hP hw hK
    obtain ⟨hz, hTI, ⟨x0, y0, hTO⟩, h1, h2⟩ := st
    obtain ⟨xs, ys, hqx, hqy, l1, l2, hend⟩ := hg
    have hh : X.A.in1.handled = none := I.ok.hd hc
    obtain ⟨n1, P1, S1, e1, D1, s1, b1, v1⟩ := k1.draws I hh m1 hqx h1
    obtain ⟨n2, P2, S2, e2, D2, s2, b2, v2⟩ := k2.draws I hh m2 hqy h2
    exact wpAny_pyNext_zipD2_end S D1 D2 hz hTI hTO s1 s2 (by omega) (by omega) (by omega) fun h' tk hk => ⟨rfl, I.turnedL (t' := tk) (ch := [z, TI, TO, i1, i2]) (fun c o hb q =>
      hk c o (fun q' => hb (by simp [q'])) (fun q' => hb (by simp [q'])) (fun q' => hb (by simp [q'])) (fun q' => hb (by simp [q'])) q) hf⟩
  self := fun A i s Q E st h => wpAny_pyIter_zip st.1 h
end
section
variable {X : Cx} {pins : List (Addr × Obj)} {σ : L2.St} {H : Hp} {s : Shared}
theorem Zk.begins (I : Inv X pins σ H s) {xs : List V} {u : Value} : ∀ (k : Zk), k.Has X.K H xs → RelV k.v u → ∃ (o : Obj) (G : Heap → Prop), Begins u o G ∧ G s.heap ∧ (∀ it h, h.get? it = some o → k.at it 0 h) ∧ ∀ c ∈ k.cells, c < s.heap.objs.size
  | .lst a, hx, r => by
    cases r
    obtain ⟨its, rv, p, _⟩ := I.list hx
    exact ⟨_, _, begins_list a its.toArray, p.isList, fun it h e => ⟨_, e, rfl, rfl⟩, fun c hc => by
      have e : c = a := by simpa [Zk.cells] using hc
      rw [e]; exact p.lt⟩
  | .tup a, hx, r => by
    cases r
    obtain ⟨its, rv, p, _⟩ := I.tuple hx
    obtain ⟨o1, ho1, _⟩ := id p
    exact ⟨_, _, begins_tuple a its.toArray, p, fun it h e => ⟨_, e, rfl, rfl⟩, fun c hc => by
      have e : c = a := by simpa [Zk.cells] using hc
      rw [e]; exact Heap.lt_size ho1⟩
  | .txt x, hx, r => by
    obtain ⟨t, rfl⟩ := r
    exact ⟨_, _, begins_text x t, trivial, fun it h e => ⟨t, _, e, rfl, rfl⟩, fun c hc => by simp [Zk.cells] at hc⟩
def iZipX (K : PySem.W.Frag) (ta : TA) : TI := fun σ H R => ta σ H fun vs H1 => ∃ (k1 k2 : Zk) (xs ys : List V), vs = [k1.v, k2.v] ∧ k1.Has K H1 xs ∧ k2.Has K H1 ys ∧ R (ItzX K k1 k2) H1
theorem pi_zipX {e e2 : Expr} {ta : TA} {p pos tpos : Pos} {elts : List Expr} {kk : Nat} (hg : Gl X "zip") (hm : X.mg "zip" = none) (ha : PA X [e, e2] ta)
    (hs : starEach [e, e2] X.env = (false, eval e X.env) :: starEach [e2] X.env := by rfl) (hpl : (backTo pos (starEach [e2] X.env)).any (·.1) = false := by rfl) :
    PI X (.Tuple elts kk tpos) (.Call (.Name "zip" p) [e, e2] [] pos) (iZipX X.K ta) := by
  refine ⟨fun pins s σ H R I h => ?_⟩
  refine Call_ (ld_blt I hg hm PyProof.Rows.boot_zip (PyProof.Rows.callWith_type1 (thn (ha.run pos pins s σ H _ I h) fun us s1 ⟨vs, H1, I1, r1, q1⟩ => ?_) hs hpl))
  obtain ⟨k1, k2, xs, ys, rfl, hx, hy, q⟩ := q1
  cases r1 with
  | cons r rr =>
    cases rr with
    | cons r' rr =>
      cases rr
      obtain ⟨o1, G1, B1, g1, a1, c1⟩ := k1.begins I1 hx r
      obtain ⟨o2, G2, B2, g2, a2, c2⟩ := k2.begins I1 hy r'
      refine zip_begins2 B1 B2 g1 g2 fun h' hz hTI hTO h1 h2 hsz hk => wpAny_pyIter_zip hz ?_
      have I2 : Inv X pins σ H1 { s1 with heap := h' } := I1.kept (t' := s1.toks) hk
      refine ⟨s1.heap.objs.size + 4, [s1.heap.objs.size + 4, s1.heap.objs.size + 2, s1.heap.objs.size + 3, s1.heap.objs.size, s1.heap.objs.size + 1], _, _, H1, rfl, I2, turn_zipX (zip_sep2 c1 c2) (fun e => Nat.lt_irrefl _ (c1 _ e)) (fun e => Nat.lt_irrefl _ (Nat.lt_of_succ_lt (c2 _ e))), ⟨hz, hTI, ⟨_, _, hTO⟩, a1 _ _ h1, a2 _ _ h2⟩, fun c hcm => ?_, q⟩
      have hle : s1.heap.objs.size ≤ c := by
        simp only [List.mem_cons, List.not_mem_nil, or_false] at hcm
        rcases hcm with rfl | rfl | rfl | rfl | rfl <;> first | exact Nat.le_add_right _ _ | exact Nat.le_refl _
      exact I1.fpOk hle (I1.hok.fresh hle)
end
section
variable {Γ : Ct} {F : Callee} {k : Nat} {σ σ1 σ2 σ' : L2.St} {B H B1 H1 B2 H2 B' H' : Hp} {e e1 e2 e' : Env}
theorem reps_signs {s : List Nat} : ∀ (h : ∀ c ∈ s, c < 1114112), Reps Γ.S B (s.map fun c => V.str ⟨#[c]⟩) (s.map fun c => D.str [c]) := by
  induction s with
  | nil => exact fun _ => .nil
  | cons c r ih => exact fun h => .cons (.str [c] ⟨fun c' hc' => by
      have : c' = c := by simpa using hc'
      rw [this]; exact h c (List.mem_cons_self ..), by simp [LIM]⟩) (ih fun x hx => h x (List.mem_cons_of_mem _ hx))
/-- a list, the script, a tuple or a text, that stays -/
theorem staysX {a : Ar} {v : V} {d : D} {xs : List D} (as : List Ar) (P : Pst Γ σ B H e) (ar : ArR Γ σ B H e a v) (hd : deref e a = some d) (hx : seqD d = some xs) (hm : ∀ i, a = .r i → i ∈ refs as) :
    ∃ (z : Zk) (vs : List V), v = z.v ∧ z.Has Γ.S.K H vs ∧ Reps Γ.S B vs xs ∧ ∀ σ' B' H' e', Ps Γ σ B H (hold as e) σ' B' H' e' → z.Has Γ.S.K H' vs := by
  cases d with
  | lst ds =>
    obtain ⟨p, vs, rfl, h1, h2, h3⟩ := staysL as P ar hd (show seqL (.lst ds) = some xs from hx) hm
    exact ⟨.lst p, vs, rfl, h1, h2, h3⟩
  | scr ns =>
    obtain ⟨p, vs, rfl, h1, h2, h3⟩ := staysL as P ar hd (show seqL (.scr ns) = some xs from hx) hm
    exact ⟨.lst p, vs, rfl, h1, h2, h3⟩
  | tup ds =>
    cases hx
    have rp : ∃ p vs, v = .ref p ∧ B p = some (.tup vs) ∧ Reps Γ.S B vs xs := by
      rcases ar.dr P hd with r | ⟨p, _, r⟩
      · cases r with
        | tup h r => exact ⟨_, _, rfl, h, r⟩
      · cases r
    obtain ⟨p, vs, rfl, hp, rs⟩ := rp
    exact ⟨.tup p, vs, rfl, .inl (.inl (P.ext _ _ hp)), rs, fun σ' B' H' e' ps => .inl (.inl (ps.pst.ext _ _ (ps.stp.b _ _ hp)))⟩
  | str s =>
    cases hx
    have rp : v = .str (mkS s) ∧ StrOk s := by
      rcases ar.dr P hd with r | ⟨p, _, r⟩
      · cases r with
        | str _ h => exact ⟨rfl, h⟩
      · cases r
    obtain ⟨rfl, ok⟩ := rp
    exact ⟨.txt (mkS s), s.map fun c => V.str ⟨#[c]⟩, rfl, by simp [Zk.Has, mkS], reps_signs ok.1, fun σ' B' H' e' ps => by simp [Zk.Has, mkS]⟩
  | _ => cases hx
theorem walk_zipX {K : PySem.W.Frag} {k1 k2 : Zk} {xs ys : List V} {n : Nat} (hn : n = min xs.length ys.length) : Walk (ItzX K k1 k2) n (fun H => k1.Has K H xs ∧ k2.Has K H ys) (YPair (fun i => xs[i]?) (fun i => ys[i]?)) := by
  subst hn
  refine ⟨fun i H hi q => ?_, fun H q => ⟨xs, ys, q.1, q.2, by omega, by omega, by omega⟩, fun i H v H' hi q y => ?_⟩
  · exact ⟨xs, ys, xs[i]'(by omega), ys[i]'(by omega), q.1, q.2, List.getElem?_eq_getElem (by omega), List.getElem?_eq_getElem (by omega)⟩
  · obtain ⟨T, x, z, h1, h2, h3, h4, h5⟩ := y
    exact ⟨T, x, z, h1, h2, h3, h4 xs q.1, h5 ys q.2⟩
theorem goes_zipX {k1 k2 : Zk} {vs us : List V} {ds es : List D} (rs : Reps Γ.S B vs ds) (rt : Reps Γ.S B us es) : Goes Γ B (fun H => k1.Has Γ.S.K H vs ∧ k2.Has Γ.S.K H us) (ItzX Γ.S.K k1 k2) (zipF ds es) := by
  refine ⟨_, walk_zipX (by rw [zipF_len, rs.length, rt.length]), fun i H x H' B' hi eb eh hy => ?_⟩
  obtain ⟨T, v1, v2, rfl, hT, rfl, h1, h2⟩ := hy
  obtain ⟨d, g1, g2⟩ := rs.getV h1
  obtain ⟨d', g3, g4⟩ := rt.getV h2
  exact ⟨_, _, zipF_get _ _ _ _ _ g1 g3, pair_new eh hT (g2.mono eb) (g4.mono eb)⟩
theorem si_zipX (Fa : Fac Γ F k) {as : E} {y z : Expr} {es : List Expr} {kk : Nat} {tp p pos : Pos} (hg : isGl Γ.sc "zip" = true) (hs : [y, z].all noStar = true) (hl : SL Γ F as [y, z] []) : SI Γ F .zip as (.Tuple es kk tp) (.Call (.Name "zip" p) [y, z] [] pos) := by
  intro σ B H e r R P hr K X
  have s12 : noStar y = true ∧ noStar z = true := by simpa using hs
  refine ⟨iZipX Γ.S.K (wA Γ [y, z]), fun X hX => ?_, ?_⟩
  · rw [← hX.K]
    exact pi_zipX (isGl_ok hX hg).1 (by rw [hX.mg]; exact Fa.blt _ (.inl (by decide))) (wA_pa hX hs) (by rw [starEach_of s12.1]) (by rw [starEach_of s12.2]; rfl)
  · refine src_list hl P hr K X fun as' e1 vs B1 H1 ds ys h1 h2 h3 po ars => ?_
    have two : ∃ a b u v, as' = [a, b] ∧ vs = [u, v] ∧ ArR Γ σ B1 H1 e1 a u ∧ ArR Γ σ B1 H1 e1 b v := by
      cases ars with
      | nil => cases h1; cases h2
      | cons ra t _ =>
        cases t with
        | nil =>
          exfalso
          unfold derefs derefs at h1
          split at h1
          · rename_i d ds' q1 q2; cases q2; cases h1; cases h2
          · cases h1
        | cons rb t _ =>
          cases t with
          | nil => exact ⟨_, _, _, _, rfl, rfl, ra, rb⟩
          | cons _ _ _ =>
            exfalso
            have := ArsR.drs po.pst (ArsR.cons ra (ArsR.cons rb (ArsR.cons ‹_› ‹_› ‹_›) ‹_›) ‹_›) h1
            cases this with
            | cons _ t => cases t with
              | cons _ t => cases t with
                | cons _ _ => cases h2
    obtain ⟨a, b, u, v, rfl, rfl, ra, rb⟩ := two
    obtain ⟨da, db, rfl, d1, d2⟩ := derefs2 h1
    have h2 : (match seqD da, seqD db with
      | some xs, some ys => some (zipF xs ys)
      | _, _ => none) = some ys := h2
    cases q1 : seqD da with
    | none => rw [q1] at h2; cases h2
    | some xs1 =>
      cases q2 : seqD db with
      | none => rw [q1, q2] at h2; cases h2
      | some xs2 =>
        rw [q1, q2] at h2
        cases h2
        have m1 : ∀ i, a = .r i → i ∈ refs [a, b] := fun i h => by subst h; exact List.mem_cons_self ..
        have m2 : ∀ i, b = .r i → i ∈ refs [a, b] := fun i h => by
          subst h
          cases a with
          | r j => exact List.mem_cons_of_mem _ (List.mem_cons_self ..)
          | v w d => exact List.mem_cons_self ..
        obtain ⟨z1, vs1, rfl, hp1, rs1, st1⟩ := staysX [a, b] po.pst ra d1 q1 m1
        obtain ⟨z2, vs2, rfl, hp2, rs2, st2⟩ := staysX [a, b] po.pst rb d2 q2 m2
        exact ⟨z1, z2, vs1, vs2, rfl, hp1, hp2, h3 _ ⟨_, goes_zipX rs1 rs2, fun σ' B' H' e' ps => ⟨st1 σ' B' H' e' ps, st2 σ' B' H' e' ps⟩⟩⟩
end
end Gal
set_option Elab.async false
set_option linter.all false
set_option maxRecDepth 100000
/-! G32: a checked expression runs as the small one; comprehensions too. -/
namespace Gal
open PySem L2 PyProof.Rows PySem.Spec
structure Allx (Γ : Ct) (F : Callee) (m : E) : Prop where
  o : ∀ x, (ckx Γ.cp m).o x = true → SO Γ F m x
  t : ∀ x, (ckx Γ.cp m).o x = true → noIte m = true → ST Γ F m x
  l : ∀ xs ds, (ckx Γ.cp m).l xs ds = true → SL Γ F m xs ds ∧ xs.all noStar = true
  b : ∀ op xs, (ckx Γ.cp m).b xs = true → SJ Γ F (isAnd op) m op xs ∧ SK Γ F (isAnd op) m op xs
  p : ∀ x, (ckx Γ.cp m).p x = true → SP Γ F m x
  i : ∀ w tg it, (ckx Γ.cp m).i w tg it = true → SI Γ F w m tg it ∧ ∀ env x, foldedSetIterable it env x = pure x
section
variable {Γ : Ct} {F : Callee} {k : Nat}
theorem allxV {m : E} {f : Expr → Bool} {mm : M Ar} (hck : ckx Γ.cp m = ckxV f) (hev : evG Γ F m = ofV mm) (h : ∀ x, f x = true → SO Γ F m x ∧ (plainT x = true ∨ (noIte m = true → ST Γ F m x))) : Allx Γ F m := by
  have o : ∀ x, (ckx Γ.cp m).o x = true → SO Γ F m x := fun x q => (h x (by rw [hck] at q; exact q)).1
  refine ⟨o, fun x q n => ?_, fun xs ds q => (by rw [hck] at q; cases q), fun op xs q => (by rw [hck] at q; cases q), fun x q => ?_, fun w tg it q => (by rw [hck] at q; cases q)⟩
  · obtain ⟨a, b⟩ := h x (by rw [hck] at q; exact q)
    rcases b with b | b
    · exact st_plain a (by rw [hev]; rfl) b
    · exact b n
  · cases x with
    | none => rw [hck] at q; cases q
    | some x => exact sp_some (h x (by rw [hck] at q; exact q)).1 (by rw [hev]; rfl)
theorem allxB {m : E} {f : Expr → Bool} {mm nn : M Bool} (hck : ckx Γ.cp m = ckxV f) (hev : evG Γ F m = ofB2 mm nn) (h : ∀ x, f x = true → SO Γ F m x ∧ ST Γ F m x) : Allx Γ F m := by
  refine ⟨fun x q => (h x (by rw [hck] at q; exact q)).1, fun x q n => (h x (by rw [hck] at q; exact q)).2, fun xs ds q => (by rw [hck] at q; cases q), fun op xs q => (by rw [hck] at q; cases q), fun x q => ?_, fun w tg it q => (by rw [hck] at q; cases q)⟩
  intro σ B H e r Q P hr K X
  rw [hev] at hr
  cases hr
theorem dead_allx {m : E} (hck : ckx Γ.cp m = ckxV fun _ => false) {mm : M Ar} (hev : evG Γ F m = ofV mm) : Allx Γ F m := allxV hck hev fun x q => by cases q
theorem all_opx (Fa : Fac Γ F k) {o : Op} {as : E} (ih : Allx Γ F as) : Allx Γ F (.op o as) := by
  refine allxV rfl rfl fun x h => ?_
  cases x with
  | BinOp a op b p =>
    obtain ⟨h1, h2⟩ := and2 h
    exact ⟨so_op2 (fun X hX => bin_ok Fa hX (of_decide_eq_true h1)) (ih.l _ _ h2).1, .inl rfl⟩
  | UnaryOp op a p =>
    obtain ⟨h1, h2⟩ := and2 h
    have h1 := of_decide_eq_true h1
    refine ⟨so_op1 (fun X hX => un_ok Fa hX h1) (ih.l _ _ h2).1, .inl ?_⟩
    cases op <;> first | rfl | cases h1
  | Compare a ops bs p =>
    match ops, bs, h with
    | [op], [b], h =>
      obtain ⟨h1, h3⟩ := and2 h
      obtain ⟨h1, h2⟩ := and2 h1
      have h1 := of_decide_eq_true h1
      exact ⟨so_cmp (fun X hX => cmp_ok Fa hX h1) (notT h2) (ih.l _ _ h3).1, .inr fun _ => st_cmp (fun X hX => cmp_ok Fa hX h1) (notT h2) (ih.l _ _ h3).1⟩
    | [], _, h => cases h
    | [_], [], h => cases h
    | [_], _ :: _ :: _, h => cases h
    | _ :: _ :: _, _, h => cases h
  | Subscript a b p =>
    obtain ⟨h1, h3⟩ := and2 h
    obtain ⟨h1, h2⟩ := and2 h1
    have h1 := of_decide_eq_true h1
    subst h1
    exact ⟨so_ix (fun X hX => ix_ok Fa hX) h2 (ih.l _ _ h3).1, .inl rfl⟩
  | Call f es kws p =>
    cases f with
    | Name id p1 =>
      match es, kws, h with
      | y :: ys, [], h =>
        obtain ⟨h0, h3⟩ := and2 h
        obtain ⟨h1, h2⟩ := and2 h0
        clear h0 h
        cases q : bltOf id (y :: ys).length with
        | none => rw [q] at h2; cases h2
        | some z =>
          obtain ⟨o', hb⟩ := z
          rw [q] at h2
          obtain ⟨h4, h5⟩ := and2 h2
          have h4 := of_decide_eq_true h4
          subst h4
          refine ⟨so_blt Fa q ?_ h1 (ih.l _ _ h3).2 (ih.l _ _ h3).1, .inl rfl⟩
          rcases Bool.or_eq_true_iff.mp h5 with h5 | h5
          · exact .inl h5
          · exact .inr (notT h5)
      | [], _, h => cases h
      | _ :: _, _ :: _, h => cases h
    | _ => cases h
  | _ => cases h
theorem src_all {Γ : Ct} {F : Callee} {k : Nat} (Fa : Fac Γ F k) {m r : E} (ihm : Allx Γ F m) (ihr : Allx Γ F r) {w : Io} {tg it : Expr} (q : (ckx Γ.cp (.cons m r)).i w tg it = true) : SI Γ F w (.cons m r) tg it ∧ ∀ env x, foldedSetIterable it env x = pure x := by
  cases w with
  | seq =>
    obtain ⟨q, q3⟩ := and2 q
    obtain ⟨q1, q2⟩ := and2 q
    cases r with
    | nil => exact ⟨si_seq (ihm.o _ q2), notSet_ok q3⟩
    | _ => cases q1
  | range1 =>
    cases it with
    | Call f es kws p =>
      cases f with
      | Name id p1 =>
        match es, kws, q with
        | [y], [], q =>
          obtain ⟨q, q5⟩ := and2 q
          obtain ⟨q, q4⟩ := and2 q
          obtain ⟨q, q3⟩ := and2 q
          obtain ⟨q1, q2⟩ := and2 q
          have q1 := of_decide_eq_true q1
          subst q1
          cases r with
          | nil => exact ⟨si_range1 Fa q2 (by simp [q3]) (sl_cons (ihm.o _ q4) sl_nil), fun _ _ => rfl⟩
          | _ => cases q5
        | [], _, q => cases q
        | [_], _ :: _, q => cases q
        | _ :: _ :: _, _, q => cases q
      | _ => cases q
    | _ => cases q
  | range2 =>
    cases it with
    | Call f es kws p =>
      cases f with
      | Name id p1 =>
        match es, kws, q with
        | [y, z], [], q =>
          obtain ⟨q, q5⟩ := and2 q
          obtain ⟨q, q4⟩ := and2 q
          obtain ⟨q, q3⟩ := and2 q
          obtain ⟨q1, q2⟩ := and2 q
          have q1 := of_decide_eq_true q1
          subst q1
          obtain ⟨l1, l2⟩ := ihr.l _ _ q5
          exact ⟨si_range2 Fa q2 (by rw [List.all_cons, q3, l2]; rfl) (sl_cons (ihm.o _ q4) l1), fun _ _ => rfl⟩
        | [], _, q => cases q
        | [_], _, q => cases q
        | [_, _], _ :: _, q => cases q
        | _ :: _ :: _ :: _, _, q => cases q
      | _ => cases q
    | _ => cases q
  | enum =>
    cases tg with
    | Tuple es0 kk tp =>
      cases it with
      | Call f es kws p =>
        cases f with
        | Name id p1 =>
          match es, kws, q with
          | [y], [], q =>
            obtain ⟨q, q5⟩ := and2 q
            obtain ⟨q, q4⟩ := and2 q
            obtain ⟨q, q3⟩ := and2 q
            obtain ⟨q1, q2⟩ := and2 q
            have q1 := of_decide_eq_true q1
            subst q1
            cases r with
            | nil => exact ⟨si_enum Fa q2 q3 (ihm.o _ q4), fun _ _ => rfl⟩
            | _ => cases q5
          | [], _, q => cases q
          | [_], _ :: _, q => cases q
          | _ :: _ :: _, _, q => cases q
        | _ => cases q
      | _ => cases q
    | _ => cases q
  | zip =>
    cases tg with
    | Tuple es0 kk tp =>
      cases it with
      | Call f es kws p =>
        cases f with
        | Name id p1 =>
          match es, kws, q with
          | [y, z], [], q =>
            obtain ⟨q, q5⟩ := and2 q
            obtain ⟨q, q4⟩ := and2 q
            obtain ⟨q, q3⟩ := and2 q
            obtain ⟨q1, q2⟩ := and2 q
            have q1 := of_decide_eq_true q1
            subst q1
            obtain ⟨l1, l2⟩ := ihr.l _ _ q5
            exact ⟨si_zipX Fa q2 (by rw [List.all_cons, q3, l2]; rfl) (sl_cons (ihm.o _ q4) l1), fun _ _ => rfl⟩
          | [], _, q => cases q
          | [_], _, q => cases q
          | [_, _], _ :: _, q => cases q
          | _ :: _ :: _ :: _, _, q => cases q
        | _ => cases q
      | _ => cases q
    | _ => cases q
  | _ => cases q
end
theorem mainx {S : Stc} {F : Callee} {k kk : Nat} (hF : ∀ Γ : Ct, Γ.S = S → Γ.k = kk → Fac Γ F k) (m : E) : ∀ Γ : Ct, Γ.S = S → Γ.k = kk → (Γ.hot = false → Γ.xi = none) → Allx Γ F m := by
  induction m with
  | var i =>
    intro Γ hS hk hx
    have Fa := hF Γ hS hk
    refine allxV rfl rfl fun x h => ?_
    cases x with
    | Name id p => obtain ⟨h1, h2⟩ := and2 h; exact ⟨so_var (of_decide_eq_true h1) h2, .inl rfl⟩
    | _ => cases h
  | con d =>
    intro Γ hS hk hx
    have Fa := hF Γ hS hk
    refine allxV rfl rfl fun x h => ?_
    cases x with
    | Constant c n p => exact ⟨so_con h, .inl rfl⟩
    | _ => cases h
  | gl i =>
    intro Γ hS hk hx
    have Fa := hF Γ hS hk
    refine allxV rfl rfl fun x h => ?_
    cases x with
    | Name id p => obtain ⟨h1, h2⟩ := and2 h; exact ⟨so_gl Fa h1 (of_decide_eq_true h2), .inl rfl⟩
    | _ => cases h
  | op o as ih =>
    intro Γ hS hk hx
    exact all_opx (hF Γ hS hk) (ih Γ hS hk hx)
  | mt m ob as iho ih =>
    intro Γ hS hk hx
    have Fa := hF Γ hS hk
    have iho := iho Γ hS hk hx
    have ih := ih Γ hS hk hx
    refine allxV rfl rfl fun x h => ?_
    cases x with
    | Call f es kws p =>
      cases f with
      | Attribute o name apos =>
        match es, kws, h with
        | [y], [], h =>
          obtain ⟨h, h5⟩ := and2 h
          obtain ⟨h, h4⟩ := and2 h
          obtain ⟨h, h3⟩ := and2 h
          obtain ⟨h1, h2⟩ := and2 h
          exact ⟨so_mt (of_decide_eq_true h1) (iho.o _ h2) (ih.l _ _ h5).1 h3 (ih.l _ _ h5).2 h4, .inl rfl⟩
        | [], _, h => cases h
        | [_], _ :: _, h => cases h
        | _ :: _ :: _, _, h => cases h
      | _ => cases h
    | _ => cases h
  | bool a ms ih =>
    intro Γ hS hk hx
    have Fa := hF Γ hS hk
    have ih := ih Γ hS hk hx
    refine allxB rfl rfl fun x h => ?_
    cases x with
    | BoolOp op xs p =>
      obtain ⟨h1, h2⟩ := and2 h
      have h1 : isAnd op = a := by simpa using h1
      subst h1
      obtain ⟨j, k'⟩ := ih.b op xs h2
      exact ⟨so_bool j, st_bool k'⟩
    | _ => cases h
  | not m ih =>
    intro Γ hS hk hx
    have Fa := hF Γ hS hk
    have ih := ih Γ hS hk hx
    refine allxB rfl rfl fun x h => ?_
    cases x with
    | UnaryOp op a p =>
      cases op with
      | Not =>
        obtain ⟨h1, h2⟩ := and2 h
        exact ⟨so_not (ih.o _ h1), st_not (ih.t _ h1 h2)⟩
      | _ => cases h
    | _ => cases h
  | ite mc ma mb ihc iha ihb =>
    intro Γ hS hk hx
    have Fa := hF Γ hS hk
    have ihc := ihc Γ hS hk hx
    have iha := iha Γ hS hk hx
    have ihb := ihb Γ hS hk hx
    refine allxV rfl rfl fun x h => ?_
    cases x with
    | IfExp t a b p =>
      obtain ⟨h, h4⟩ := and2 h
      obtain ⟨h, h3⟩ := and2 h
      obtain ⟨h1, h2⟩ := and2 h
      exact ⟨so_ite (ihc.t _ h1 h2) (iha.o _ h3) (ihb.o _ h4), .inr fun n => by cases n⟩
    | _ => cases h
  | chain o1 o2 ma mb mc iha ihb ihc =>
    intro Γ hS hk hx
    have Fa := hF Γ hS hk
    have iha := iha Γ hS hk hx
    have ihb := ihb Γ hS hk hx
    have ihc := ihc Γ hS hk hx
    refine allxB rfl rfl fun x h => ?_
    cases x with
    | Compare a ops bs p =>
      match ops, bs, h with
      | [p1, p2], [b, d], h =>
        obtain ⟨h, h6⟩ := and2 h
        obtain ⟨h, h5⟩ := and2 h
        obtain ⟨h, h4⟩ := and2 h
        obtain ⟨h, h3⟩ := and2 h
        obtain ⟨h1, h2⟩ := and2 h
        exact ⟨so_chain Fa (of_decide_eq_true h1) (of_decide_eq_true h2) (notT h3) (iha.o _ h4) (ihb.o _ h5) (ihc.o _ h6), st_chain Fa (of_decide_eq_true h1) (of_decide_eq_true h2) (notT h3) (iha.o _ h4) (ihb.o _ h5) (ihc.o _ h6)⟩
      | [], _, h => cases h
      | [_], _, h => cases h
      | _ :: _ :: _ :: _, _, h => cases h
      | [_, _], [], h => cases h
      | [_, _], [_], h => cases h
      | [_, _], _ :: _ :: _ :: _, h => cases h
    | _ => cases h
  | call f as ih =>
    intro Γ hS hk hx
    have Fa := hF Γ hS hk
    have ih := ih Γ hS hk hx
    refine allxV rfl rfl fun x h => ?_
    cases x with
    | Call fn es kws p =>
      cases fn with
      | Name id p1 =>
        match kws, h with
        | [], h =>
          obtain ⟨h, h4⟩ := and2 h
          obtain ⟨h, h3⟩ := and2 h
          obtain ⟨h1, h2⟩ := and2 h
          exact ⟨so_call Fa (notT h3) (dfl_le f as es) h1 (of_decide_eq_true h2) (ih.l _ _ h4).2 (ih.l _ _ h4).1, .inl rfl⟩
        | _ :: _, h => cases h
      | _ => cases h
    | _ => cases h
  | meth m ob as iho ih =>
    intro Γ hS hk hx
    have Fa := hF Γ hS hk
    have iho := iho Γ hS hk hx
    have ih := ih Γ hS hk hx
    refine allxV rfl rfl fun x h => ?_
    cases x with
    | Call fn es kws p =>
      cases fn with
      | Attribute o name apos =>
        match kws, h with
        | [], h =>
          obtain ⟨h, h8⟩ := and2 h
          obtain ⟨h, h7⟩ := and2 h
          obtain ⟨h, h6⟩ := and2 h
          obtain ⟨h, h5⟩ := and2 h
          obtain ⟨h, h4⟩ := and2 h
          obtain ⟨h, h3⟩ := and2 h
          obtain ⟨h1, h2⟩ := and2 h
          have h1 : name = Γ.S.an m := of_decide_eq_true h1
          subst h1
          exact ⟨so_meth Fa (notT h7) (of_decide_eq_true h2) (iho.o _ h3) (ih.l _ _ h8).1 h4 (ih.l _ _ h8).2 (of_decide_eq_true h5) h6, .inl rfl⟩
        | _ :: _, h => cases h
      | _ => cases h
    | _ => cases h
  | make c as ih =>
    intro Γ hS hk hx
    have Fa := hF Γ hS hk
    have ih := ih Γ hS hk hx
    refine allxV rfl rfl fun x h => ?_
    cases x with
    | Call fn es kws p =>
      cases fn with
      | Name id p1 =>
        match kws, h with
        | [], h =>
          obtain ⟨h, h4⟩ := and2 h
          obtain ⟨h, h3⟩ := and2 h
          obtain ⟨h1, h2⟩ := and2 h
          cases q : (Γ.cp.P.cl c).init with
          | none => rw [q] at h4; cases h4
          | some f =>
            rw [q] at h4
            exact ⟨so_make Fa (notT h3) q (dfl_le f as es) h1 (of_decide_eq_true h2) (ih.l _ _ h4).2 (ih.l _ _ h4).1, .inl rfl⟩
        | kw :: kws, h =>
          match es, h with
          | [], h => cases h
          | y :: ys, h =>
            obtain ⟨h, h5⟩ := and2 h
            obtain ⟨h, h4⟩ := and2 h
            obtain ⟨h, h3⟩ := and2 h
            obtain ⟨h1, h2⟩ := and2 h
            cases q : (Γ.cp.P.cl c).init with
            | none => rw [q] at h5; cases h5
            | some f =>
              rw [q] at h5
              cases q2 : kwNames (kw :: kws) with
              | none => simp only [q2] at h5; cases h5
              | some ks =>
                simp only [q2] at h5
                obtain ⟨h6, h7⟩ := and2 h5
                exact ⟨so_makeK Fa (notT h3) q q2 (of_decide_eq_true h6) h1 (of_decide_eq_true h2) h4 (ih.l _ _ h7).1, .inl rfl⟩
      | _ => cases h
    | _ => cases h
  | cm c m as ih =>
    intro Γ hS hk hx
    have Fa := hF Γ hS hk
    have ih := ih Γ hS hk hx
    refine allxV rfl rfl fun x h => ?_
    cases x with
    | Call fn es kws p =>
      cases fn with
      | Attribute o name apos =>
        cases o with
        | Name id p1 =>
          match es, kws, h with
          | y :: ys, [], h =>
            obtain ⟨h, h7⟩ := and2 h
            obtain ⟨h, h6⟩ := and2 h
            obtain ⟨h, h5⟩ := and2 h
            obtain ⟨h, h4⟩ := and2 h
            obtain ⟨h, h3⟩ := and2 h
            obtain ⟨h1, h2⟩ := and2 h
            have h4 : name = Γ.S.an m := of_decide_eq_true h4
            subst h4
            cases q : (Γ.cp.P.cl c).cms.lookup m with
            | none => rw [q] at h7; cases h7
            | some f =>
              rw [q] at h7
              exact ⟨so_cm Fa (notT h3) q (dfl_le f as (y :: ys)) h1 (of_decide_eq_true h2) (ih.l _ _ h7).2 (of_decide_eq_true h5) h6 (ih.l _ _ h7).1, .inl rfl⟩
          | [], _, h => cases h
          | _ :: _, _ :: _, h => cases h
        | _ => cases h
      | _ => cases h
    | _ => cases h
  | mkv c i as ih =>
    intro Γ hS hk hx
    have Fa := hF Γ hS hk
    have ih := ih Γ hS hk hx
    refine allxV rfl rfl fun x h => ?_
    cases x with
    | Call fn es kws p =>
      cases fn with
      | Name id p1 =>
        match kws, h with
        | [], h =>
          obtain ⟨h, h4⟩ := and2 h
          obtain ⟨h, h3⟩ := and2 h
          obtain ⟨h1, h2⟩ := and2 h
          cases q : (Γ.cp.P.cl c).init with
          | none => rw [q] at h4; cases h4
          | some f =>
            rw [q] at h4
            exact ⟨so_mkv Fa (notT h3) q (dfl_le f as es) (of_decide_eq_true h1) h2 (ih.l _ _ h4).2 (ih.l _ _ h4).1, .inl rfl⟩
        | _ :: _, h => cases h
      | _ => cases h
    | _ => cases h
  | callo ob as iho ih =>
    intro Γ hS hk hx
    have Fa := hF Γ hS hk
    have iho := iho Γ hS hk hx
    have ih := ih Γ hS hk hx
    refine allxV rfl rfl fun x h => ?_
    cases x with
    | Call fe es kws p =>
      match es, kws, h with
      | y :: ys, [], h =>
        obtain ⟨h, h4⟩ := and2 h
        obtain ⟨h, h3⟩ := and2 h
        obtain ⟨h1, h2⟩ := and2 h
        exact ⟨so_callo Fa (notT h3) (iho.o _ h2) h1 (ih.l _ _ h4).2 (ih.l _ _ h4).1, .inl rfl⟩
      | [], _, h => cases h
      | _ :: _, _ :: _, h => cases h
    | _ => cases h
  | fld f ob iho =>
    intro Γ hS hk hx
    have Fa := hF Γ hS hk
    have iho := iho Γ hS hk hx
    refine allxV rfl rfl fun x h => ?_
    cases x with
    | Attribute o name p =>
      obtain ⟨h, h4⟩ := and2 h
      obtain ⟨h, h3⟩ := and2 h
      obtain ⟨h1, h2⟩ := and2 h
      have h1 : name = Γ.S.an f := of_decide_eq_true h1
      subst h1
      exact ⟨so_fld Fa (of_decide_eq_true h2) (iho.o _ h3) h4, .inl rfl⟩
    | _ => cases h
  | isi t ob iho =>
    intro Γ hS hk hx
    have Fa := hF Γ hS hk
    have iho := iho Γ hS hk hx
    refine allxV rfl rfl fun x h => ?_
    cases x with
    | Call fn es kws p =>
      cases fn with
      | Name id p1 =>
        match es, kws, h with
        | [o, tx], [], h =>
          obtain ⟨h, h6⟩ := and2 h
          obtain ⟨h, h5⟩ := and2 h
          obtain ⟨h, h4⟩ := and2 h
          obtain ⟨h, h3⟩ := and2 h
          obtain ⟨h1, h2⟩ := and2 h
          have h1 := of_decide_eq_true h1
          subst h1
          obtain ⟨tv, t1, t2, t3⟩ := tyOk_ok Fa h5
          exact ⟨so_isi Fa h2 h3 t1 t2 (by rw [List.all_cons, List.all_cons, h6, t3]; rfl) (iho.o _ h4), .inl rfl⟩
        | [], _, h => cases h
        | [_], _, h => cases h
        | [_, _], _ :: _, h => cases h
        | _ :: _ :: _ :: _, _, h => cases h
      | _ => cases h
    | _ => cases h
  | slice a lo hi iha ihl ihh =>
    intro Γ hS hk hx
    have Fa := hF Γ hS hk
    have iha := iha Γ hS hk hx
    have ihl := ihl Γ hS hk hx
    have ihh := ihh Γ hS hk hx
    refine allxV rfl rfl fun x h => ?_
    cases x with
    | Subscript a' sl p =>
      cases sl with
      | Slice l u st p2 =>
        cases st with
        | none =>
          obtain ⟨h, h3⟩ := and2 h
          obtain ⟨h1, h2⟩ := and2 h
          exact ⟨so_slice (iha.o _ h1) (ihl.p _ h2) (ihh.p _ h3), .inl rfl⟩
        | some _ => cases h
      | _ => cases h
    | _ => cases h
  | lst as ih =>
    intro Γ hS hk hx
    have Fa := hF Γ hS hk
    have ih := ih Γ hS hk hx
    refine allxV rfl rfl fun x h => ?_
    cases x with
    | List es p => exact ⟨so_lst (ih.l _ _ h).2 (ih.l _ _ h).1, .inl rfl⟩
    | _ => cases h
  | tup as ih =>
    intro Γ hS hk hx
    have Fa := hF Γ hS hk
    have ih := ih Γ hS hk hx
    refine allxV rfl rfl fun x h => ?_
    cases x with
    | Tuple es n p => exact ⟨so_tup (ih.l _ _ h).2 (ih.l _ _ h).1, .inl rfl⟩
    | _ => cases h
  | dct =>
    intro Γ hS hk hx
    have Fa := hF Γ hS hk
    refine allxV rfl rfl fun x h => ?_
    cases x with
    | Dict ks vs p =>
      match ks, vs, h with
      | [], [], h => exact ⟨so_dct, .inl rfl⟩
      | [], _ :: _, h => cases h
      | _ :: _, _, h => cases h
    | _ => cases h
  | nil =>
    intro Γ hS hk hx
    have Fa := hF Γ hS hk
    refine ⟨fun x q => (by cases q), fun x q => (by cases q), fun xs ds q => ?_, fun op xs q => (by cases q), fun x q => ?_, fun w tg it q => (by cases q)⟩
    · obtain ⟨h1, h2⟩ := and2 q
      cases xs with
      | nil =>
        cases ds with
        | nil => exact ⟨sl_nil, rfl⟩
        | cons _ _ => cases h2
      | cons _ _ => cases h1
    · cases x with
      | none => exact sp_none
      | some _ => cases q
  | cons m r ihm ihr =>
    intro Γ hS hk hx
    have Fa := hF Γ hS hk
    have ihm := ihm Γ hS hk hx
    have ihr := ihr Γ hS hk hx
    refine ⟨fun x q => (by cases q), fun x q => (by cases q), fun xs ds q => ?_, fun op xs q => ?_, fun x q => (by cases q), fun w tg it q => src_all Fa ihm ihr q⟩
    · cases xs with
      | nil => exact ⟨sl_con q, rfl⟩
      | cons x xs =>
        obtain ⟨q, h3⟩ := and2 q
        obtain ⟨h1, h2⟩ := and2 q
        obtain ⟨i1, i2⟩ := ihr.l _ _ h3
        exact ⟨sl_cons (ihm.o _ h2) i1, by rw [List.all_cons, h1, i2]; rfl⟩
    · match xs, q with
      | [x], q =>
        obtain ⟨q, h3⟩ := and2 q
        obtain ⟨h1, h2⟩ := and2 q
        cases r with
        | nil => exact ⟨sj_one (ihm.o _ h1), sk_one (ihm.t _ h1 h2)⟩
        | _ => cases h3
      | x :: y :: ys, q =>
        obtain ⟨q, h3⟩ := and2 q
        obtain ⟨h1, h2⟩ := and2 q
        obtain ⟨j, k'⟩ := ihr.b op _ h3
        exact ⟨sj_cons (ihm.o _ h1) j, sk_cons (ihm.t _ h1 h2) k'⟩
      | [], q => cases q
  | lc own t w src cd m ihs ihc ihm =>
    intro Γ hS hk hx
    have Fa := hF Γ hS hk
    have ihs := ihs Γ hS hk hx
    refine allxV rfl rfl fun x h => ?_
    cases x with
    | ListComp elt gens scope p =>
      match gens, h with
      | [⟨tg, iter, ifs, a⟩], h =>
        obtain ⟨h, h7⟩ := and2 h
        obtain ⟨h, h6⟩ := and2 h
        obtain ⟨h, h5⟩ := and2 h
        obtain ⟨h, h4⟩ := and2 h
        obtain ⟨h, h3⟩ := and2 h
        obtain ⟨h, h2⟩ := and2 h
        obtain ⟨h0, h1⟩ := and2 h
        have h0 := of_decide_eq_true h0
        subst h0
        have hh : Γ.hot = false := notT h1
        obtain ⟨si, fs⟩ := ihs.i _ _ _ h5
        have ihm' := ihm (blkΓ Γ scope) hS hk fun _ => rfl
        have sc : SC (blkΓ Γ scope) F cd ifs := by
          match ifs, h6 with
          | [], h6 =>
            cases cd with
            | nil => exact sc_nil
            | _ => cases h6
          | [y], h6 =>
            obtain ⟨c1, c2⟩ := and2 h6
            exact sc_one ((ihc (blkΓ Γ scope) hS hk fun _ => rfl).t _ c1 c2)
          | _ :: _ :: _, h6 => cases h6
        exact ⟨so_lc hh (hx hh) (fun i hi => by have := List.all_eq_true.mp h2 i hi; simpa using this) h3 h4 si sc (ihm'.o _ h7) fs, .inl rfl⟩
      | [], h => cases h
      | ⟨_, _, _, _⟩ :: ⟨_, _, _, _⟩ :: _, h => cases h
    | _ => cases h
  | lrg a b iha ihb =>
    intro Γ hS hk hx
    have Fa := hF Γ hS hk
    have iha := iha Γ hS hk hx
    have ihb := ihb Γ hS hk hx
    refine allxV rfl rfl fun x h => ?_
    cases x with
    | Call fn es kws p =>
      cases fn with
      | Name id p1 =>
        match es, kws, h with
        | [w], [], h =>
          cases w with
          | Call fn2 es2 kws2 p2 =>
            cases fn2 with
            | Name id2 p3 =>
              match es2, kws2, h with
              | [y, z], [], h =>
                obtain ⟨h, h8⟩ := and2 h
                obtain ⟨h, h7⟩ := and2 h
                obtain ⟨h, h6⟩ := and2 h
                obtain ⟨h, h5⟩ := and2 h
                obtain ⟨h, h4⟩ := and2 h
                obtain ⟨h, h3⟩ := and2 h
                obtain ⟨h1, h2⟩ := and2 h
                have h1 := of_decide_eq_true h1
                have h2 := of_decide_eq_true h2
                subst h1
                subst h2
                exact ⟨so_lrg Fa (notT h5) h3 h4 h6 (iha.o _ h7) (ihb.o _ h8), .inl rfl⟩
              | [], _, h => simp [ckx, ckxV] at h
              | [_], _, h => simp [ckx, ckxV] at h
              | [_, _], _ :: _, h => simp [ckx, ckxV] at h
              | _ :: _ :: _ :: _, _, h => simp [ckx, ckxV] at h
            | _ => cases h
          | _ => cases h
        | [], _, h => simp [ckx, ckxV] at h
        | [_], _ :: _, h => simp [ckx, ckxV] at h
        | _ :: _ :: _, _, h => simp [ckx, ckxV] at h
      | _ => cases h
    | _ => cases h
  | exf f i =>
    intro Γ hS hk hx
    have Fa := hF Γ hS hk
    refine allxV rfl rfl fun x h => ?_
    cases x with
    | Attribute o name p =>
      cases o with
      | Name id p1 =>
        obtain ⟨h, h3⟩ := and2 h
        obtain ⟨h1, h2⟩ := and2 h
        have h3 : name = Γ.S.an f := of_decide_eq_true h3
        subst h3
        exact ⟨so_exf Fa (of_decide_eq_true h1) h2, .inl rfl⟩
      | _ => cases h
    | _ => cases h
  | exi t i =>
    intro Γ hS hk hx
    have Fa := hF Γ hS hk
    refine allxV rfl rfl fun x h => ?_
    cases x with
    | Call fn es kws p =>
      cases fn with
      | Name id p1 =>
        match es, kws, h with
        | [o, tx], [], h =>
          cases o with
          | Name id2 p2 =>
            obtain ⟨h, h5⟩ := and2 h
            obtain ⟨h, h4⟩ := and2 h
            obtain ⟨h, h3⟩ := and2 h
            obtain ⟨h1, h2⟩ := and2 h
            have h1 := of_decide_eq_true h1
            subst h1
            obtain ⟨tv, t1, t2, t3⟩ := tyOk_ok Fa h5
            exact ⟨so_exi Fa (of_decide_eq_true h3) h4 h2 t1 t2 (by rw [List.all_cons, List.all_cons, t3]; rfl), .inl rfl⟩
          | _ => cases h
        | [], _, h => cases h
        | [_], _, h => simp [ckx, ckxV] at h
        | [_, _], _ :: _, h => simp [ckx, ckxV] at h
        | _ :: _ :: _ :: _, _, h => simp [ckx, ckxV] at h
      | _ => cases h
    | _ => cases h
  | _ =>
    intro Γ hS hk hx
    exact dead_allx rfl rfl
end Gal
set_option Elab.async false
set_option linter.all false
set_option maxRecDepth 100000
/-! G33: the check of written statements. -/
namespace Gal
open PySem L2 PyProof.Rows PySem.Spec
structure Cks where
  s : Stmt → Bool
  b : List Stmt → Bool
def ckOne (f : Stmt → Bool) : Cks := ⟨f, fun l => match l with
  | [x] => f x
  | _ => false⟩
def notTup : Expr → Bool
  | .Tuple _ _ _ => false
  | _ => true
def cks (c : Cp) : S → Cks
  | .nop => ⟨fun _ => false, fun l => l.isEmpty⟩
  | .seq a b => ⟨fun _ => false, fun l => match l with
    | st :: r => (cks c a).s st && (cks c b).b r
    | [] => false⟩
  | .pass => ckOne fun st => match st with
    | .Pass _ => true
    | _ => false
  | .brk => ckOne fun st => match st with
    | .Break _ => true
    | _ => false
  | .cont => ckOne fun st => match st with
    | .Continue _ => true
    | _ => false
  | .retN => ckOne fun st => match st with
    | .Return none _ => true
    | _ => false
  | .ret m => ckOne fun st => match st with
    | .Return (some x) _ => (ckx c m).o x
    | _ => false
  | .expr m => ckOne fun st => match st with
    | .Expr x _ => (ckx c m).o x && noComp x
    | _ => false
  | .ite mc a b => ckOne fun st => match st with
    | .If x xs ys _ => (ckx c mc).o x && noIte mc && (cks c a).b xs && (cks c b).b ys
    | _ => false
  | .while_ mc b => ckOne fun st => match st with
    | .While x xs [] _ => !c.hot && (ckx c mc).o x && noIte mc && (cks c b).b xs
    | _ => false
  | .for_ t w src b => ckOne fun st => match st with
    | .For tg it xs [] _ => !c.hot && ckT c.N c.sc t tg && (ckx c src).i w tg it && (cks c b).b xs
    | _ => false
  | .asg (.nm i) m => ckOne fun st => match st with
    | .Assign [.Name id _] x _ => decide (c.N[i]? = some id) && isLoc c.sc id && noComp x && (ckx c m).o x
    | _ => false
  | .set i k m => ckOne fun st => match st with
    | .Assign [.Subscript (.Name id _) kx _] x _ => decide (c.N[i]? = some id) && isVis c.sc id && noComp x && notSl kx && (ckx c k).o kx && (ckx c m).o x
    | _ => false
  | .fset i f m => ckOne fun st => match st with
    | .Assign [.Attribute (.Name id _) name _] x _ => decide (c.N[i]? = some id) && isVis c.sc id && decide (name = c.an f) && decide (f < c.nA) && noComp x && (ckx c m).o x
    | _ => false
  | .aug i o m => ckOne fun st => match st with
    | .AugAssign (.Name id _) op x _ => decide (c.N[i]? = some id) && isLoc c.sc id && decide (ipOf op = some o) && (ckx c m).o x
    | _ => false
  | .app i m => ckOne fun st => match st with
    | .Expr (.Call (.Attribute (.Name id _) name apos) [x] [] pos) _ => decide (c.N[i]? = some id) && isVis c.sc id && decide (name = "append") && (apos.endLine == pos.line) && noStar x && (ckx c m).o x
    | _ => false
  | .ext i m => ckOne fun st => match st with
    | .Expr (.Call (.Attribute (.Name id _) name apos) [x] [] pos) _ => decide (c.N[i]? = some id) && isVis c.sc id && decide (name = "extend") && (apos.endLine == pos.line) && noStar x && (ckx c m).o x
    | _ => false
  | .asg (.tp is) m => ckOne fun st => match st with
    | .Assign [.Tuple es _ _] x _ => !c.hot && ckNames c.N c.sc is es && noComp x && notTup x && (ckx c m).o x
    | _ => false
  | .asgC i (.lc own t w src cd m) => ckOne fun st => match st with
    | .Assign [.Name y py] (.ListComp elt [⟨tg, iter, ifs, a⟩] scope pos) _ => decide (a = 0) && !c.hot && (tgS t).all (fun i => own.contains i) && blkC c.N c.sc scope (ownp c.N own) && ckT c.N scope t tg && (ckx c src).i w tg iter
        && (match ifs with
          | [] => isNil cd
          | [y] => (ckx { c with sc := relS scope c.sc } cd).o y && noIte cd
          | _ => false) && (ckx { c with sc := relS scope c.sc } m).o elt
        && decide (c.N[i]? = some y) && decide (c.sc.names.lookup y = some .local) && decide (c.sc.kind = .function) && (py.line == pos.line) && !(scope.names.any fun (n, k) => n == y && (k == .local || k == .cell))
    | _ => false
  | .raise k as => ckOne fun st => match st with
    | .Raise (some (.Call (.Name id _) es [] _)) none _ => !c.hot && isGl c.sc id && decide (c.gl id = some (.cls k)) && (ckx c as).l es []
    | _ => false
  | .try_ b k i h => ckOne fun st => match st with
    | .Try body [.ExceptHandler (some (.Name x _)) (some nm) (b₀ :: suite) _] [] [] _ => !c.hot && decide (c.N[i]? = some nm) && decide (c.sc.names.lookup nm = some .local) && isGl c.sc x && decide (c.gl x = some (.cls k)) && ((c.P.cl k).exf).isSome && (cks c b).b body && (cks { c with hot := true } h).b (b₀ :: suite)
    | _ => false
  | .dead => ⟨fun _ => true, fun _ => true⟩
  | _ => ckOne fun _ => false
theorem notTup_sw {x : Expr} (h : notTup x = true) {es : List Expr} {kk : Nat} {tp : Pos} (env : PySem.Env) : swappedStores [.Tuple es kk tp] x env = pure none := by
  cases x <;> first | rfl | cases h
structure AllS (Γ : Ct) (F : Callee) (n : Nat) (x : S) : Prop where
  s : ∀ st, (cks Γ.cp x).s st = true → SS Γ F n x st
  b : ∀ l, (cks Γ.cp x).b l = true → SB Γ F n x l
section
variable {Γ : Ct} {F : Callee} {n : Nat}
theorem allOne {s : S} {f : Stmt → Bool} (hck : cks Γ.cp s = ckOne f) (h : ∀ st, f st = true → SS Γ F n s st) : AllS Γ F n s := by
  refine ⟨fun st q => h st (by rw [hck] at q; exact q), fun l q => ?_⟩
  rw [hck] at q
  match l, q with
  | [x], q => exact sb_one (h x q)
  | [], q => cases q
  | _ :: _ :: _, q => cases q
theorem mainS {S : Stc} {k kk : Nat} (hF : ∀ Γ : Ct, Γ.S = S → Γ.k = kk → Fac Γ F k) (s : Gal.S) : ∀ Γ : Ct, Γ.S = S → Γ.k = kk → Γ.top = true → (Γ.hot = false → Γ.xi = none) → AllS Γ F n s := by
  induction s with
  | nop =>
    intro Γ hS hk top hx
    have Fa := hF Γ hS hk
    have hA := fun m => mainx hF m Γ hS hk hx
    refine ⟨fun st q => (by cases q), fun l q => ?_⟩
    cases l with
    | nil => exact sb_nil
    | cons _ _ => cases q
  | seq a b iha ihb =>
    intro Γ hS hk top hx
    have Fa := hF Γ hS hk
    have hA := fun m => mainx hF m Γ hS hk hx
    have iha := iha Γ hS hk top hx
    have ihb := ihb Γ hS hk top hx
    refine ⟨fun st q => (by cases q), fun l q => ?_⟩
    cases l with
    | nil => cases q
    | cons st r => obtain ⟨q1, q2⟩ := and2 q; exact sb_seq (iha.s _ q1) (ihb.b _ q2)
  | pass =>
    intro Γ hS hk top hx
    have Fa := hF Γ hS hk
    have hA := fun m => mainx hF m Γ hS hk hx
    exact allOne rfl fun st q => by cases st <;> first | exact ss_pass | cases q
  | brk =>
    intro Γ hS hk top hx
    have Fa := hF Γ hS hk
    have hA := fun m => mainx hF m Γ hS hk hx
    exact allOne rfl fun st q => by cases st <;> first | exact ss_brk | cases q
  | cont =>
    intro Γ hS hk top hx
    have Fa := hF Γ hS hk
    have hA := fun m => mainx hF m Γ hS hk hx
    exact allOne rfl fun st q => by cases st <;> first | exact ss_cont | cases q
  | retN =>
    intro Γ hS hk top hx
    have Fa := hF Γ hS hk
    have hA := fun m => mainx hF m Γ hS hk hx
    refine allOne rfl fun st q => ?_
    cases st with
    | Return v p => cases v with
      | none => exact ss_retN
      | some _ => cases q
    | _ => cases q
  | ret m =>
    intro Γ hS hk top hx
    have Fa := hF Γ hS hk
    have hA := fun m => mainx hF m Γ hS hk hx
    refine allOne rfl fun st q => ?_
    cases st with
    | Return v p => cases v with
      | none => cases q
      | some x => exact ss_ret ((hA m).o _ q)
    | _ => cases q
  | expr m =>
    intro Γ hS hk top hx
    have Fa := hF Γ hS hk
    have hA := fun m => mainx hF m Γ hS hk hx
    refine allOne rfl fun st q => ?_
    cases st with
    | Expr x p => obtain ⟨q1, q2⟩ := and2 q; exact ss_expr ((hA m).o _ q1) q2
    | _ => cases q
  | ite mc a b iha ihb =>
    intro Γ hS hk top hx
    have Fa := hF Γ hS hk
    have hA := fun m => mainx hF m Γ hS hk hx
    have iha := iha Γ hS hk top hx
    have ihb := ihb Γ hS hk top hx
    refine allOne rfl fun st q => ?_
    cases st with
    | If x xs ys p =>
      obtain ⟨q, q4⟩ := and2 q
      obtain ⟨q, q3⟩ := and2 q
      obtain ⟨q1, q2⟩ := and2 q
      exact ss_ite ((hA mc).t _ q1 q2) (iha.b _ q3) (ihb.b _ q4)
    | _ => cases q
  | while_ mc b ihb =>
    intro Γ hS hk top hx
    have Fa := hF Γ hS hk
    have hA := fun m => mainx hF m Γ hS hk hx
    have ihb := ihb Γ hS hk top hx
    refine allOne rfl fun st q => ?_
    cases st with
    | While x xs ys p =>
      cases ys with
      | nil =>
        obtain ⟨q, q4⟩ := and2 q
        obtain ⟨q, q3⟩ := and2 q
        obtain ⟨q1, q2⟩ := and2 q
        exact ss_while top (notT q1) ((hA mc).t _ q2 q3) (ihb.b _ q4)
      | cons _ _ => cases q
    | _ => cases q
  | for_ t w src b ihb =>
    intro Γ hS hk top hx
    have Fa := hF Γ hS hk
    have hA := fun m => mainx hF m Γ hS hk hx
    have ihb := ihb Γ hS hk top hx
    refine allOne rfl fun st q => ?_
    cases st with
    | For tg it xs ys p =>
      cases ys with
      | nil =>
        obtain ⟨q, q4⟩ := and2 q
        obtain ⟨q, q3⟩ := and2 q
        obtain ⟨q1, q2⟩ := and2 q
        obtain ⟨si, fs⟩ := (hA src).i _ _ _ q3
        exact ss_for top (notT q1) q2 si (ihb.b _ q4) fs
      | cons _ _ => cases q
    | _ => cases q
  | asg t m =>
    intro Γ hS hk top hx
    have Fa := hF Γ hS hk
    have hA := fun m => mainx hF m Γ hS hk hx
    cases t with
    | tp is =>
      refine allOne rfl fun st q => ?_
      cases st with
      | Assign tgs x p =>
        match tgs, q with
        | [.Tuple es kk tp], q =>
          obtain ⟨q, q5⟩ := and2 q
          obtain ⟨q, q4⟩ := and2 q
          obtain ⟨q, q3⟩ := and2 q
          obtain ⟨q1, q2⟩ := and2 q
          exact ss_asgT top (notT q1) q2 q3 (notTup_sw q4) ((hA m).o _ q5)
      | _ => cases q
    | nm i =>
      refine allOne rfl fun st q => ?_
      cases st with
      | Assign tgs x p =>
        match tgs, q with
        | [.Name id p1], q =>
          obtain ⟨q, q4⟩ := and2 q
          obtain ⟨q, q3⟩ := and2 q
          obtain ⟨q1, q2⟩ := and2 q
          exact ss_asg top (of_decide_eq_true q1) q2 q3 ((hA m).o _ q4)
      | _ => cases q
  | set i k m =>
    intro Γ hS hk top hx
    have Fa := hF Γ hS hk
    have hA := fun m => mainx hF m Γ hS hk hx
    refine allOne rfl fun st q => ?_
    cases st with
    | Assign tgs x p =>
      match tgs, q with
      | [.Subscript (.Name id p1) kx p2], q =>
        obtain ⟨q, q6⟩ := and2 q
        obtain ⟨q, q5⟩ := and2 q
        obtain ⟨q, q4⟩ := and2 q
        obtain ⟨q, q3⟩ := and2 q
        obtain ⟨q1, q2⟩ := and2 q
        exact ss_set (of_decide_eq_true q1) q2 q3 q4 ((hA k).o _ q5) ((hA m).o _ q6)
    | _ => cases q
  | fset i f m =>
    intro Γ hS hk top hx
    have Fa := hF Γ hS hk
    have hA := fun m => mainx hF m Γ hS hk hx
    refine allOne rfl fun st q => ?_
    cases st with
    | Assign tgs x p =>
      match tgs, q with
      | [.Attribute (.Name id p1) name p2], q =>
        obtain ⟨q, q6⟩ := and2 q
        obtain ⟨q, q5⟩ := and2 q
        obtain ⟨q, q4⟩ := and2 q
        obtain ⟨q, q3⟩ := and2 q
        obtain ⟨q1, q2⟩ := and2 q
        have q3 : name = Γ.S.an f := of_decide_eq_true q3
        subst q3
        exact ss_fset Fa (of_decide_eq_true q1) q2 (of_decide_eq_true q4) q5 ((hA m).o _ q6)
    | _ => cases q
  | aug i o m =>
    intro Γ hS hk top hx
    have Fa := hF Γ hS hk
    have hA := fun m => mainx hF m Γ hS hk hx
    refine allOne rfl fun st q => ?_
    cases st with
    | AugAssign tg op x p =>
      cases tg with
      | Name id p1 =>
        obtain ⟨q, q4⟩ := and2 q
        obtain ⟨q, q3⟩ := and2 q
        obtain ⟨q1, q2⟩ := and2 q
        exact ss_aug top (of_decide_eq_true q3) (of_decide_eq_true q1) q2 ((hA m).o _ q4)
      | _ => cases q
    | _ => cases q
  | app i m =>
    intro Γ hS hk top hx
    have Fa := hF Γ hS hk
    have hA := fun m => mainx hF m Γ hS hk hx
    refine allOne rfl fun st q => ?_
    cases st with
    | Expr x p =>
      cases x with
      | Call fn es kws pos =>
        cases fn with
        | Attribute o name apos =>
          cases o with
          | Name id p1 =>
            match es, kws, q with
            | [x], [], q =>
              obtain ⟨q, q6⟩ := and2 q
              obtain ⟨q, q5⟩ := and2 q
              obtain ⟨q, q4⟩ := and2 q
              obtain ⟨q, q3⟩ := and2 q
              obtain ⟨q1, q2⟩ := and2 q
              have q3 := of_decide_eq_true q3
              subst q3
              exact ss_app (of_decide_eq_true q1) q2 (by simp [q5]) q4 ((hA m).o _ q6)
            | [], _, q => cases q
            | [_], _ :: _, q => simp [cks, ckOne] at q
            | _ :: _ :: _, _, q => simp [cks, ckOne] at q
          | _ => cases q
        | _ => cases q
      | _ => cases q
    | _ => cases q
  | ext i m =>
    intro Γ hS hk top hx
    have Fa := hF Γ hS hk
    have hA := fun m => mainx hF m Γ hS hk hx
    refine allOne rfl fun st q => ?_
    cases st with
    | Expr x p =>
      cases x with
      | Call fn es kws pos =>
        cases fn with
        | Attribute o name apos =>
          cases o with
          | Name id p1 =>
            match es, kws, q with
            | [x], [], q =>
              obtain ⟨q, q6⟩ := and2 q
              obtain ⟨q, q5⟩ := and2 q
              obtain ⟨q, q4⟩ := and2 q
              obtain ⟨q, q3⟩ := and2 q
              obtain ⟨q1, q2⟩ := and2 q
              have q3 := of_decide_eq_true q3
              subst q3
              exact ss_ext (of_decide_eq_true q1) q2 (by simp [q5]) q4 ((hA m).o _ q6)
            | [], _, q => cases q
            | [_], _ :: _, q => simp [cks, ckOne] at q
            | _ :: _ :: _, _, q => simp [cks, ckOne] at q
          | _ => cases q
        | _ => cases q
      | _ => cases q
    | _ => cases q
  | raise c as =>
    intro Γ hS hk top hx
    have Fa := hF Γ hS hk
    have hA := fun m => mainx hF m Γ hS hk hx
    refine allOne rfl fun st q => ?_
    cases st with
    | Raise v w p =>
      cases v with
      | some v =>
        cases w with
        | none =>
          cases v with
          | Call fn es kws p2 =>
            cases fn with
            | Name id p3 =>
              cases kws with
              | nil =>
                obtain ⟨q, q4⟩ := and2 q
                obtain ⟨q, q3⟩ := and2 q
                obtain ⟨q1, q2⟩ := and2 q
                exact ss_raise Fa (notT q1) q2 (of_decide_eq_true q3) ((hA as).l _ _ q4).2 ((hA as).l _ _ q4).1
              | cons _ _ => cases q
            | _ => cases q
          | _ => cases q
        | some _ => simp [cks, ckOne] at q
      | none => cases q
    | _ => cases q
  | try_ b c i h ihb ihh =>
    intro Γ hS hk top hx
    have Fa := hF Γ hS hk
    refine allOne rfl fun st q => ?_
    cases st with
    | Try body hs oe fb p =>
      match hs, oe, fb, q with
      | [.ExceptHandler tx nmo su p2], [], [], q =>
        cases tx with
        | some tx =>
          cases nmo with
          | some nm =>
            cases tx with
            | Name x p3 =>
              cases su with
              | cons b₀ suite =>
                obtain ⟨q, q8⟩ := and2 q
                obtain ⟨q, q7⟩ := and2 q
                obtain ⟨q, q6⟩ := and2 q
                obtain ⟨q, q5⟩ := and2 q
                obtain ⟨q, q4⟩ := and2 q
                obtain ⟨q, q3⟩ := and2 q
                obtain ⟨q1, q2⟩ := and2 q
                have hh := notT q1
                exact ss_try Fa top hh (hx hh) (of_decide_eq_true q2) (of_decide_eq_true q3) q4 (of_decide_eq_true q5) q6 (fun W => (ihb (tryΓ Γ W) hS hk top hx).b _ q7) (fun a cls d => (ihh (sutΓ Γ a cls d) hS hk top (fun z => by cases z)).b _ q8)
              | nil => simp [cks, ckOne] at q
            | _ => simp [cks, ckOne] at q
          | none => simp [cks, ckOne] at q
        | none => simp [cks, ckOne] at q
      | [], _, _, q => cases q
      | [_], _ :: _, _, q => simp [cks, ckOne] at q
      | [_], [], _ :: _, q => simp [cks, ckOne] at q
      | _ :: _ :: _, _, _, q => simp [cks, ckOne] at q
    | _ => cases q
  | asgC i m =>
    intro Γ hS hk top hx
    have Fa := hF Γ hS hk
    cases m with
    | lc own t w src cd m =>
      refine allOne rfl fun st q => ?_
      cases st with
      | Assign tgs x p =>
        match tgs, q with
        | [.Name y py], q =>
          cases x with
          | ListComp elt gens scope pos =>
            match gens, q with
            | [⟨tg, iter, ifs, a⟩], q =>
              obtain ⟨q, q13⟩ := and2 q
              obtain ⟨q, q12⟩ := and2 q
              obtain ⟨q, q11⟩ := and2 q
              obtain ⟨q, q10⟩ := and2 q
              obtain ⟨q, q9⟩ := and2 q
              obtain ⟨q, q8⟩ := and2 q
              obtain ⟨q, q7⟩ := and2 q
              obtain ⟨q, q6⟩ := and2 q
              obtain ⟨q, q5⟩ := and2 q
              obtain ⟨q, q4⟩ := and2 q
              obtain ⟨q, q3⟩ := and2 q
              obtain ⟨q1, q2⟩ := and2 q
              have q1 := of_decide_eq_true q1
              subst q1
              have hh : Γ.hot = false := notT q2
              obtain ⟨si, fs⟩ := (mainx hF src Γ hS hk hx).i _ _ _ q6
              have ihm' := mainx hF m (blkΓ Γ scope) hS hk fun _ => rfl
              have sc : SC (blkΓ Γ scope) F cd ifs := by
                match ifs, q7 with
                | [], q7 =>
                  cases cd with
                  | nil => exact sc_nil
                  | _ => cases q7
                | [y], q7 =>
                  obtain ⟨c1, c2⟩ := and2 q7
                  exact sc_one ((mainx hF cd (blkΓ Γ scope) hS hk fun _ => rfl).t _ c1 c2)
                | _ :: _ :: _, q7 => cases q7
              exact ss_asgC hh (hx hh) (fun i hi => by have := List.all_eq_true.mp q3 i hi; simpa using this) q4 q5 si sc (ihm'.o _ q8) fs (of_decide_eq_true q9) (of_decide_eq_true q10) (of_decide_eq_true q11) q12 (notT q13)
            | [], q => cases q
            | ⟨_, _, _, _⟩ :: ⟨_, _, _, _⟩ :: _, q => cases q
          | _ => cases q
        | [], q => cases q
        | [.Tuple _ _ _], q => cases q
        | _ :: _ :: _, q => simp [cks, ckOne] at q
      | _ => cases q
    | _ => exact allOne rfl fun st q => by cases q
  | dead =>
    intro Γ hS hk top hx
    exact ⟨fun st q σ B H e o DE P hr => (by cases hr), fun l q σ B H e o DE P hr => (by cases hr)⟩
  | asgL is m =>
    intro Γ hS hk top hx
    exact allOne rfl fun st q => by cases q
end
end Gal
set_option Elab.async false
set_option linter.all false
set_option maxRecDepth 100000
set_option maxHeartbeats 2000000
/-! X0: an own exception __init__: what the text must say; the bound __init__ called. -/
namespace Gal
open PySem L2 PyProof.Rows PySem.Spec NdefX
/-! ### the bound __init__ called -/
section
open PySem.W
variable {prog : Program} {w : World} {A : Around} {E : Value → Shared → Prop} {h : Heap} {g : Array GenState} {d : Drawn} {t : Nat} {os : OsState}
variable {nm q : PySem.Str} {C N : Addr} {bs bm : List Value} {hdct : Bool} {sn : List PySem.Str} {sub : List Value} {ab : Bool} {col : Option Bool} {dd : Option Addr} {k0 k1 k2 k3 k5 : Option Value}
theorem bound_init {u e t0 : Addr} {rest : List Value} {Q : Value → Shared → Prop}
    (hC : h.get? C = some (excClassObj nm q C N bs bm hdct sn sub ab col dd k0 k1 k2 k3 k5 "ValueError.__new__")) (he : h.get? e = some (HandSPX.excO C t0)) (hu : h.get? u = some (kxs_mw "ValueError.__init__" e)) (hrest : rest.length ≤ sizeLine)
    (hq : ∀ h' t1, (∀ b o, b ≠ e → h.get? b = some o → h'.get? b = some o) → h'.get? e = some (HandSPX.excO C t1) → Q .none ⟨h', g, d, t, os⟩) :
    wpAny (model prog w) A (call (.ref u) rest) Q E ⟨h, g, d, t, os⟩ := by
  have FB := F.excBase_ValueError
  refine wpAny_call (codeAny_of_tree ?_)
  show wpAny _ A.in1 (callAny (.ref u) ⟨rest, []⟩) _ _ _
  simp only [callAny]
  refine wpAny_bind (wpAny_load hu ?_)
  simp only [kxs_mw, show (Value.type "method-wrapper" == Value.type "method" || Value.type "method-wrapper" == Value.type "builtin_function_or_method" || Value.type "method-wrapper" == Value.type "method-wrapper") = true by decide, if_true]
  refine KFB.if_so (by decide) ?_
  refine wpAny_bind (check_bound_init FB.toExcCallFacts hC he rfl ?_)
  refine wpAny_bind (wpAny_pure (wpAny_pure ?_))
  refine ⟨plainId_quiet FB.init.plain _, codeAny_builtin FB.initEntry ?_⟩
  exact exc_init_tree (cls := .ref C) (t0 := t0) (dv := none) (c2 := .none) (c3 := .none) (b4 := .bool false) he hrest fun h' k e' t' => hq h' _ k e'
end
/-- what the written part says of such a class: C its place, fI its __init__'s -/
structure XIn (P : Program) (K : PySem.W.Frag) (mg : PySem.Str → Option Value) (C fI : Addr) (G : NF) (ps N : List PySem.Str) : Prop where
  oex : OexC K C
  cell : ∃ cc cl cld csl, G.cl = [(("__class__" : PySem.Str), cc)] ∧ K.lookup cc = some ⟨cl, cld, .cell (some (.ref C)), csl⟩
  fn : ∃ oc od osl dV kV doc pm an ct, K.lookup fI = some ⟨oc, od, .func (PySem.W.fnX G.name G.qual G.params G.body G.scope G.cl dV kV doc pm an (.ref G.c) ct), osl⟩ ∧
    (∀ us : List Value, us.length = ps.length → bindArgs (PySem.W.fnX G.name G.qual G.params G.body G.scope G.cl dV kV doc pm an (.ref G.c) ct) ⟨us, []⟩ = pure (ps.zip us))
  file : ∃ ccl cdd vs ccs fl tf, K.lookup G.c = some ⟨ccl, cdd, .fields vs, ccs⟩ ∧ vs[2]? = some (.str fl tf) ∧ ((P.main.file : PySem.Str) == fl) = true
  code : PySem.W.codeIn K (.ref G.c) G.qual = true
  scope : NScope N ps ["__class__"] G.scope
  head : ∃ ar x0 ps', (G.params.posonlyargs ++ G.params.args).head? = some ar ∧ ps = x0 :: ps' ∧ ar.arg = x0
  sup : G.scope.names.lookup ("super" : PySem.Str) = some .globalImplicit
  mgs : mg "super" = none
  top : (P.main.scope.names.lookup ("super" : PySem.Str)).isSome = false
  cls : ∃ cd, PySem.W.clsIn K C = some cd
  sub : PySem.W.mroIn K C (.ref C) = some true
  opq : PySem.W.nsIn K cStatics "thirdparty.any" = some none
  supI : PySem.W.ks_superIn K C C "__init__" = some (some (.builtin "ValueError.__init__"))
  subV : PySem.W.subIn K (.ref C) (.type "ValueError") = some true
  iC : PySem.W.findIn K (.ref C) "__init__" = some (some (.ref fI))
  tI : PySem.W.typeIn K (.ref fI) = some (.type "function")
theorem unpin {X : Cx} {pins : List (Addr × Obj)} {σ : L2.St} {H : Hp} {s : Shared} (I : Inv X pins σ H s) : Inv X [] σ H s :=
  ⟨I.ok, I.os, I.bare, I.base, I.loc, I.cell, I.free, I.freeC, fun p hp => I.pin p (by rw [List.append_nil] at hp; exact List.mem_append_left _ hp), I.hok, I.len⟩
theorem pin1 {X : Cx} {σ : L2.St} {H : Hp} {s : Shared} (I : Inv X [] σ H s) {a : Addr} {o : Obj} (e : s.heap.get? a = some o) (n : H a = none) (l : a ≠ X.env.locals) (f : a ∉ X.fs) (c : ∀ v, o.data ≠ .cell v) : Inv X [(a, o)] σ H s :=
  ⟨I.ok, I.os, I.bare, I.base, I.loc, I.cell, I.free, I.freeC, fun p hp => by
    rcases List.mem_append.mp hp with z | z
    · exact I.pin p (List.mem_append_left _ z)
    · have : p = (a, o) := by simpa using z
      subst this
      exact ⟨e, n, l, f, c⟩, I.hok, I.len⟩
end Gal
set_option Elab.async false
set_option linter.all false
set_option maxRecDepth 100000
set_option maxHeartbeats 2000000
/-! X1: super().__init__. -/
namespace Gal
open PySem L2 PyProof.Rows PySem.Spec NdefX
/-- super().__init__('..') -/
theorem sup_row {CX : CXT} {P : Program} {w : World} {K : PySem.W.Frag} {mg : PySem.Str → Option Value} {base : Heap} {N ps : List PySem.Str} {G : NF} {fI C a : Addr} {A : Around} {outer : List PySem.Env} {s0 s : Shared} {H0 H : Hp} {E : XK} {σ : L2.St}
    {txt : PySem.Str} {j : Nat} {p0 p1 p2 p3 p4 p5 : Pos} {body : List Stmt} {Q : Flow → Shared → Prop}
    (T : XIn P K mg C fI G ps N) (I : Inv (ncx CX P w K mg base N G fI A outer s0 H0 E) [] σ H s) (h0 : σ[0]? = some (some (.ref a))) (ea : H a = some (exo a C none)) (hline : (p2.endLine == p4.line) = true)
    (h : ∀ s', Inv (ncx CX P w K mg base N G fI A outer s0 H0 E) [] σ H s' → Q .next s') :
    _root_.PySem.wpAt (model P w) (A.deeper (envF G fI s0.heap.objs.size)) (.func body (envF G fI s0.heap.objs.size)) (exec (.Expr (.Call (.Attribute (.Call (.Name "super" p0) [] [] p1) "__init__" p2) [.Constant (.str txt) j p3] [] p4) p5) (envF G fI s0.heap.objs.size)) Q
      (ncx CX P w K mg base N G fI A outer s0 H0 E).xe s := by
  obtain ⟨cc, cl, cld, csl, ecl, hcell⟩ := T.cell
  obtain ⟨oc, od, osl, dV, kV, doc, pm, an, ct, hf, hbind⟩ := T.fn
  obtain ⟨ccl, cdd, vs, ccs, fl, tf, hcode, hvs, hfile⟩ := T.file
  obtain ⟨ar, x0, ps', hp, eps, ear⟩ := T.head
  obtain ⟨cdD, hD⟩ := T.cls
  have S := T.scope
  have KX : K.In s.heap := I.kIn
  have hkc : G.scope.names.lookup ("__class__" : PySem.Str) = some .free := S.frk _ (by simp)
  have hx0 : N[0]? = some x0 := by
    have q := S.pre
    rw [eps] at q
    cases hN : N with
    | nil => rw [hN] at q; simp at q
    | cons y r => rw [hN] at q; simp at q; rw [q.1]; rfl
  have hlx : G.scope.names.lookup x0 = some .local := S.par x0 (by rw [eps]; exact List.mem_cons_self ..)
  obtain ⟨oD, hD1, hD2⟩ : ∃ oD, s.heap.get? C = some oD ∧ oD.data = .cls cdD := by
    unfold PySem.W.clsIn at hD
    split at hD
    · rename_i c d cd' sl ho
      cases hD
      exact ⟨_, KX _ _ ho, rfl⟩
    · cases hD
  obtain ⟨nm, q, N', bs, bm, sn, sub, ab, col, dd, k0, k1, k2, k3, k5, hC, hbm⟩ := T.oex.cls
  refine PySem.ks_wpAt_Expr_any (PySem.ks_wpAt_MethodCall (pl := (do return (← importBound (.Call (.Name "super" p0) [] [] p1) (envF G fI s0.heap.objs.size)).getD true)) ?_ ?_) ?_ rfl
  case refine_2 =>
    rw [arm_eval_Call]
    unfold methodCall calleeOf methodCallPos
    rw [form_ok (es := [.Constant (.str txt) j p3]) (by rfl) (show 1 < 30 by decide)]
    simp [hline, backToKw, keywordEach]
  case refine_3 =>
    unfold interactive
    rw [show (envF G fI s0.heap.objs.size).scope.kind = .function from S.kind]
    rfl
  refine PySem.ks_wpAt_super_base (env := envF G fI s0.heap.objs.size) T.sup hkc (by decide) rfl (KX _ _ hf) rfl hp rfl (KX _ _ hcode) rfl hvs hfile T.top ?_
  obtain ⟨mb, hb1, hb2⟩ := I.mod.blt
  refine PySem.W.ks_loadName_global I.ok.kind T.sup (Calls.loadGlobal_builtin (env := envF G fI s0.heap.objs.size) (I.mod.glob.keeps I.bk) T.mgs (hb1.keeps I.bk) ((hb2 _ (by decide +kernel)).trans (by first | boot_by_name | rfl | kernel_rfl)) ⟨rfl, ?_⟩)
  refine wpAny_loadName_free I.ok.kind hkc (c := cc) (by show List.lookup _ G.cl = _; rw [ecl]; rfl) (v := .ref C) ⟨_, KX _ _ hcell, rfl⟩ ?_
  obtain ⟨m, hn, hl⟩ := I.loc
  obtain ⟨u, ru, lk⟩ := hl 0 x0 (.ref a) hx0 h0 (.inl hlx)
  obtain rfl : u = Value.ref a := ru
  have hmv : m x0 = some (.ref a) := by
    rcases lk with ⟨_, z⟩ | ⟨z, _⟩
    · exact z
    · have z : G.scope.names.lookup x0 = some .cell ∨ G.scope.names.lookup x0 = some .free := z
      rw [hlx] at z
      rcases z with z | z <;> cases z
  rw [ear]
  refine wpAny_loadName_local I.ok.kind hlx hn hmv ?_
  refine PySem.ks_wpAny_isType_cls hD1 hD2 ⟨rfl, ?_⟩
  obtain ⟨t1, ho⟩ := exo_at I.hok ea
  obtain ⟨hh, g, d, t, os⟩ := s
  refine PySem.ks_wpAny_call_super hD1 hD2 ho rfl (fun c e => by cases e) (PySem.W.looks_mroIn KX T.sub) (fun h' e k => ?_)
  have I1 : Inv (ncx CX P w K mg base N G fI A outer s0 H0 E) [] σ H ⟨h', g, d, t, os⟩ := I.kept k
  have KX1 : K.In h' := I1.kIn
  have ho1 := k _ _ ho
  have hne : a ≠ C := fun z => by
    rw [z] at ho
    have z2 := Option.some.inj (ho.symm.trans hD1)
    rw [← z2] at hD2
    cases hD2
  have supI := T.supI
  unfold PySem.W.ks_superIn at supI
  rw [hD] at supI
  have isV : PySem.W.Looks (model P w) h' (isInstance (.ref a) (.type "ValueError")) true :=
    PySem.W.Looks.andThen (show PySem.W.Looks (model P w) h' (typeOf (.ref a)) (.ref C) from fun A Q E s k q => wpAny_typeOf_ref (k _ _ ho1) q) (PySem.W.looks_subIn KX1 T.subV)
  refine PySem.W.kxs_getMethod PySem.W.kxs_ValueError e (PySem.W.looks_opaque KX1 T.opq) (l₀ := cdD.mro) (fun A Q E s k q => wpAny_bind ((PySem.W.looks_clsIn KX1 hD) A _ E s k (wpAny_pure q))) rfl KX1 supI isV hne (by decide) ?_
  have I2 : Inv (ncx CX P w K mg base N G fI A outer s0 H0 E) [] σ H ⟨h'.push (PySem.W.kxs_mw "ValueError.__init__" a), g, d, t + 1, os⟩ := I1.kept fun b o e => Heap.get?_push_of_some _ e
  have hu : (h'.push (PySem.W.kxs_mw "ValueError.__init__" a)).get? h'.objs.size = some (PySem.W.kxs_mw "ValueError.__init__" a) := Heap.get?_push_at rfl rfl
  have I3 := pin1 I2 hu (I1.hok.fresh (Nat.le_refl _)) (Nat.ne_of_gt I1.lt) (I1.nofs (Nat.le_refl _)) (fun v z => by cases z)
  show wpAny _ _ (callWith p4 (.ref h'.objs.size) [] (backTo p4 (starEach [.Constant (.str txt) j p3] (envF G fI s0.heap.objs.size))) []) _ _ _
  have ha : PA (ncx CX P w K mg base N G fI A outer s0 H0 E) [.Constant (.str txt) j p3] (tCons (tC (.str txt)) tNil) := pa_cons pe_str pa_nil
  rw [show starEach [.Constant (.str txt) j p3] (envF G fI s0.heap.objs.size) = (false, eval (.Constant (.str txt) j p3) (envF G fI s0.heap.objs.size)) :: starEach [] (envF G fI s0.heap.objs.size) from rfl]
  refine PySem.W.kxs_callWith (i := "ValueError.__init__") (x := a) rfl (PySem.Calls.evalArgs_plain (thn (ha.run p4 _ _ σ H (fun vs H1 => vs = [V.str txt] ∧ H = H1) I3 ⟨rfl, rfl⟩) fun us s1 hh1 => ?_))
  obtain ⟨vs1, H1, I4, r1, ev, eH⟩ := hh1
  subst ev
  rw [← eH] at I4
  have hu1 := (I4.pin _ (List.mem_append_right _ (List.mem_cons_self ..))).1
  refine ⟨hu1, ?_⟩
  show wpAny _ _ (call (.ref h'.objs.size) us) _ _ _
  obtain ⟨t4, ho4⟩ := exo_at I4.hok ea
  have J := unpin I4
  obtain ⟨h4, g4, d4, tk4, os4⟩ := s1
  refine bound_init (t0 := t4) (J.kIn _ _ hC) ho4 hu1 (by rw [← r1.length]; show 1 ≤ sizeLine; rw [sizeLine_eq]; omega) fun h5 t5 k5' ho5 => ?_
  have J5 := J.write (t' := tk4) (x := a) (e := a) (o := exo a C none) (by rw [ea]; exact True.intro) (.inl rfl) k5' ⟨_, ho5⟩ (exo_ok ho5)
  have eu : upd H a (exo a C none) = H := by
    funext b
    by_cases hb : b = a
    · rw [hb, upd_same, ea]
    · rw [upd_ne hb]
  rw [eu] at J5
  exact h _ J5
end Gal
set_option Elab.async false
set_option linter.all false
set_option maxRecDepth 100000
set_option maxHeartbeats 2000000
/-! X2: the stores; the whole __init__. -/
namespace Gal
open PySem L2 PyProof.Rows PySem.Spec NdefX
/-! ### the stores -/
def Ws (X : Cx) (x : List Stmt) : TS := fun D σ H => ∃ t, PSs X x t ∧ t D σ H
theorem Ws_ps {X : Cx} {x : List Stmt} : PSs X x (Ws X x) := ⟨fun pins s σ H D I ⟨_, f, q⟩ => f.run pins s σ H D I q⟩
/-- self.f = p -/
def stoRow (x0 f p : PySem.Str) (st : Stmt) : Bool := match st with
  | .Assign [.Attribute (.Name x _) g _] (.Name y _) _ => decide (x0 = x) && decide (g = f) && decide (p = y) && !(x == ("__debug__" : PySem.Str)) && !(x == ("__classdict__" : PySem.Str)) && !(y == ("__debug__" : PySem.Str)) && !(y == ("__classdict__" : PySem.Str))
  | _ => false
theorem stoRow_inv {x0 f p : PySem.Str} {st : Stmt} (h : stoRow x0 f p st = true) : ∃ q1 q2 q3 q4, st = .Assign [.Attribute (.Name x0 q1) f q2] (.Name p q3) q4 ∧ (x0 == ("__debug__" : PySem.Str)) = false ∧ (x0 == ("__classdict__" : PySem.Str)) = false ∧ (p == ("__debug__" : PySem.Str)) = false ∧ (p == ("__classdict__" : PySem.Str)) = false := by
  unfold stoRow at h
  split at h
  · rename_i x q1 g q2 y q3 q4
    simp only [Bool.and_eq_true, decide_eq_true_eq, Bool.not_eq_true'] at h
    obtain ⟨⟨⟨⟨⟨⟨rfl, rfl⟩, rfl⟩, c1⟩, c2⟩, c3⟩, c4⟩ := h
    exact ⟨q1, q2, q3, q4, rfl, c1, c2, c3, c4⟩
  · cases h
/-- .. one behind the other, the parameters in order -/
def stoRows (x0 : PySem.Str) : List PySem.Str → List PySem.Str → List Stmt → Bool
  | [], [], [] => true
  | p :: ps, f :: fs, st :: r => stoRow x0 f p st && stoRows x0 ps fs r
  | _, _, _ => false
def IniDone (C a : Addr) (H0 : Hp) (dn : List (PySem.Str × V)) (H : Hp) : Prop :=
  (dn = [] ∧ H a = some (exo a C none) ∧ H = H0) ∨ (dn ≠ [] ∧ ∃ d, H a = some (exo a C (some d)) ∧ H d = some (exd d dn) ∧ H0 d = none ∧ d ≠ a ∧ ∀ b, b ≠ a → b ≠ d → H b = H0 b)
theorem sto_rows {X : Cx} {C a : Addr} {x0 : PySem.Str} (T : OexC X.K C) (hx : X.N[0]? = some x0) (hvx : X.env.scope.names.lookup x0 = some .local) {σ : L2.St} {H0 : Hp} {D : Ends} (h0 : σ[0]? = some (some (.ref a))) :
    ∀ (ps fs : List PySem.Str) (rows : List Stmt) (i : Nat) (vs : List V) (dn : List (PySem.Str × V)) (H : Hp), stoRows x0 ps fs rows = true → (∀ j p, ps[j]? = some p → X.N[i + j]? = some p) → (∀ p ∈ ps, X.env.scope.names.lookup p = some .local) → (∀ f ∈ fs, PySem.W.findIn X.K (.ref C) f = some none) →
      vs.length = fs.length → (∀ j v, vs[j]? = some v → σ[i + j]? = some (some v)) →
      dn.length + fs.length ≤ 900 → IniDone C a H0 dn H → (∀ H', IniDone C a H0 ((fs.zip vs).reverse ++ dn) H' → D.nx σ H') → Ws X rows D σ H
  | [], [], [], i, vs, dn, H, hr, _, _, _, hl, _, _, hd, K => by
    refine ⟨_, pss_nil, K H ?_⟩
    have : vs = [] := by simpa using hl
    subst this
    exact hd
  | p :: ps, f :: fs, st :: r, i, vs, dn, H, hr, hN, hv, hno, hl, hs, hz, hd, K => by
    obtain ⟨hr1, hr2⟩ := Bool.and_eq_true_iff.mp hr
    obtain ⟨q1, q2, q3, q4, rfl, c1, c2, c3, c4⟩ := stoRow_inv hr1
    cases vs with
    | nil => cases hl
    | cons v vs =>
      have px : PE X (.Name x0 q1) (tVar 0) := pe_var hx (.inl hvx) c1 c2
      have py : PE X (.Name p q3) (tVar i) := pe_var (hN 0 p rfl) (.inl (hv _ (List.mem_cons_self ..))) c3 c4
      have go : ∀ H1, IniDone C a H0 ((f, v) :: dn) H1 → Ws X r D σ H1 := fun H1 h1 => by
        refine sto_rows T hx hvx h0 ps fs r (i + 1) vs ((f, v) :: dn) H1 hr2 (fun j p e => ?_) (fun p hp => hv p (List.mem_cons_of_mem _ hp)) (fun f hf => hno f (List.mem_cons_of_mem _ hf)) (Nat.succ.inj hl) (fun j w e => ?_) (by simp at hz ⊢; omega) h1 fun H' h' => K H' ?_
        · rw [show i + 1 + j = i + (j + 1) by omega]
          exact hN (j + 1) p e
        · rw [show i + 1 + j = i + (j + 1) by omega]
          exact hs (j + 1) w e
        · rw [List.zip_cons_cons, List.reverse_cons, List.append_assoc]
          exact h'
      have rd : tOst X.K f (tVar 0) (tVar i) { D with nx := fun σ H => Ws X r D σ H } σ H := by
        refine ⟨v, hs 0 v rfl, .ref a, h0, a, C, rfl, T, hno _ (List.mem_cons_self ..), ?_⟩
        rcases hd with ⟨e1, e2, e3⟩ | ⟨e1, d, e2, e3, e4, e5, e6⟩
        · subst e1
          subst e3
          refine .inl ⟨e2, fun dx hn hne => go _ (.inr ⟨by simp, dx, upd_same, ?_, hn, hne, fun b hb hb' => ?_⟩)⟩
          · rw [upd_ne hne, upd_same]
          · rw [upd_ne hb, upd_ne hb']
        · refine .inr ⟨d, dn, e2, e3, (by simp at hz; omega), go _ (.inr ⟨by simp, d, ?_, upd_same, e4, e5, fun b hb hb' => ?_⟩)⟩
          · rw [upd_ne (Ne.symm e5)]; exact e2
          · rw [upd_ne hb', e6 b hb hb']
      exact ⟨_, pss_cons (ps_ost px py (noComp_sw (x := .Name p q3) rfl _ _ _)) Ws_ps, rd⟩
  | [], _ :: _, _, _, _, _, _, hr, _, _, _, _, _, _, _, _ => by simp [stoRows] at hr
  | _ :: _, [], _, _, _, _, _, hr, _, _, _, _, _, _, _, _ => by simp [stoRows] at hr
  | _ :: _, _ :: _, [], _, _, _, _, hr, _, _, _, _, _, _, _, _ => by simp [stoRows] at hr
  | [], [], _ :: _, _, _, _, _, hr, _, _, _, _, _, _, _, _ => by simp [stoRows] at hr
def supRow (st : Stmt) : Bool := match st with
  | .Expr (.Call (.Attribute (.Call (.Name s _) [] [] _) m p2) [.Constant (.str _) _ _] [] p4) _ => decide (s = "super") && decide (m = "__init__") && (p2.endLine == p4.line)
  | _ => false
theorem supRow_inv {st : Stmt} (h : supRow st = true) : ∃ p0 p1 p2 txt j p3 p4 p5, st = .Expr (.Call (.Attribute (.Call (.Name "super" p0) [] [] p1) "__init__" p2) [.Constant (.str txt) j p3] [] p4) p5 ∧ (p2.endLine == p4.line) = true := by
  unfold supRow at h
  split at h
  · rename_i s p0 p1 m p2 txt j p3 p4 p5
    simp only [Bool.and_eq_true, decide_eq_true_eq] at h
    obtain ⟨⟨rfl, rfl⟩, hl⟩ := h
    exact ⟨p0, p1, p2, txt, j, p3, p4, p5, rfl, hl⟩
  · cases h
theorem cellsAt_of {P : Program} {w : World} {K : PySem.W.Frag} {mg : PySem.Str → Option Value} {base : Heap} {C fI : Addr} {G : NF} {ps N : List PySem.Str} (T : XIn P K mg C fI G ps N) {A : Around} {outer : List PySem.Env} {s : Shared} {H : Hp} (e0 : Env0 P w K mg base A outer s H) : CellsAt G.cl ["__class__"] [none] s.heap H := by
  obtain ⟨cc, cl, cld, csl, ecl, hcell⟩ := T.cell
  have hb := e0.bs cc _ (e0.mod.kin _ _ hcell)
  have look : ∀ {y c}, G.cl.lookup y = some c → y = "__class__" ∧ c = cc := fun {y c} e => by
    rw [ecl] at e
    unfold List.lookup at e
    split at e
    · rename_i q
      exact ⟨beq_iff_eq.mp q, (Option.some.inj e).symm⟩
    · cases e
  refine ⟨rfl, fun y c e => ?_, fun x y c e1 e2 => ?_, fun i y e => ?_⟩
  · obtain ⟨_, rfl⟩ := look e
    exact ⟨hb.2, _, _, hb.1, rfl⟩
  · exact (look e1).1.trans (look e2).1.symm
  · cases i with
    | zero =>
      cases e
      refine ⟨cc, by rw [ecl]; rfl, fun v z => by cases z⟩
    | succ i => simp at e
/-- what the __init__ promises -/
def spIni (C : Addr) (fs : List PySem.Str) : Sp := fun vs H Q _ => ∃ a ws, vs = .ref a :: ws ∧ ws.length = fs.length ∧ H a = some (exo a C none) ∧
  ∀ d H', H' a = some (exo a C (some d)) → H' d = some (exd d (fs.zip ws).reverse) → H d = none → d ≠ a → (∀ b, b ≠ a → b ≠ d → H' b = H b) → Q .non H'
theorem ini_run {P : Program} {w : World} {K : PySem.W.Frag} {mg : PySem.Str → Option Value} {base : Heap} {CX : CXT} {C fI : Addr} {G : NF} {ps N fs : List PySem.Str} {r1 : Stmt} {rows : List Stmt} (T : XIn P K mg C fI G ps N) (hb : G.body = r1 :: rows) (hs : supRow r1 = true)
    {x0 : PySem.Str} {ps' : List PySem.Str} (hps : ps = x0 :: ps') (hr : stoRows x0 ps' fs rows = true) (hno : ∀ f ∈ fs, PySem.W.findIn K (.ref C) f = some none) (hne : fs ≠ []) (hl : ps.length = fs.length + 1) (hz : fs.length ≤ 900) : FnR P w K mg base CX 2 fI (spIni C fs) := by
  intro A outer s H us vs Q E hroom e0 r ⟨a, ws, ev, hws, ea, K1⟩
  subst ev
  have S := T.scope
  obtain ⟨oc, od, osl, dV, kV, doc, pm, an, ct, lk, hbind⟩ := T.fn
  have KX : K.In s.heap := e0.mod.kin.keeps fun b o e => (e0.bs b o e).1
  have lim : s.heap.NoLimit := e0.mod.nolimit.keeps fun b o e => (e0.bs b o e).1
  have hul : us.length = ps.length := by rw [← r.length, hl]; simp [hws]
  refine codeAny_call_function hroom.depth (KX _ _ lk) rfl S.co S.gen rfl (PySem.W.codeRec_of KX T.code) ?_
  rw [hbind us hul]
  refine wpAny_pure (wpAny_newFunctionEnv S.nocell (fun ⟨n, _⟩ hy => S.par n (List.of_mem_zip hy).1) (fun h₁ hns hsb => ⟨lim.fresh _ hsb, ?_⟩) S.kind)
  show codeAny _ _ (.func G.body (envF G fI s.heap.objs.size)) _ _
  have kp : ∀ b o, s.heap.get? b = some o → h₁.get? b = some o := fun b o e => hsb.extBut b o (Nat.ne_of_lt (Heap.lt_size e)) (Heap.get?_push_of_some _ e)
  have hvl : (V.ref a :: ws).length = ps.length := by rw [hl]; simp [hws]
  have I : Inv (ncx CX P w K mg base N G fI A outer s H E) [] (startF N (V.ref a :: ws) [none]) H { s with heap := h₁, toks := s.toks + (ps.zip us).length } := inv_startN S hroom.hd e0 hvl r (cellsAt_of T e0) hns kp
  refine PySem.ks_codeAny_funcAt ?_
  rw [hb]
  have at_ : ∀ j v, (V.ref a :: ws)[j]? = some v → (startF N (V.ref a :: ws) [none])[j]? = some (some v) := fun j v e => by
    unfold startF
    have hj : j < (V.ref a :: ws).length := (List.getElem?_eq_some_iff.mp e).1
    rw [List.getElem?_append_left (by simpa using hj), List.getElem?_map, e]
    rfl
  refine PySem.ks_wpAt_execs_cons ?_
  obtain ⟨p0, p1, p2, txt, j, p3, p4, p5, rfl, hline⟩ := supRow_inv hs
  refine sup_row T I (at_ 0 _ rfl) ea hline fun s' I' => ?_
  show _root_.PySem.wpAt _ _ _ (execs rows _) _ _ _
  refine wpAt_of_wpAny ?_
  have htk : ∀ j p, ps[j]? = some p → N[j]? = some p := fun j p e => by
    have hj : j < ps.length := (List.getElem?_eq_some_iff.mp e).1
    have q : (N.take (ps.length + 1))[j]? = some p := by
      rw [show ps.length + 1 = ps.length + (["__class__"] : List PySem.Str).length from rfl, S.pre, List.getElem?_append_left hj]
      exact e
    rw [List.getElem?_take_of_lt (by omega)] at q
    exact q
  have st := sto_rows (X := ncx CX P w K mg base N G fI A outer s H E) (C := C) (a := a) (x0 := x0) T.oex (htk 0 x0 (by rw [hps]; rfl)) (S.par x0 (by rw [hps]; exact List.mem_cons_self ..)) (σ := startF N (V.ref a :: ws) [none]) (H0 := H) (D := { nx := fun _ H' => Q .non H', rt := Q }) (at_ 0 _ rfl) ps' fs rows 1 ws [] H hr
    (fun j p e => by rw [Nat.add_comm]; exact htk (j + 1) p (by rw [hps]; exact e)) (fun p hp => S.par p (by rw [hps]; exact List.mem_cons_of_mem _ hp)) hno hws
    (fun j v e => by rw [Nat.add_comm]; exact at_ (j + 1) v e) (by simpa using hz) (.inl ⟨rfl, ea, rfl⟩) fun H' h' => by
      rcases h' with ⟨e1, _⟩ | ⟨_, d, e2, e3, e4, e5, e6⟩
      · exfalso
        have q1 := congrArg List.length e1
        rw [List.length_append, List.length_reverse, List.length_zip, hws, Nat.min_self] at q1
        have q2 : fs.length ≠ 0 := fun z => hne (List.length_eq_zero_iff.mp z)
        simp only [List.length_nil] at q1
        omega
      · rw [List.append_nil] at e3
        exact K1 d H' e2 e3 e4 e5 e6
  refine wpAny_mono (Ws_ps.run [] s' _ H _ I' st) (fun fl s2 hs => ?_) fun e s' hs => hs
  have fin : ∀ {σ' : L2.St} {H' : Hp} {v : V} {u : Value}, Inv (ncx CX P w K mg base N G fI A outer s H E) [] σ' H' s2 → L2.RelV v u → Q v H' → CE outer P w H s Q u s2 :=
    fun {σ' H' v u} J rv q => ⟨v, H', J.os, J.bare, J.base, J.hok, rv, q⟩
  cases fl with
  | ret u =>
    obtain ⟨v, σ', H', J, rv, q⟩ := hs
    exact fin J rv q
  | next =>
    obtain ⟨σ', H', J, q⟩ := hs
    exact fin (v := V.non) (u := Value.none) J rfl q
  | brk =>
    obtain ⟨_, _, _, q⟩ := hs
    exact False.elim q
  | cont =>
    obtain ⟨_, _, _, q⟩ := hs
    exact False.elim q
end Gal
set_option Elab.async false
set_option linter.all false
set_option maxRecDepth 100000
set_option maxHeartbeats 2000000
/-! X3: the class called. -/
namespace Gal
open PySem L2 PyProof.Rows PySem.Spec NdefX
theorem mk_ini {X : Cx} {C fI : Addr} {G : NF} {ps N fs : List PySem.Str} {k : Nat} (T : XIn X.prog X.K X.mg C fI G ps N) (F1 : FnR X.prog X.w X.K X.mg X.base (L2.CX X.prog X.w) k fI (spIni C fs)) (hr : Room (k + 1) X.A) (hz : fs.length ≤ 900) : MkSt X (.ref C) (rExc C fs) := by
  intro pins s1 σ H1 vs us Q I1 r1 ⟨hl, q1⟩
  obtain ⟨nm, q, N', bs, bm, sn, sub, ab, col, dd, k0, k1, k2, k3, k5, hC, hbm⟩ := T.oex.cls
  obtain ⟨hp, g, dr, tk, os⟩ := s1
  have hsz : hp.objs.size ≤ hp.objs.size + 1 := Nat.le_succ _
  have hn : H1 (hp.objs.size + 1) = none := I1.hok.fresh hsz
  have kk : ∀ b o, hp.get? b = some o → ((hp.push (PySem.W.kdv_tup us)).push (PySem.HandSPX.excO C hp.objs.size)).get? b = some o := fun b o e => Heap.get?_push_of_some _ (Heap.get?_push_of_some _ e)
  have hget : ((hp.push (PySem.W.kdv_tup us)).push (PySem.HandSPX.excO C hp.objs.size)).get? (hp.objs.size + 1) = some (PySem.HandSPX.excO C hp.objs.size) := by heap_get
  have I2 : Inv X pins σ (upd H1 (hp.objs.size + 1) (exo (hp.objs.size + 1) C none)) ⟨(hp.push (PySem.W.kdv_tup us)).push (PySem.HandSPX.excO C hp.objs.size), g, dr, tk, os⟩ :=
    I1.laid (t' := tk) (a := hp.objs.size + 1) (o := exo (hp.objs.size + 1) C none) (h' := (hp.push (PySem.W.kdv_tup us)).push (PySem.HandSPX.excO C hp.objs.size)) kk hsz (exo_ok hget)
  have r2 : Vals (V.ref (hp.objs.size + 1) :: vs) (Value.ref (hp.objs.size + 1) :: us) := .cons rfl r1
  have hus : us.length ≤ sizeLine := by
    rw [← r1.length, sizeLine_eq]
    omega
  have hq : spIni C fs (V.ref (hp.objs.size + 1) :: vs) (upd H1 (hp.objs.size + 1) (exo (hp.objs.size + 1) C none)) (fun v H2 => v = .non ∧ ∃ (d : Addr), H2 (hp.objs.size + 1) = some (exo (hp.objs.size + 1) C (some d)) ∧ H2 d = some (exd d (fs.zip vs).reverse) ∧ H1 d = none ∧
      Q (.ref C) (some d) (upd (del H2 (hp.objs.size + 1)) d (.xd (fs.zip vs).reverse))) (fun _ _ _ => False) := by
    refine ⟨_, vs, rfl, hl, upd_same, fun d H' e1 e2 e3 e4 e5 => ⟨rfl, d, e1, e2, ?_, ?_⟩⟩
    · rw [upd_ne e4] at e3; exact e3
    · have hd : H1 d = none := by rw [upd_ne e4] at e3; exact e3
      have := q1 d hd
      have eq : upd (del H' (hp.objs.size + 1)) d (.xd (fs.zip vs).reverse) = upd H1 d (.xd (fs.zip vs).reverse) := by
        funext b
        by_cases hb : b = d
        · rw [hb, upd_same, upd_same]
        · rw [upd_ne hb, upd_ne hb]
          by_cases hb2 : b = hp.objs.size + 1
          · rw [hb2, del_same, hn]
          · rw [del_ne hb2, e5 b hb2 hb, upd_ne hb2]
      rw [eq]
      exact this
  refine wpAny_call (PySem.HandSPX.call_own F.excBase_ValueError (fun Y => PySem.HandSPX.refsVE_contains Y bm hbm) (I1.kIn _ _ hC) (PySem.W.looks_findIn I1.kIn T.iC) (fun self => PySem.W.bind_fn I1.kIn self T.tI) hus
    (codeAny_mono (F1 _ X.stack _ _ (Value.ref (hp.objs.size + 1) :: us) _ _ (fun _ _ _ => False) (hr.make C us []) (I2.env0.make C us []) r2 hq) fun r s' hq' => ?_))
  cases r with
  | error er =>
    obtain ⟨_, _, _, _, _, _, _, _, _, _, _, _, z⟩ := hq'
    exact z.elim
  | ok fl =>
    cases fl with
    | ret u =>
      obtain ⟨v, H2, os2, bare2, un2, hok2, rv, ev, d, ea, ed, hd1, q2⟩ := hq'
      subst ev
      obtain ⟨h2, g2, d2, t2, os'⟩ := s'
      exact ⟨rv, mk_end (raises_own T.oex.exC T.oex.tyC) I1 hsz kk un2 hok2 os2 bare2 ea ed hd1 q2⟩
    | next => exact False.elim hq'
    | brk => exact False.elim hq'
    | cont => exact False.elim hq'
end Gal
set_option Elab.async false
set_option linter.all false
set_option maxRecDepth 100000
/-! Y0: own operators of instances, from the defs' runs. -/
namespace Gal
open PySem L2 PyProof.Rows PySem.Spec
section
open PySem.W
variable {prog : Program} {w : World} {A : Around} {E : Value → Shared → Prop} {s : Shared} {K : Frag} {x C L f : Addr} {h₀ : Heap} {m : PySem.Str → Option Value} {ox : Obj} {od : Option Obj} {name : PySem.Str} {b tb : Value}
/-- a slot of object's, bound to an instance -/
theorem ifBound_S {B id : String} {args : List Value} {Q : Option Value → Shared → Prop} {M : Model} {n2 : PySem.Str} (X : K.In s.heap) (I : InstAt s.heap x ox C od) (hs : findIn K (.ref C) name = some (some (.builtin id))) (S : Slot B n2 id)
    (h : wpAny M A (call (.builtin id) (.ref x :: args)) (fun v => Q (some v)) E s) : wpAny M A (callSpecialIfBound? (.ref x) name args) Q E s := by
  simp only [callSpecialIfBound?, bindSpecialIfBound?]
  refine wpAny_holding (wpAny_bind (wpAny_bind (wpAny_bind (I.type.here ((looks_findIn X hs).here ?_)))))
  simp only [S.bind]
  refine wpAny_bind (wpAny_askSetting (wpAny_ite ?_))
  have fin : wpAny M A (call (.builtin id) ([.ref x] ++ args) >>= fun v => pure (some v)) Q E s := wpAny_bind (wpAny_mono h (fun v s' h' => wpAny_pure h') fun _ _ h' => h')
  split
  · exact wpAny_pure (by exact fin)
  · exact wpAny_tryCatch (wpAny_pure (by exact fin))
/-- a != b by the own == -/
theorem ne_K {Q : Value → Shared → Prop} (hu : A.units + 1 < cLine) (F : Fr h₀ L s.heap m) (X₀ : K.In h₀) (I : InstAt s.heap x ox C od) (hb : Looks (model prog w) s.heap (typeOf b) tb) (hn : notFirst K C tb = true)
    (hne : findIn K (.ref C) "__ne__" = some (some (.builtin "object.__ne__"))) (hs : findIn K (.ref C) "__eq__" = some (some (.ref f))) (hf : isFn K (.ref f) = true) (hm : mroIn K C (.type "object") = some true)
    (h : wpAny (model prog w) A.in1 (call (.ref f) [.ref x, b]) (fun v s' => ∃ k, v = .bool k ∧ Q (.bool (!k)) s') E s) : wpAny (model prog w) A (richCompare .NotEq (.ref x) b) Q E s := by
  have X := X₀.keeps F.keep
  have FB := PySem.F.cmp_object
  have one : wpAny (model prog w) A (tryCompare (.ref x) (cmpInfo .NotEq).2.1 b) (fun r s' => ∃ v, r = some v ∧ Q v s') E s := by
    unfold tryCompare
    have io : Looks (model prog w) s.heap (isInstance (.ref x) (.type "object")) true := I.type.andThen (looks_mroIn X hm)
    refine wpAny_bind (ifBound_S X I hne FB.ne (wpAny_call (codeAny_call_builtin FB.ne.plain PySem.F.cmpEntry_ne (check_slot PySem.F.cmpKind_ne PySem.F.cmpSplit_ne io (PySem.F.cmpArgs_ne _ _) ?_))))
    unfold Builtin.«object.__ne__»
    refine wpAny_bind (wpAny_of_eq (a := ((Value.ref x : Value), [b])) (by simp only [slotArgs]; rfl) ?_)
    refine wpAny_bind (wpAny_cRoomFor (show A.in1.units < cLine from hu) ?_)
    refine wpAny_bind (ifBound_K X I hs hf (wpAny_mono h (fun v s' hv => ?_) fun _ _ e => e))
    obtain ⟨k, rfl, hq⟩ := hv
    refine wpAny_bind (wpAny_truthy_bool ?_)
    exact wpAny_pure (wpAny_pure ⟨_, rfl, hq⟩)
  unfold richCompare
  simp only [oneThing_ref]
  refine wpAny_holding (wpAny_bind (wpAny_cRoomFor (by omega) ?_))
  refine wpAny_bind (I.type.here (wpAny_bind (hb.here ?_)))
  split
  · rename_i q
    have e : subIn K tb (.ref C) = some false := by
      rcases Bool.or_eq_true_iff.mp hn with e | e
      · rw [beq_iff_eq.mp e] at q; simp at q
      · exact beq_iff_eq.mp e
    refine wpAny_bind ((looks_subIn X e).here ?_)
    simp only [Bool.false_eq_true, if_false]
    refine wpAny_bind (wpAny_mono one (fun r s' z => ?_) fun _ _ e => e)
    obtain ⟨v, rfl, hq⟩ := z
    exact wpAny_pure hq
  · refine wpAny_bind (wpAny_pure ?_)
    simp only [Bool.false_eq_true, if_false]
    refine wpAny_bind (wpAny_mono one (fun r s' z => ?_) fun _ _ e => e)
    obtain ⟨v, rfl, hq⟩ := z
    exact wpAny_pure hq
end
end Gal
set_option Elab.async false
set_option linter.all false
set_option maxRecDepth 100000
/-! Y1: own operators of the pure run. -/
namespace Gal
open PySem L2 PyProof.Rows PySem.Spec
/-- what the text must say of classes with own operators -/
structure OwnF (S : Stc) : Prop where
  dun : ∀ c m f nm, (S.P.cl c).meths.lookup m = some f → dunS m = some nm → PySem.W.findIn S.K (.ref (S.ca c)) nm = some (some (.ref (S.fa f))) ∧ PySem.W.isFn S.K (.ref (S.fa f)) = true ∧ PySem.W.fnIn S.K (S.fa f) = true ∧ (S.P.cl c).own = true ∧ S.ko f = false
  sf : ∀ c, (S.P.cl c).own = true → PySem.W.selfFirst S.K (S.ca c) = true
  tyo : ∀ c, (S.P.cl c).own = true → Cls S.K (S.ca c) ∧ PySem.W.findIn S.K (.ref (S.ca c)) "__class__" = some (some (.builtin "object.__class__")) ∧ PySem.W.mroIn S.K (S.ca c) (.type "object") = some true
  tyc : PySem.W.specialIn S.K (.builtin "object.__class__") "__get__" = some (some (.builtin "getset_descriptor.__get__")) ∧ PySem.W.takesIn S.K (.builtin "object.__class__") = some true
  ne : ∀ c f, (S.P.cl c).meths.lookup 1006 = some f → PySem.W.findIn S.K (.ref (S.ca c)) "__ne__" = some (some (.builtin "object.__ne__"))
  nfT : ∀ c T, (S.P.cl c).own = true → T ∈ ["NoneType", "bool", "int", "str", "list", "tuple", "dict"] → PySem.W.notFirst S.K (S.ca c) (.type T) = true
  nfC : ∀ c c', (S.P.cl c).own = true → (S.P.cl c').own = true → PySem.W.notFirst S.K (S.ca c) (.ref (S.ca c')) = true
  noIx : ∀ c f, (S.P.cl c).meths.lookup 1008 = some f → PySem.W.noSeq S.K (S.ca c) = true
section
variable {Γ : Ct} {F : Callee} {k : Nat} {X : Cx}
theorem fn_runA (hko : Γ.S.ko f = false) (FR : FnR Γ.S.pg Γ.S.w Γ.S.K Γ.S.mg Γ.S.base (L2.CX Γ.S.pg Γ.S.w) k (Γ.S.fa f) (spD Γ.S F f)) (hX : Cxt Γ X) {A : Around} (hr : Room k A) (hfr : A.frames = some X.stack) {pins : List (Addr × Obj)} {s : Shared} {σ : L2.St} {H : Hp} {vs : List V} {us : List Value} {Q : VK}
    (I : Inv X pins σ H s) (r : Vals vs us) (h : spR Γ.S F f vs H Q (WE Γ.W σ)) : wpAny (model X.prog X.w) A (call (.ref (Γ.S.fa f)) us) (EP X pins σ Q) X.xe s := by
  rw [← hX.pg, ← hX.w, ← hX.K, ← hX.mg, ← hX.base] at FR
  have hx := passAt hX.takes σ
  have e0 : Env0 X.prog X.w X.K X.mg X.base A X.stack s H := by
    have e := I.env0
    exact ⟨hfr, e.mod, e.bs, e.bsz, e.funs, e.frf, e.hok, e.bare⟩
  refine wpAny_call (codeAny_mono (FR A X.stack s H us vs Q (WE Γ.W σ) hr e0 r ⟨(Γ.S.dd f).length, (by unfold Stc.jm; rw [hko]; exact Nat.le_refl _), by rw [List.drop_length, List.map_nil, List.append_nil]; exact h⟩) fun r s' hq => ?_)
  cases r with
  | error e => exact hx pins H s e s' I hq
  | ok fl =>
    cases fl with
    | ret u => exact I.after hq
    | next => exact False.elim hq
    | brk => exact False.elim hq
    | cont => exact False.elim hq
theorem back_of {pins : List (Addr × Obj)} {σ : L2.St} {Q : VK} {v : Value} {s' : Shared} (h : EP X pins σ Q v s') : PySem.W.CmpBack (EP X pins σ Q) v s' := by
  obtain ⟨y, H1, I1, r, q⟩ := h
  cases v with
  | notImplemented => cases y <;> first | (obtain ⟨_, r⟩ := r; cases r; done) | (cases r; done)
  | _ => exact ⟨y, H1, I1, r, q⟩
/-- the first operand: an instance -/
theorem inst_of {pins : List (Addr × Obj)} {s : Shared} {σ : L2.St} {B H : Hp} {c : Nat} {fs : List (Nat × D)} {x : V} {v : Value} (I : Inv X pins σ H s) (ext : Ex B H) (r : DR Γ.S B H x (.obj c fs)) (rx : RelV x v) :
    ∃ p ox od, x = .ref p ∧ v = .ref p ∧ PySem.W.InstAt s.heap p ox (Γ.S.ca c) (some od) := by
  obtain ⟨p, dx, gs, rfl, hp, _⟩ := r.obj ext
  obtain rfl : v = Value.ref p := rx
  obtain ⟨mA, O, _⟩ := ins_get I.hok hp
  obtain ⟨od, J, _⟩ := O.look
  exact ⟨p, _, od, rfl, rfl, J⟩
/-- the other operand's type -/
theorem type_of (OF : OwnF Γ.S) (hX : Cxt Γ X) {pins : List (Addr × Obj)} {s : Shared} {σ : L2.St} {B H : Hp} {d : D} {c : Nat} {y : V} {u : Value} (hc : (Γ.S.P.cl c).own = true) (I : Inv X pins σ H s) (ext : Ex B H) (r : DR Γ.S B H y d) (ty : tyD Γ.S.P d = true) (ry : RelV y u) :
    ∃ t, PySem.W.Looks (model X.prog X.w) s.heap (typeOf u) t ∧ PySem.W.notFirst Γ.S.K (Γ.S.ca c) t = true := by
  have fin : ∀ t, TyX X.K H y t → PySem.W.notFirst Γ.S.K (Γ.S.ca c) t = true → ∃ t, PySem.W.Looks (model X.prog X.w) s.heap (typeOf u) t ∧ PySem.W.notFirst Γ.S.K (Γ.S.ca c) t = true := fun t tx n => by
    obtain ⟨P, kx, hp, _⟩ := kit_of I ry tx
    exact ⟨t, kx.ty _ _ I.kIn hp, n⟩
  cases d with
  | non => exact fin _ (by rw [r.non]; exact .base .non) (OF.nfT c _ hc (by simp))
  | bl x => exact fin _ (by rw [r.bl]; exact .base (.bl x)) (OF.nfT c _ hc (by simp))
  | int x => exact fin _ (by rw [r.int]; exact .base (.int x)) (OF.nfT c _ hc (by simp))
  | str x => exact fin _ (by rw [r.str.1]; exact .base (.str _)) (OF.nfT c _ hc (by simp))
  | lst x => obtain ⟨p, vs, rfl, hp, _⟩ := r.lst ext; exact fin _ (.base (.lst hp)) (OF.nfT c _ hc (by simp))
  | tup x => obtain ⟨p, vs, rfl, _, hp, _⟩ := r.tup ext; exact fin _ (.base (.tup hp)) (OF.nfT c _ hc (by simp))
  | dic x => obtain ⟨p, vs, rfl, hp, _⟩ := r.dic ext; exact fin _ (.base (.dK hp)) (OF.nfT c _ hc (by simp))
  | obj c' fs =>
    obtain ⟨p, dx, gs, rfl, hp, _⟩ := r.obj ext
    have ow : (Γ.S.P.cl c').own = true := ty
    obtain ⟨t1, t2, t3⟩ := OF.tyo c' ow
    exact fin _ (.base (.ins hp (by rw [hX.K]; exact t1) (by rw [hX.K]; exact t2) (by rw [hX.K]; exact OF.tyc.1) (by rw [hX.K]; exact OF.tyc.2) (by rw [hX.K]; exact t3))) (OF.nfC c c' hc ow)
  | cls _ => cases ty
  | scr _ => cases ty
theorem drs_one {S : Stc} {B H : Hp} {y : V} {ds : List D} (h : DRs S B H [y] ds) : ∃ d, ds = [d] ∧ DR S B H y d := by
  cases h with
  | cons a t => cases t; exact ⟨_, rfl, a⟩
variable (R : Γ.hot = false → ∀ f, FnR Γ.S.pg Γ.S.w Γ.S.K Γ.S.mg Γ.S.base (L2.CX Γ.S.pg Γ.S.w) k (Γ.S.fa f) (spD Γ.S F f))
include R
theorem dun_eq (OF : OwnF Γ.S) (hk : k + 2 ≤ Γ.k) (hh : Γ.hot = false) (hX : Cxt Γ X) : OpSt X (compareOp .Eq) fun σ x y H Q => rDun Γ F 1006 σ [x, y] H Q := by
  intro pins s σ H x y v u Q I rx ry ⟨B, v0, vs', c, fs, f, ev, ext, dr, hm, ⟨ds, drs, ok⟩, sp⟩
  cases ev
  obtain ⟨d, rfl, dy⟩ := drs_one drs
  obtain ⟨o1, o2, o3, ow, hko⟩ := OF.dun c 1006 f _ hm rfl
  obtain ⟨p, ox, od, rfl, rfl, J⟩ := inst_of I ext dr rx
  have ty : tyD Γ.S.P d = true := by
    have ok : [d].all (tyD Γ.S.P) = true := ok
    simpa using ok
  obtain ⟨t, hL, hn⟩ := type_of OF hX ow I ext dy ty ry
  have rm := (hX.calm hh).2
  obtain ⟨m, hF⟩ := I.fr
  rw [← hX.K] at o1 o2 hn
  exact PySem.W.cmp_K (op := .Eq) (by have := hX.units; omega) hF I.ok.mod.kin J hL hn o1 o2 (wpAny_mono (fn_runA hko (R hh f) hX (rm.mono (by omega)) I.ok.frames (vs := [.ref p, y]) I (.cons rfl (.cons ry .nil)) sp) (fun v s' hv => back_of hv) fun _ _ z => z)
theorem dun_ne (OF : OwnF Γ.S) (hk : k + 2 ≤ Γ.k) (hh : Γ.hot = false) (hX : Cxt Γ X) : OpSt X (compareOp .NotEq) fun σ x y H Q => rDun Γ F 1006 σ [x, y] H (postQ .ne Q) := by
  intro pins s σ H x y v u Q I rx ry ⟨B, v0, vs', c, fs, f, ev, ext, dr, hm, ⟨ds, drs, ok⟩, sp⟩
  cases ev
  obtain ⟨d, rfl, dy⟩ := drs_one drs
  obtain ⟨o1, o2, o3, ow, hko⟩ := OF.dun c 1006 f _ hm rfl
  obtain ⟨p, ox, od, rfl, rfl, J⟩ := inst_of I ext dr rx
  have ty : tyD Γ.S.P d = true := by
    have ok : [d].all (tyD Γ.S.P) = true := ok
    simpa using ok
  obtain ⟨t, hL, hn⟩ := type_of OF hX ow I ext dy ty ry
  have rm := (hX.calm hh).2
  obtain ⟨m, hF⟩ := I.fr
  have one := OF.ne c f hm
  have mo := (OF.tyo c ow).2.2
  rw [← hX.K] at o1 o2 hn one mo
  have hu := hX.units
  exact ne_K (by omega) hF I.ok.mod.kin J hL hn one o1 o2 mo (wpAny_mono (fn_runA hko (R hh f) hX ((rm.mono (by omega) : Room (k + 1) X.A).in1) I.ok.frames (vs := [.ref p, y]) I (.cons rfl (.cons ry .nil)) sp) (fun v s' hv => by
    obtain ⟨y', H1, I1, r, b, e, q⟩ := hv
    subst e
    obtain rfl : v = Value.bool b := r
    exact ⟨b, rfl, .bl (!b), H1, I1, rfl, q⟩) fun _ _ z => z)
theorem dun_bin {op : Operator} {mm : Nat} (OF : OwnF Γ.S) (hk : k + 2 ≤ Γ.k) (hh : Γ.hot = false) (hX : Cxt Γ X) (hm5 : mm ≤ 1005) (hd : dunS mm = some (PySem.dunder op.info.2)) : OpSt X (binaryOp op) fun σ x y H Q => rDun Γ F mm σ [x, y] H Q := by
  intro pins s σ H x y v u Q I rx ry ⟨B, v0, vs', c, fs, f, ev, ext, dr, hm, ⟨ds, drs, ok⟩, sp⟩
  cases ev
  obtain ⟨d, rfl, dy⟩ := drs_one drs
  obtain ⟨o1, o2, o3, ow, hko⟩ := OF.dun c mm f _ hm hd
  obtain ⟨p, ox, od, rfl, rfl, J⟩ := inst_of I ext dr rx
  unfold okArg at ok
  rw [if_pos hm5] at ok
  obtain ⟨fs', rfl⟩ : ∃ fs', d = .obj c fs' := by
    cases d with
    | obj c' fs' =>
      have e : (c' == c) = true := ok
      have e := beq_iff_eq.mp e
      subst e
      exact ⟨fs', rfl⟩
    | _ => cases ok
  obtain ⟨p2, ox2, od2, rfl, rfl, J2⟩ := inst_of I ext dy ry
  have rm := (hX.calm hh).2
  obtain ⟨m, hF⟩ := I.fr
  have hs := OF.sf c ow
  rw [← hX.K] at o1 o2 hs
  exact PySem.W.binop_K hF I.ok.mod.kin J J2.type hs o1 o2 (wpAny_mono (fn_runA hko (R hh f) hX (rm.mono (by omega)) I.ok.frames (vs := [.ref p, .ref p2]) I (.cons rfl (.cons ry .nil)) sp) (fun v s' hv => back_of hv) fun _ _ z => z)
theorem dun_inv (OF : OwnF Γ.S) (hk : k + 2 ≤ Γ.k) (hh : Γ.hot = false) (hX : Cxt Γ X) : UnSt X (unaryOp .Invert) fun σ x H Q => rDun Γ F 1007 σ [x] H Q := by
  intro pins s σ H x v Q I rx ⟨B, v0, vs', c, fs, f, ev, ext, dr, hm, _, sp⟩
  cases ev
  obtain ⟨o1, o2, o3, ow, hko⟩ := OF.dun c 1007 f _ hm rfl
  obtain ⟨p, ox, od, rfl, rfl, J⟩ := inst_of I ext dr rx
  have rm := (hX.calm hh).2
  obtain ⟨m, hF⟩ := I.fr
  rw [← hX.K] at o1 o2
  exact PySem.W.ksp_inv hF I.ok.mod.kin J o1 o2 (fn_runA hko (R hh f) hX (rm.mono (by omega)) I.ok.frames (vs := [.ref p]) I (.cons rfl .nil) sp)
theorem dun_len (OF : OwnF Γ.S) (hk : k + 2 ≤ Γ.k) (hh : Γ.hot = false) (hX : Cxt Γ X) : CallSt X (.builtin "len") fun σ vs H Q => rDun Γ F 1009 σ vs H (postQ .len Q) := by
  intro pins s σ H xs us Q I r ⟨B, v0, vs', c, fs, f, ev, ext, dr, hm, ⟨ds, drs, ok⟩, sp⟩
  subst ev
  have e0 : ds = [] := by
    have ok : ds.isEmpty = true := ok
    simpa using ok
  subst e0
  cases drs
  obtain ⟨o1, o2, o3, ow, hko⟩ := OF.dun c 1009 f _ hm rfl
  cases r with
  | cons rx rr =>
    cases rr
    obtain ⟨p, ox, od, rfl, rfl, J⟩ := inst_of I ext dr rx
    have rm := (hX.calm hh).2
    obtain ⟨m, hF⟩ := I.fr
    rw [← hX.K] at o1 o2
    refine PySem.W.len_K hF I.ok.mod.kin J o1 o2 (wpAny_mono (fn_runA hko (R hh f) hX ((rm.mono (by omega) : Room (k + 1) X.A).in1) I.ok.frames (vs := [.ref p]) I (.cons rfl .nil) sp) (fun v s' hv => ?_) fun _ _ z => z)
    obtain ⟨y', H1, I1, r1, n, e, n0, n1, q⟩ := hv
    subst e
    obtain ⟨tk, rfl⟩ := r1
    exact ⟨⟨n0, by omega⟩, .int n, H1, I1.tok _, ⟨_, rfl⟩, q⟩
theorem dun_str (OF : OwnF Γ.S) (hk : k + 2 ≤ Γ.k) (hh : Γ.hot = false) (hX : Cxt Γ X) : CallSt X (.type "str") fun σ vs H Q => rDun Γ F 1010 σ vs H (postQ .str_ Q) := by
  intro pins s σ H xs us Q I r ⟨B, v0, vs', c, fs, f, ev, ext, dr, hm, ⟨ds, drs, ok⟩, sp⟩
  subst ev
  have e0 : ds = [] := by
    have ok : ds.isEmpty = true := ok
    simpa using ok
  subst e0
  cases drs
  obtain ⟨o1, o2, o3, ow, hko⟩ := OF.dun c 1010 f _ hm rfl
  cases r with
  | cons rx rr =>
    cases rr
    obtain ⟨p, ox, od, rfl, rfl, J⟩ := inst_of I ext dr rx
    have rm := (hX.calm hh).2
    have hu := hX.units
    rw [← hX.K] at o1 o2
    refine PySem.W.kso_call (by show X.A.units + 1 + 1 < cLine; omega) I.kIn J o1 o2 (wpAny_mono (fn_runA hko (R hh f) hX ((rm.mono (by omega) : Room (k + 1 + 1) X.A).in1.in1) I.ok.frames (vs := [.ref p]) I (.cons rfl .nil) sp) (fun v s' hv => ?_) fun _ _ z => z)
    obtain ⟨y', H1, I1, r1, z, e, _, q⟩ := hv
    subst e
    obtain ⟨tk, rfl⟩ := r1
    exact ⟨.str z, H1, I1, ⟨_, rfl⟩, q⟩
end
end Gal
set_option Elab.async false
set_option linter.all false
set_option maxRecDepth 100000
/-! Y2: all defs of a text, by their checked bodies. -/
namespace Gal
open PySem L2 PyProof.Rows PySem.Spec NdefX
/-- an exception class without an __init__ called without operands -/
theorem mk_exc0 {X : Cx} {C : Addr} (q : PySem.W.excIn X.K C [.type "ValueError", .type "Exception", .type "BaseException", .type "object"] "ValueError.__new__" = true) (r : Raises X (.ref C)) : MkSt X (.ref C) (rExc0 C) := by
  intro pins s σ H vs us Q I rv ⟨hv, hq⟩
  subst hv
  cases rv
  obtain ⟨bm, N, nm, qn, bs, hdct, sn, sub, ab, col, dd, k0, k1, k2, k3, k5, mN, hC, hN, hni, T⟩ := exc_obj I.kIn q
  refine wpAny_call_exc_subT PySem.F.excBase_ValueError T hC hN hni (fun h' e hm => ?_) (by show 0 ≤ sizeLine; omega)
  exact mk_of I hm r hq (I.hok.gone hm.new)
/-- what the text must say of the def f -/
def FnF (S : Stc) (f : Nat) (fn : Fn) : Prop :=
  ∃ (oc : Value) (od : Option Addr) (osl : Array (Option Value)) (name qual : PySem.Str) (params : Arguments) (body : List Stmt) (scope : Scope) (dV kV doc pm : Value) (an : Option Addr) (cdv ct : Value) (N ps : List PySem.Str),
    S.K.lookup (S.fa f) = some ⟨oc, od, .func (PySem.W.fnOf name qual params body scope dV kV doc pm an cdv ct), osl⟩ ∧ PySem.W.codeIn S.K cdv qual = true ∧ FnScope N ps scope ∧ N.length = fn.ns ∧ ps.length = fn.np ∧ fn.np ≤ fn.ns ∧
    (cks ⟨S.P, S.an, S.nA, S.gl, S.dd, S.kw, S.ko, N, scope, false⟩ fn.body).b body = true ∧
    (∀ j, j ≤ S.jm f → ∃ ds, Binds S.K (PySem.W.fnOf name qual params body scope dV kV doc pm an cdv ct) ps ds ∧ Vals (((S.dd f).drop j).map cV) ds) ∧
    (∀ n ks, (n, ks) ∈ S.kw f → ∀ (s : Shared) (us ws : List Value), S.K.In s.heap → us.length = n → ws.length = ks.length → BindsTo s (PySem.W.fnOf name qual params body scope dV kV doc pm an cdv ct) ⟨us, ks.zip ws⟩ (ps.zip (us ++ ws)))
/-- what the text must say of names and classes -/
structure FacS (S : Stc) : Prop where
  gls : ∀ x g, S.gl x = some g → match g with
    | .fn f => S.mg x = some (.ref (S.fa f)) ∧ PySem.W.keepIn S.K (.ref (S.fa f)) = true
    | .cls c => S.mg x = some (.ref (S.ca c)) ∧ PySem.W.keepIn S.K (.ref (S.ca c)) = true
    | .val i => ∃ v u, S.mg x = some u ∧ RelV v u ∧ ∀ d, S.P.gls[i]? = some d → ∀ B, Rep S B v d
  blt : ∀ x, (x ∈ bltIds ∨ x ∈ bltTys) → S.mg x = none
  dd : ∀ f, (S.dd f).all isC = true
  fld : ∀ c f, (S.P.cl c).free f = true → f < S.nA → Cls S.K (S.ca c) ∧ NoAttr S.K (S.ca c) (S.an f)
  con : ∀ c f d, (S.P.cl c).cons.lookup f = some d → Cls S.K (S.ca c) ∧ ∃ v u, Con S.K (S.ca c) (S.an f) v u ∧ ∀ B, Rep S B v d
  meth : ∀ c m f, (S.P.cl c).meths.lookup m = some f → m < S.nA → Cls S.K (S.ca c) ∧ Meth S.K (S.ca c) (S.an m) (S.fa f)
  mko : ∀ c m f, (S.P.cl c).meths.lookup m = some f → S.ko f = false
  mki : ∀ c f, (S.P.cl c).init = some f → Mk S.K (S.ca c) (S.fa f)
  isi : ∀ d t v b, dTy S d = some v → isiD S.P t d = some b → okTy S.P t = true → PySem.W.kitOne S.K v (tyVal S t) = some b
  xf : ∀ c fs, (S.P.cl c).exf = some fs → XcF S.K (S.ca c) ∧ ∀ f ∈ fs, f < S.nA ∧ PySem.W.findIn S.K (.ref (S.ca c)) (S.an f) = some none
  xm : ∀ c fs k, (S.P.cl c).exf = some fs → ((S.P.cl k).exf).isSome = true → PySem.W.exmOne S.K (.ref (S.ca c)) (.ref (S.ca k)) = some ((S.P.cl c).sup.contains k)
  xi : ∀ c fs, (S.P.cl c).exf = some fs → PySem.W.kitOne S.K (.ref (S.ca c)) (.type "ValueError") = some true ∧ ∀ k, ((S.P.cl k).exf).isSome = true → PySem.W.kitOne S.K (.ref (S.ca c)) (.ref (S.ca k)) = some ((S.P.cl c).sup.contains k)
  xr : ∀ c fs, (S.P.cl c).exf = some fs → PySem.W.subIn S.K (.ref (S.ca c)) (.type "BaseException") = some true ∧ PySem.W.typeIn S.K (.ref (S.ca c)) = some (.type "type")
  x0 : ∀ c, (S.P.cl c).exf = some [] → PySem.W.excIn S.K (S.ca c) [.type "ValueError", .type "Exception", .type "BaseException", .type "object"] "ValueError.__new__" = true
  x1 : ∀ c fs, (S.P.cl c).exf = some fs → fs ≠ [] → fs.length ≤ 900 ∧ ∃ (fI : Addr) (G : NF) (ps N : List PySem.Str) (r1 : Stmt) (rows : List Stmt) (x0 : PySem.Str) (ps' : List PySem.Str), XIn S.pg S.K S.mg (S.ca c) fI G ps N ∧ G.body = r1 :: rows ∧ supRow r1 = true ∧ ps = x0 :: ps' ∧ stoRows x0 ps' (fs.map S.an) rows = true ∧ ps.length = fs.length + 1
  cm : ∀ c m f, (S.P.cl c).cms.lookup m = some f → m < S.nA ∧ ∃ mc p, ClX.CRead S.K (S.ca c) mc ∧ ClX.CMet S.K (S.ca c) mc (S.an m) p (S.fa f)
  callo : ∀ c f, (S.P.cl c).meths.lookup 1011 = some f → StX.CallO S.K (S.ca c) (S.fa f)
  own : OwnF S
  noIx : ∀ c, (S.P.cl c).meths.lookup 1008 = none
/-- the promises of all defs, n calls deep -/
def Runs (S : Stc) (F : Callee) (k : Nat) : Prop :=
  (∀ f, FnR S.pg S.w S.K S.mg S.base (L2.CX S.pg S.w) k (S.fa f) (spD S F f)) ∧ ∀ f n ks, (n, ks) ∈ S.kw f → FnRK S.pg S.w S.K S.mg S.base (L2.CX S.pg S.w) k (S.fa f) n ks (spR S F f)
theorem fac_of {S : Stc} (T : FacS S) {F : Callee} {k : Nat} (hk : 1 ≤ k) (R : Runs S F k) (Γ : Ct) (hS : Γ.S = S) (hr : k + 2 ≤ Γ.k) : Fac Γ F k := by
  subst hS
  have hR := fun (_ : Γ.hot = false) => R.1
  refine
    { room := hr
      gls := T.gls
      blt := T.blt
      dd := T.dd
      fld := T.fld
      con := T.con
      meth := T.meth
      mko := T.mko
      mki := T.mki
      isi := T.isi
      tyo := T.own.tyo
      tyc := T.own.tyc
      run := hR
      runK := fun _ => R.2
      rz := fun hh c fs hx => ⟨fun f hf => ((T.xf c fs hx).2 f hf).1, fun X hX => ?_⟩
      xf := T.xf
      xm := T.xm
      xi := T.xi
      cm := fun _ => T.cm
      callo := fun _ => T.callo
      d_add := fun hh X hX => dun_bin hR T.own hr hh hX (by decide) rfl
      d_sub := fun hh X hX => dun_bin hR T.own hr hh hX (by decide) rfl
      d_mul := fun hh X hX => dun_bin hR T.own hr hh hX (by decide) rfl
      d_and := fun hh X hX => dun_bin hR T.own hr hh hX (by decide) rfl
      d_or := fun hh X hX => dun_bin hR T.own hr hh hX (by decide) rfl
      d_xor := fun hh X hX => dun_bin hR T.own hr hh hX (by decide) rfl
      d_eq := fun hh X hX => dun_eq hR T.own hr hh hX
      d_ne := fun hh X hX => dun_ne hR T.own hr hh hX
      d_inv := fun hh X hX => dun_inv hR T.own hr hh hX
      d_ix := fun hh X hX value slice pins s σ H x y v u Q I rx ry h hsl => ?_
      d_len := fun hh X hX => dun_len hR T.own hr hh hX
      d_str := fun hh X hX => dun_str hR T.own hr hh hX }
  · have rm := (hX.calm hh).2
    obtain ⟨r1, r2⟩ := T.xr c fs hx
    rw [← hX.K] at r1 r2
    unfold rExcS
    split
    · rename_i h0
      subst h0
      exact mk_exc0 (by rw [hX.K]; exact T.x0 c hx) (raises_own r1 r2)
    · rename_i h0
      obtain ⟨hl, fI, G, ps, N, q1, rows, x0, ps', xin, hb, hs, hps, hst, hpl⟩ := T.x1 c fs hx h0
      have xin' : XIn X.prog X.K X.mg (Γ.S.ca c) fI G ps N := by rw [hX.pg, hX.K, hX.mg]; exact xin
      have run := ini_run (P := X.prog) (w := X.w) (K := X.K) (mg := X.mg) (base := X.base) (CX := L2.CX X.prog X.w) (fs := fs.map Γ.S.an) xin' hb hs hps hst (fun f hf => by
        obtain ⟨g, hg, rfl⟩ := List.mem_map.mp hf
        rw [hX.K]
        exact ((T.xf c fs hx).2 g hg).2) (by simpa using h0) (by simpa using hpl) (by simpa using hl)
      exact mk_ini xin' run (rm.mono (by omega)) (by simpa using hl)
  · obtain ⟨B, v0, vs', c, fs, f, ev, ext, dr, hm, _⟩ := h
    rw [T.noIx c] at hm
    cases hm
theorem runs_ok {S : Stc} (T : FacS S) (hF : ∀ f fn, S.P.fns[f]? = some fn → FnF S f fn) (Wn : Nat) : ∀ n, Runs S (callF S.P Wn n) (3 * n + 1)
  | 0 => by
    refine ⟨fun f A outer s H us vs Q E _ _ _ h => ?_, fun f n ks _ A outer s H us ws vs zs Q E _ _ _ _ _ _ h => ?_⟩
    · obtain ⟨j, _, B, ss, r, _, z, _⟩ := h
      cases z
    · obtain ⟨B, ss, r, _, z, _⟩ := h
      cases z
  | n + 1 => by
    have ih := runs_ok T hF Wn n
    have ok : ∀ f fn, S.P.fns[f]? = some fn → ∃ fd ps, FnOk S.pg S.w S.K S.mg S.base (L2.CX S.pg S.w) (3 * (n + 1) + 1) (S.fa f) fd ps (spR S (callF S.P Wn (n + 1)) f) ∧ (∀ j, j ≤ S.jm f → ∃ ds, Binds S.K fd ps ds ∧ Vals (((S.dd f).drop j).map cV) ds) ∧
        (∀ n ks, (n, ks) ∈ S.kw f → ∀ (s : Shared) (us ws : List Value), S.K.In s.heap → us.length = n → ws.length = ks.length → BindsTo s fd ⟨us, ks.zip ws⟩ (ps.zip (us ++ ws))) := by
      intro f fn hf
      obtain ⟨oc, od, osl, name, qual, params, body, scope, dV, kV, doc, pm, an, cdv, ct, N, ps, lk, hcd, fs, h1, h2, h3, hck, hb, hkw⟩ := hF f fn hf
      refine ⟨_, ps, fn_ok (k := 3 * n + 3) hf lk hcd fs h1 h2 h3 (fun E => ?_), hb, hkw⟩
      exact (mainS (S := S) (F := callF S.P Wn n) (n := Wn) (k := 3 * n + 1) (kk := 3 * n + 3) (fun Γ hS hk => fac_of T (by omega) ih Γ hS (by omega)) fn.body (ctOf S N scope (3 * n + 3) fn.np E) rfl rfl rfl (fun _ => rfl)).b body hck
    have some_of : ∀ {f ss r}, callF S.P Wn (n + 1) f ss = some r → ∃ fn, S.P.fns[f]? = some fn := by
      intro f ss r h
      have h : (match S.P.fns[f]? with
        | some fn => if ss.length = fn.np then match evS S.P (callF S.P Wn n) fn.np Wn fn.body false (ss ++ List.replicate (fn.ns - fn.np) Sl.un) with
          | some (Out.rt o d e) => some (CR.rt o d (e.take fn.np))
          | some (Out.nx e) => some (CR.rt false .non (e.take fn.np))
          | some (Out.ex c fs e) => some (CR.ex c fs (e.take fn.np))
          | _ => none
        else none
        | none => none) = some r := h
      cases q : S.P.fns[f]? with
      | none => rw [q] at h; cases h
      | some fn => exact ⟨fn, rfl⟩
    refine ⟨fun f A outer s H us vs Q E hr e0 rv h => ?_, fun f m ks hm A outer s H us ws vs zs Q E hr e0 rv rz l1 l2 h => ?_⟩
    · obtain ⟨j, hj, h⟩ := h
      obtain ⟨B, ss, r, pa, hc, hq⟩ := id h
      obtain ⟨fn, hf⟩ := some_of hc
      obtain ⟨fd, ps, FO, hb, _⟩ := ok f fn hf
      obtain ⟨ds, b1, b2⟩ := hb j hj
      exact FO.raw b1 b2 A outer s H us vs Q E hr e0 rv h
    · obtain ⟨B, ss, r, pa, hc, hq⟩ := id h
      obtain ⟨fn, hf⟩ := some_of hc
      obtain ⟨fd, ps, FO, _, hkw⟩ := ok f fn hf
      exact FO.run A outer s H ⟨us, ks.zip ws⟩ (us ++ ws) (vs ++ zs) Q E hr e0 (hkw m ks hm s us ws (e0.mod.kin.keeps fun b o e => (e0.bs b o e).1) l1 l2) (rv.append rz) h
end Gal
set_option Elab.async false
set_option linter.all false
set_option maxRecDepth 100000
set_option maxHeartbeats 1000000
/-! Y3: a law's tables; what the head tells of them. -/
namespace Gal
open PySem L2 PyProof.Rows PySem.Spec NdefX
theorem Tb.anInj (T : Tb) (h : T.an.Nodup) : ∀ i j, i < T.an.length → j < T.an.length → T.anS i = T.anS j → i = j := by
  intro i j hi hj e
  unfold Tb.anS at e
  rw [List.getD_eq_getElem?_getD, List.getD_eq_getElem?_getD, List.getElem?_eq_getElem hi, List.getElem?_eq_getElem hj] at e
  exact (List.getElem_inj h).mp e
def Tb.S (T : Tb) (h : T.an.Nodup) (pg : Program) (w : World) (K : PySem.W.Frag) (mg : PySem.Str → Option Value) (base : Heap) : Stc where
  P := T.P
  pg := pg
  w := w
  K := K
  mg := mg
  base := base
  ca := T.ca K
  an := T.anS
  nA := T.an.length
  fa := T.fa K
  gl := fun x => T.gl.lookup x
  dd := fun f => T.dd.getD f []
  kw := fun f => T.kw.getD f []
  ko := fun f => T.ko.contains f
  inj := T.anInj h
/-! ### what is asked of the written part -/
section
variable (T : Tb) (K : PySem.W.Frag)
theorem rng_ok {n : Nat} {f : Nat → Bool} (h : rngo n f = true) {i : Nat} (hi : i < n) : f i = true := List.all_eq_true.mp h i (List.mem_range.mpr hi)
end
end Gal
set_option Elab.async false
set_option linter.all false
set_option maxRecDepth 100000
set_option maxHeartbeats 1000000
/-! Y4: what the head tells, as what the defs' runs lean on. -/
namespace Gal
open PySem L2 PyProof.Rows PySem.Spec NdefX
theorem eqV_ok {a b : Option (Option Value)} (h : eqVo a b = true) : a = b := of_decide_eq_true h
theorem b2 {a b : Bool} (h : (a && b) = true) : a = true ∧ b = true := Bool.and_eq_true_iff.mp h
theorem dec {p : Prop} [Decidable p] (h : decide p = true) : p := of_decide_eq_true h
section
variable {T : Tb} {K : PySem.W.Frag} {pg : Program} {w : World} {mg : PySem.Str → Option Value} {base h : Heap}
theorem clsB_ok {C : Addr} (h : clsBo K C = true) : Cls K C := by
  obtain ⟨h, h4⟩ := b2 h
  obtain ⟨h, h3⟩ := b2 h
  obtain ⟨h1, h2⟩ := b2 h
  exact ⟨h1, h2, h3, eqV_ok h4⟩
theorem cl_lt {P : Prog} {c : Nat} (h : P.cl c ≠ default) : c < P.cls.length := by
  by_cases q : c < P.cls.length
  · exact q
  · exfalso
    apply h
    unfold Prog.cl
    rw [List.getD_eq_getElem?_getD, List.getElem?_eq_none (by omega)]
    rfl
theorem cl_own {P : Prog} {c : Nat} (h : (P.cl c).own = true) : c < P.cls.length := cl_lt fun z => by rw [z] at h; cases h
theorem cl_exf {P : Prog} {c : Nat} {fs : List Nat} (h : (P.cl c).exf = some fs) : c < P.cls.length := cl_lt fun z => by rw [z] at h; cases h
theorem cl_meth {P : Prog} {c m f : Nat} (h : (P.cl c).meths.lookup m = some f) : c < P.cls.length := cl_lt fun z => by rw [z] at h; cases h
theorem cl_con {P : Prog} {c m : Nat} {d : D} (h : (P.cl c).cons.lookup m = some d) : c < P.cls.length := cl_lt fun z => by rw [z] at h; cases h
theorem cl_cm {P : Prog} {c m f : Nat} (h : (P.cl c).cms.lookup m = some f) : c < P.cls.length := cl_lt fun z => by rw [z] at h; cases h
theorem cl_init {P : Prog} {c f : Nat} (h : (P.cl c).init = some f) : c < P.cls.length := cl_lt fun z => by rw [z] at h; cases h
theorem lookup_mem {α β : Type} [BEq α] [LawfulBEq α] {l : List (α × β)} {a : α} {b : β} (h : l.lookup a = some b) : (a, b) ∈ l := by
  induction l with
  | nil => cases h
  | cons p l ih =>
    obtain ⟨x, y⟩ := p
    unfold List.lookup at h
    split at h
    · rename_i e
      cases h
      rw [beq_iff_eq.mp e]
      exact List.mem_cons_self ..
    · exact List.mem_cons_of_mem _ (ih h)
structure Per (T : Tb) (K : PySem.W.Frag) (c : Nat) : Prop where
  own : ownB T K c (T.P.cl c) = true
  con : conB T K c (T.P.cl c) = true
  met : metB T K c (T.P.cl c) = true
  ini : iniB T K c (T.P.cl c) = true
  cm : cmB T K c (T.P.cl c) = true
  exc : excB T K c (T.P.cl c) = true
theorem notOr {a b : Bool} (h : (!a || b) = true) (ha : a = true) : b = true := by
  rw [ha] at h; exact h
structure OwnX (T : Tb) (K : PySem.W.Frag) (c : Nat) : Prop where
  cls : Cls K (T.ca K c)
  sf : PySem.W.selfFirst K (T.ca K c) = true
  ca : PySem.W.findIn K (.ref (T.ca K c)) "__class__" = some (some (.builtin "object.__class__"))
  om : PySem.W.mroIn K (T.ca K c) (.type "object") = some true
  nT : ∀ t ∈ ["NoneType", "bool", "int", "str", "list", "tuple", "dict"], PySem.W.notFirst K (T.ca K c) (.type t) = true
  nC : ∀ c', (T.P.cl c').own = true → PySem.W.notFirst K (T.ca K c) (.ref (T.ca K c')) = true
  fr : ∀ f, (T.P.cl c).free f = true → f < T.an.length → NoAttr K (T.ca K c) (T.anS f)
theorem ownX {c : Nat} (p : Per T K c) (ho : (T.P.cl c).own = true) : OwnX T K c := by
  obtain ⟨h, h7⟩ := b2 (notOr p.own ho)
  obtain ⟨h, h6⟩ := b2 h
  obtain ⟨h, h5⟩ := b2 h
  obtain ⟨h, h4⟩ := b2 h
  obtain ⟨h, h3⟩ := b2 h
  obtain ⟨h1, h2⟩ := b2 h
  exact ⟨clsB_ok h1, h2, eqV_ok h3, dec h4, fun t ht => List.all_eq_true.mp h5 t ht, fun c' hc => notOr (rng_ok h6 (cl_own hc)) hc, fun f hf hl => eqV_ok (notOr (rng_ok h7 hl) hf)⟩
theorem cV_rep {S : Stc} {d : D} {B : Hp} (h : isC d = true) : Rep S B (cV d) d := isC_rep h
theorem metX {c m f : Nat} (p : Per T K c) (h : (T.P.cl c).meths.lookup m = some f) : (T.P.cl c).own = true ∧ PySem.W.findIn K (.ref (T.ca K c)) (match dunS m with
    | some nm => nm
    | none => if m = 1011 then "__call__" else T.anS m) = some (some (.ref (T.fa K f))) ∧ PySem.W.isFn K (.ref (T.fa K f)) = true ∧ PySem.W.keepIn K (.ref (T.fa K f)) = true ∧ PySem.W.fnIn K (T.fa K f) = true ∧
    (m = 1006 → PySem.W.findIn K (.ref (T.ca K c)) "__ne__" = some (some (.builtin "object.__ne__"))) ∧ (m = 1008 → PySem.W.noSeq K (T.ca K c) = true) ∧ T.ko.contains f = false := by
  have q := List.all_eq_true.mp p.met _ (lookup_mem h)
  obtain ⟨q, q8⟩ := b2 q
  obtain ⟨q, q7⟩ := b2 q
  obtain ⟨q, q6⟩ := b2 q
  obtain ⟨q, q5⟩ := b2 q
  obtain ⟨q, q4⟩ := b2 q
  obtain ⟨q, q3⟩ := b2 q
  obtain ⟨q1, q2⟩ := b2 q
  refine ⟨q1, eqV_ok q2, q3, q4, q5, fun e => ?_, fun e => ?_, Bool.not_eq_true' _ |>.mp q8⟩
  · subst e; exact eqV_ok q6
  · subst e; exact q7
structure ExcX (T : Tb) (K : PySem.W.Frag) (c : Nat) (fs : List Nat) : Prop where
  kp : PySem.W.keepIn K (.ref (T.ca K c)) = true
  sb : PySem.W.subIn K (.ref (T.ca K c)) (.type "BaseException") = some true
  ty : PySem.W.typeIn K (.ref (T.ca K c)) = some (.type "type")
  xc : XcF K (T.ca K c)
  fo : ∀ f ∈ fs, f < T.an.length ∧ PySem.W.findIn K (.ref (T.ca K c)) (T.anS f) = some none
  le : fs.length ≤ 900
  xm : ∀ k, ((T.P.cl k).exf).isSome = true → PySem.W.exmOne K (.ref (T.ca K c)) (.ref (T.ca K k)) = some ((T.P.cl c).sup.contains k) ∧ PySem.W.kitOne K (.ref (T.ca K c)) (.ref (T.ca K k)) = some ((T.P.cl c).sup.contains k)
  ve : PySem.W.kitOne K (.ref (T.ca K c)) (.type "ValueError") = some true
  x0 : fs = [] → PySem.W.excIn K (T.ca K c) bmVE "ValueError.__new__" = true
  x1 : fs ≠ [] → oexB K (T.ca K c) = true ∧ PySem.W.findIn K (.ref (T.ca K c)) "__setattr__" = some (some (.builtin "object.__setattr__")) ∧ PySem.W.mroIn K (T.ca K c) (.ref (T.ca K c)) = some true ∧ PySem.W.ks_superIn K (T.ca K c) (T.ca K c) "__init__" = some (some (.builtin "ValueError.__init__")) ∧
    PySem.W.subIn K (.ref (T.ca K c)) (.type "ValueError") = some true ∧ PySem.W.findIn K (.ref (T.ca K c)) "__init__" = some (some (.ref (He.ma K (T.ca K c) "__init__"))) ∧ PySem.W.typeIn K (.ref (He.ma K (T.ca K c) "__init__")) = some (.type "function")
theorem excX {c : Nat} {fs : List Nat} (p : Per T K c) (h : (T.P.cl c).exf = some fs) : ExcX T K c fs := by
  have q := p.exc
  unfold excB at q
  rw [h] at q
  obtain ⟨q, q14⟩ := b2 q
  obtain ⟨q, q13⟩ := b2 q
  obtain ⟨q, q12⟩ := b2 q
  obtain ⟨q, q11⟩ := b2 q
  obtain ⟨q, q10⟩ := b2 q
  obtain ⟨q, q9⟩ := b2 q
  obtain ⟨q, q8⟩ := b2 q
  obtain ⟨q, q7⟩ := b2 q
  obtain ⟨q, q6⟩ := b2 q
  obtain ⟨q, q5⟩ := b2 q
  obtain ⟨q, q4⟩ := b2 q
  obtain ⟨q, q3⟩ := b2 q
  obtain ⟨q1, q2⟩ := b2 q
  refine ⟨q1, dec q2, dec q3, ⟨q4, eqV_ok q5, eqV_ok q6, dec q2, q7, eqV_ok q8, dec q9⟩, fun f hf => ?_, dec q11, fun k hk => ?_, dec q13, fun e => ?_, fun e => ?_⟩
  · obtain ⟨a, b⟩ := b2 (List.all_eq_true.mp q10 f hf)
    exact ⟨dec a, eqV_ok b⟩
  · have hk' : k < T.P.cls.length := by
      cases z : (T.P.cl k).exf with
      | none => rw [z] at hk; cases hk
      | some _ => exact cl_exf z
    obtain ⟨a, b⟩ := b2 (notOr (rng_ok q12 hk') hk)
    exact ⟨dec a, dec b⟩
  · subst e
    exact q14
  · rw [if_neg (by cases fs with
      | nil => exact absurd rfl e
      | cons _ _ => simp)] at q14
    obtain ⟨q, r7⟩ := b2 q14
    obtain ⟨q, r6⟩ := b2 q
    obtain ⟨q, r5⟩ := b2 q
    obtain ⟨q, r4⟩ := b2 q
    obtain ⟨q, r3⟩ := b2 q
    obtain ⟨r1, r2⟩ := b2 q
    exact ⟨r1, eqV_ok r2, dec r3, eqV_ok r4, dec r5, eqV_ok r6, dec r7⟩
theorem oexB_ok {C : Addr} (h : oexB K C = true) : ∃ nm q N bs bm sn sub ab col dd k0 k1 k2 k3 k5, K.lookup C = some (excClassObj nm q C N bs bm true sn sub ab col dd k0 k1 k2 k3 k5 "ValueError.__new__") ∧ HandSPX.refsVE bm = true := by
  unfold oexB at h
  split at h
  · rename_i dd cd sl ho
    split at h
    · rename_i C' bm k0 k1 k2 k3 n k5 hm hs
      simp only [Bool.and_eq_true, beq_iff_eq, Bool.not_eq_true'] at h
      obtain ⟨⟨⟨⟨rfl, rfl⟩, hdel⟩, hd⟩, hv⟩ := h
      obtain ⟨nm, bs, mro, ns, qn, hd', sn, sub, ab, col, del⟩ := cd
      dsimp only at hm hdel hd
      subst hm hdel hd
      have hsl : sl = #[k0, k1, k2, k3, some (.builtin "ValueError.__new__"), k5] := by
        obtain ⟨l⟩ := sl
        simp only at hs
        rw [hs]
      subst hsl
      exact ⟨nm, qn, ns, bs, bm, sn, sub, ab, col, dd, k0, k1, k2, k3, k5, ho, hv⟩
    · cases h
  · cases h
theorem oexC_of {c : Nat} {fs : List Nat} (x : ExcX T K c fs) (h : fs ≠ []) : OexC K (T.ca K c) := by
  obtain ⟨a, b, _⟩ := x.x1 h
  exact ⟨oexB_ok a, b, x.sb, x.ty, x.kp⟩
theorem facS_of (hN : T.an.Nodup) (X : K.In h) (G : h.Ns mainGlobals mg) (hc : factB T K = true) (hix : ∀ c, (T.P.cl c).meths.lookup 1008 = none)
    (hx : ∀ c fs, (T.P.cl c).exf = some fs → fs ≠ [] → ∃ (fI : Addr) (G : NF) (ps N : List PySem.Str) (r1 : Stmt) (rows : List Stmt) (x0 : PySem.Str) (ps' : List PySem.Str), XIn pg K mg (T.ca K c) fI G ps N ∧ G.body = r1 :: rows ∧ supRow r1 = true ∧ ps = x0 :: ps' ∧ stoRows x0 ps' (fs.map T.anS) rows = true ∧ ps.length = fs.length + 1) :
    FacS (T.S hN pg w K mg base) := by
  obtain ⟨q, q6⟩ := b2 hc
  obtain ⟨q, q5⟩ := b2 q
  obtain ⟨q, q4⟩ := b2 q
  obtain ⟨q, q3⟩ := b2 q
  obtain ⟨q, q2⟩ := b2 q
  obtain ⟨q0, q1⟩ := b2 q
  obtain ⟨q6, q62⟩ := b2 q6
  obtain ⟨q60, q61⟩ := b2 q6
  have per : ∀ c, c < T.P.cls.length → Per T K c := fun c hcl => by
    have r := rng_ok q4 hcl
    obtain ⟨r, r6⟩ := b2 r
    obtain ⟨r, r5⟩ := b2 r
    obtain ⟨r, r4⟩ := b2 r
    obtain ⟨r, r3⟩ := b2 r
    obtain ⟨r1, r2⟩ := b2 r
    exact ⟨r1, r2, r3, r4, r5, r6⟩
  have own : ∀ c, (T.P.cl c).own = true → OwnX T K c := fun c ho => ownX (per c (cl_own ho)) ho
  refine
    { gls := fun x g hg => ?_
      blt := fun x hb => ?_
      dd := fun f => ?_
      fld := fun c f hf hl => ?_
      con := fun c f d hd => ?_
      meth := fun c m f hm hl => ?_
      mko := fun c m f hm => (by
        have hm : (T.P.cl c).meths.lookup m = some f := hm
        obtain ⟨_, _, _, _, _, _, _, r8⟩ := metX (per c (cl_meth hm)) hm
        exact r8)
      mki := fun c f hi => ?_
      isi := fun d t v b hd hb hk => ?_
      xf := fun c fs hf => ⟨(excX (per c (cl_exf hf)) hf).xc, (excX (per c (cl_exf hf)) hf).fo⟩
      xm := fun c fs k hf hk => ((excX (per c (cl_exf hf)) hf).xm k hk).1
      xi := fun c fs hf => ⟨(excX (per c (cl_exf hf)) hf).ve, fun k hk => ((excX (per c (cl_exf hf)) hf).xm k hk).2⟩
      xr := fun c fs hf => ⟨(excX (per c (cl_exf hf)) hf).sb, (excX (per c (cl_exf hf)) hf).ty⟩
      x0 := fun c hf => (excX (per c (cl_exf hf)) hf).x0 rfl
      x1 := fun c fs hf h0 => ⟨(excX (per c (cl_exf hf)) hf).le, hx c fs hf h0⟩
      cm := fun c m f hm => ?_
      callo := fun c f hm => ?_
      own := ?_
      noIx := hix }
  · have r := List.all_eq_true.mp q1 _ (lookup_mem hg)
    cases g with
    | fn f => obtain ⟨a, b⟩ := b2 r; exact ⟨PySem.W.mg_of X G (eqV_ok a), b⟩
    | cls c => obtain ⟨a, b⟩ := b2 r; exact ⟨PySem.W.mg_of X G (eqV_ok a), b⟩
    | val i =>
      have r : (match PySem.W.nsIn K mainGlobals x, T.P.gls[i]? with
        | some (some u), some d => isC d && He.relB (cV d) u
        | _, _ => false) = true := r
      cases e1 : PySem.W.nsIn K mainGlobals x with
      | none => rw [e1] at r; cases r
      | some o =>
        cases o with
        | none => rw [e1] at r; cases r
        | some u =>
          cases e2 : T.P.gls[i]? with
          | none => rw [e1, e2] at r; cases r
          | some d =>
            rw [e1, e2] at r
            obtain ⟨a, b⟩ := b2 r
            refine ⟨cV d, u, PySem.W.mg_of X G e1, He.relB_ok b, fun d' hd' B => ?_⟩
            have hd' : T.P.gls[i]? = some d' := hd'
            rw [e2] at hd'
            cases hd'
            exact isC_rep a
  · have r := List.all_eq_true.mp q2 x (by
      rcases hb with hb | hb
      · exact List.mem_append_left _ (List.mem_append_left _ hb)
      · exact List.mem_append_left _ (List.mem_append_right _ hb))
    exact PySem.W.mg_none_of X G (eqV_ok r)
  · show (T.dd.getD f []).all isC = true
    rw [List.getD_eq_getElem?_getD]
    cases e : T.dd[f]? with
    | none => rfl
    | some l => exact List.all_eq_true.mp q3 l (List.mem_of_getElem? e)
  · have ho : (T.P.cl c).own = true := by
      have hf : ((T.P.cl c).own && ((T.P.cl c).meths.lookup f).isNone && ((T.P.cl c).cms.lookup f).isNone && ((T.P.cl c).cons.lookup f).isNone) = true := hf
      obtain ⟨hf, _⟩ := b2 hf
      obtain ⟨hf, _⟩ := b2 hf
      exact (b2 hf).1
    exact ⟨(own c ho).cls, (own c ho).fr f hf hl⟩
  · have hd : (T.P.cl c).cons.lookup f = some d := hd
    have r := List.all_eq_true.mp (per c (cl_con hd)).con _ (lookup_mem hd)
    obtain ⟨ho, r⟩ := b2 r
    refine ⟨(own c ho).cls, ?_⟩
    have r : (match PySem.W.findIn K (.ref (T.ca K c)) (T.anS f) with
      | some (some u) => isC d && He.relB (cV d) u && eqVo (PySem.W.specialIn K u "__get__") (some none) && !PySem.W.copiedNames.contains (T.anS f)
      | _ => false) = true := r
    cases e1 : PySem.W.findIn K (.ref (T.ca K c)) (T.anS f) with
    | none => rw [e1] at r; cases r
    | some o =>
      cases o with
      | none => rw [e1] at r; cases r
      | some u =>
        rw [e1] at r
        obtain ⟨r, r4⟩ := b2 r
        obtain ⟨r, r3⟩ := b2 r
        obtain ⟨r1, r2⟩ := b2 r
        exact ⟨cV d, u, ⟨e1, He.relB_ok r2, eqV_ok r3, (by have r4 : (!PySem.W.copiedNames.contains (T.anS f)) = true := r4; exact Bool.not_eq_true' _ |>.mp r4)⟩, fun B => isC_rep r1⟩
  · have hm : (T.P.cl c).meths.lookup m = some f := hm
    have hl : m < T.an.length := hl
    obtain ⟨r1, r2, r3, r4, _⟩ := metX (per c (cl_meth hm)) hm
    refine ⟨(own c r1).cls, ?_, r3, r4⟩
    have hle : T.an.length ≤ 1000 := dec q0
    have d0 : dunS m = none ∧ m ≠ 1011 := by
      refine ⟨?_, by omega⟩
      unfold dunS
      split <;> first | omega | rfl
    rw [d0.1] at r2
    have r2 : PySem.W.findIn K (.ref (T.ca K c)) (if m = 1011 then "__call__" else T.anS m) = some (some (.ref (T.fa K f))) := r2
    rw [if_neg d0.2] at r2
    exact r2
  · have hi : (T.P.cl c).init = some f := hi
    have r := (per c (cl_init hi)).ini
    unfold iniB at r
    rw [hi] at r
    obtain ⟨r, r4⟩ := b2 r
    obtain ⟨r, r3⟩ := b2 r
    obtain ⟨r1, r2⟩ := b2 r
    exact ⟨r1, eqV_ok r2, r3, r4⟩
  · have hb : isiD T.P t d = some b := hb
    have ht : t ∈ allTo T := by
      unfold allTo
      cases t with
      | cls k =>
        have hk : decide (k < T.P.cls.length) = true := hk
        exact List.mem_append_right _ (List.mem_map.mpr ⟨k, List.mem_range.mpr (dec hk), rfl⟩)
      | _ => exact List.mem_append_left _ (by simp [tyso])
    obtain ⟨r1, r2⟩ := b2 (List.all_eq_true.mp q5 t ht)
    have hty : tyVal (T.S hN pg w K mg base) t = tyVo T K t := by cases t <;> rfl
    rw [hty]
    have blt : ∀ (d0 : D) (n : String), (d0, n) ∈ ([(D.non, "NoneType"), (.bl true, "bool"), (.int 0, "int"), (.str [], "str"), (.lst [], "list"), (.tup [], "tuple"), (.dic [], "dict")] : List (D × String)) → PySem.W.kitOne K (.type n) (tyVo T K t) = isiD T.P t d0 := fun d0 n hm => dec (List.all_eq_true.mp r1 _ hm)
    cases d with
    | non => cases hd; exact (blt .non "NoneType" (by simp)).trans hb
    | bl x => cases hd; exact (blt (.bl true) "bool" (by simp)).trans hb
    | int x => cases hd; exact (blt (.int 0) "int" (by simp)).trans hb
    | str x => cases hd; exact (blt (.str []) "str" (by simp)).trans hb
    | lst x => cases hd; exact (blt (.lst []) "list" (by simp)).trans hb
    | tup x => cases hd; exact (blt (.tup []) "tuple" (by simp)).trans hb
    | dic x => cases hd; exact (blt (.dic []) "dict" (by simp)).trans hb
    | obj c fs =>
      cases hd
      have ho : (T.P.cl c).own = true := by
        unfold isiD at hb
        simp only at hb
        split at hb
        · assumption
        · cases hb
      exact (dec (notOr (rng_ok r2 (cl_own ho)) ho)).trans hb
    | cls _ => cases hd
    | scr _ => cases hd
  · have hm : (T.P.cl c).cms.lookup m = some f := hm
    have r := List.all_eq_true.mp (per c (cl_cm hm)).cm _ (lookup_mem hm)
    obtain ⟨r0, r⟩ := b2 r
    refine ⟨dec r0, ?_⟩
    have r : (match PySem.W.typeIn K (.ref (T.ca K c)) with
      | some mc => PySem.W.readsIn K (T.ca K c) mc && eqVo (PySem.W.specialIn K (.ref (T.ca K c)) "__getattribute__") (some (some (.builtin "type.__getattribute__")))
        && (match PySem.W.findCls K (.ref (T.ca K c)) mc (T.anS m) with
          | some (.get (.builtin "classmethod.__get__") (.ref r) .none (.ref C')) => decide (C' = T.ca K c) && PySem.W.fnIn K (T.fa K f) && (match PySem.W.recIn K r "classmethod" with
            | some (.ref g :: _) => decide (g = T.fa K f)
            | _ => false)
          | _ => false)
      | none => false) = true := r
    split at r
    · rename_i mc hmc
      obtain ⟨r, r3⟩ := b2 r
      obtain ⟨r1, r2⟩ := b2 r
      split at r3
      · rename_i rr C' hf
        obtain ⟨r3, r5⟩ := b2 r3
        obtain ⟨r3, r4⟩ := b2 r3
        have r3 := dec r3
        subst r3
        split at r5
        · rename_i g rest hg
          have r5 := dec r5
          subst r5
          exact ⟨mc, rr, ⟨r1, eqV_ok r2⟩, ⟨hf, ⟨rest, hg⟩, r4⟩⟩
        · cases r5
      · cases r3
    · cases r
  · have hm : (T.P.cl c).meths.lookup 1011 = some f := hm
    obtain ⟨r1, r2, r3, r4, r5, _⟩ := metX (per c (cl_meth hm)) hm
    exact ⟨r2, r3, r5⟩
  · refine ⟨fun c m f nm hm hd => ?_, fun c ho => (own c ho).sf, fun c ho => ⟨(own c ho).cls, (own c ho).ca, (own c ho).om⟩, ⟨eqV_ok q60, dec q61⟩, fun c f hm => ?_, fun c t ho ht => (own c ho).nT t ht, fun c c' ho ho' => (own c ho).nC c' ho', fun c f hm => ?_⟩
    · have hm : (T.P.cl c).meths.lookup m = some f := hm
      obtain ⟨r1, r2, r3, r4, r5, _, _, r8⟩ := metX (per c (cl_meth hm)) hm
      rw [hd] at r2
      exact ⟨r2, r3, r5, r1, r8⟩
    · have hm : (T.P.cl c).meths.lookup 1006 = some f := hm
      obtain ⟨_, _, _, _, _, r6, _⟩ := metX (per c (cl_meth hm)) hm
      exact r6 rfl
    · have hm : (T.P.cl c).meths.lookup 1008 = some f := hm
      obtain ⟨_, _, _, _, _, _, r7, _⟩ := metX (per c (cl_meth hm)) hm
      exact r7 rfl
end
end Gal
set_option Elab.async false
set_option linter.all false
set_option maxRecDepth 100000
set_option maxHeartbeats 1000000
/-! Y5: a law's defs by its tables; the law's end. -/
namespace Gal
open PySem L2 PyProof.Rows PySem.Spec NdefX
theorem funD_of {K : PySem.W.Frag} {a : Addr} {d : Fd} (e : fnAt K a = d.val []) (c : d.okB K a = true) : ∃ fd, FunD K d.name d.qual d.params d.body d.scope (d.dfl.map cV) (d.kwd.map fun q => (q.1, cV q.2)) a fd := by
  unfold fnAt at e
  unfold Fd.okB at c
  cases q : K.lookup a with
  | none => rw [q] at c; cases c
  | some o =>
    obtain ⟨oc, od, dt, osl⟩ := o
    rw [q] at c e
    cases dt with
    | func fd =>
      have kp : PySem.W.keepIn K (.ref a) = true := by
        unfold PySem.W.keepIn
        simp only [q]
      obtain ⟨n1, n2, n3, n4, n5, n6, n7, n8, n9, n10, n11, n12, n13, n14, n15⟩ := fd
      have e2 : (some (n1, n2, n3, n4, n5, n6, n7.map (·.1), n15) : FnW) = some (d.name, d.qual, d.params, .stmts d.body, d.scope, mainGlobals, [], builtinsNs) := e
      simp only [Option.some.injEq, Prod.mk.injEq, List.map_eq_nil_iff] at e2
      obtain ⟨h1, h2, h3, h4, h5, h6, h7, h8⟩ := e2
      subst h1 h2 h3 h4 h5 h6 h7 h8
      obtain ⟨k1, k2⟩ := b2 c
      obtain ⟨k3, k4⟩ := b2 k2
      exact ⟨_, ⟨oc, od, n8, n9, n10, n11, n12, n13, n14, osl, rfl, q, k1, He.dflB_ok k3, He.kwdB_ok k4⟩, kp⟩
    | _ => cases c
/-! ### binding -/
/-- how calls of the def bind -/
def BindOk (T : Tb) (f : Nat) (d : Fd) : Prop := ∀ (K : PySem.W.Frag) (a : Addr) (fd : FuncData), FunD K d.name d.qual d.params d.body d.scope (d.dfl.map cV) (d.kwd.map fun q => (q.1, cV q.2)) a fd →
  (∀ j, j ≤ (if T.ko.contains f then 0 else (T.dd.getD f []).length) → ∃ ds, Binds K fd d.ps ds ∧ Vals (((T.dd.getD f []).drop j).map cV) ds) ∧
  (∀ n ks, (n, ks) ∈ T.kw.getD f [] → ∀ (s : Shared) (us ws : List Value), K.In s.heap → us.length = n → ws.length = ks.length → BindsTo s fd ⟨us, ks.zip ws⟩ (d.ps.zip (us ++ ws)))
/-- no defaults, no keywords -/
theorem bind_plain {T : Tb} {f : Nat} {d : Fd} (h1 : T.dd.getD f [] = []) (h2 : T.kw.getD f [] = []) (h3 : d.dfl = [])
    (h : ∀ (kV doc pm : Value) (an : Option Addr) (cdv ct : Value) (us : List Value), us.length = d.ps.length → bindArgs (PySem.W.fnOf d.name d.qual d.params d.body d.scope .none kV doc pm an cdv ct) ⟨us, []⟩ = pure (d.ps.zip us)) : BindOk T f d := by
  intro K a fd F
  rw [h3] at F
  refine ⟨fun j hj => ⟨[], FunD.bindsN F h, ?_⟩, fun n ks hm => ?_⟩
  · rw [h1]; simp only [List.drop_nil, List.map_nil]; exact .nil
  · rw [h2] at hm; cases hm
/-- keyword-only defaults: none is written, or all -/
theorem bind_ko {T : Tb} {f n : Nat} {d : Fd} {ks : List PySem.Str} (hko : T.ko.contains f = true) (h1 : T.dd.getD f [] = d.kwd.map (·.2)) (h2 : T.kw.getD f [] = [(n, ks)]) (h3 : d.dfl = []) (hk : d.kwd ≠ []) (hn : n + d.kwd.length = d.ps.length)
    (h : ∀ (A : Addr) (doc pm : Value) (an : Option Addr) (cdv ct : Value) (us vs : List Value), us.length = n → vs.length = d.kwd.length →
      KwChain A ((d.kwd.map (·.1)).zip vs) (bindArgs (PySem.W.fnOf d.name d.qual d.params d.body d.scope .none (.ref A) doc pm an cdv ct) ⟨us, []⟩) (d.ps.zip (us ++ vs)))
    (h' : ∀ (kV doc pm : Value) (an : Option Addr) (cdv ct : Value) (us ws : List Value), us.length = n → ws.length = ks.length → bindArgs (PySem.W.fnOf d.name d.qual d.params d.body d.scope .none kV doc pm an cdv ct) ⟨us, ks.zip ws⟩ = pure (d.ps.zip (us ++ ws))) : BindOk T f d := by
  intro K a fd F
  rw [h3] at F
  refine ⟨fun j hj => ?_, fun m ks' hm s us ws X l1 l2 => ?_⟩
  · rw [hko, if_pos rfl] at hj
    have : j = 0 := by omega
    subst this
    obtain ⟨ds, r, b⟩ := FunD.binds0 (ps := d.ps) F n (by simpa using hk) (by simpa using hn) (fun A doc pm an cdv ct us vs l1 l2 => by
      have := h A doc pm an cdv ct us vs l1 (by simpa using l2)
      rw [List.map_map]
      exact this)
    refine ⟨ds, b, ?_⟩
    rw [h1, List.drop_zero, List.map_map]
    rw [List.map_map] at r
    exact r
  · rw [h2] at hm
    cases List.mem_singleton.mp hm
    obtain ⟨oc, od, dV, kV, doc, pm, an, cdv, ct, osl, rfl, lk, hcd, hD, hK⟩ := F.ex
    rcases hD with ⟨_, rfl⟩ | ⟨e, _⟩
    · exact .of_eq (h' kV doc pm an cdv ct us ws l1 l2)
    · exact absurd rfl e
inductive AllBind (T : Tb) : Nat → List Fd → Prop
  | nil {f : Nat} : AllBind T f []
  | cons {f : Nat} {d : Fd} {l : List Fd} : BindOk T f d → AllBind T (f + 1) l → AllBind T f (d :: l)
theorem AllBind.get {T : Tb} : ∀ {l : List Fd} {f : Nat}, AllBind T f l → ∀ {i : Nat} {d : Fd}, l[i]? = some d → BindOk T (f + i) d
  | [], _, .nil, i, d, h => by simp at h
  | _ :: l, f, .cons b t, 0, d, h => by
    simp at h
    subst h
    exact b
  | _ :: l, f, .cons b t, i + 1, d, h => by
    have := AllBind.get t (i := i) (d := d) (by simpa using h)
    rw [show f + 1 + i = f + (i + 1) by omega] at this
    exact this
/-! ### the check of all defs -/
def fscB (N P : List PySem.Str) (sc : Scope) : Bool := decide (sc.kind = .function) && !sc.isCoroutine && !sc.isGenerator && decide N.Nodup && decide (N.take P.length = P) && P.all (fun x => decide (sc.names.lookup x = some .local) || decide (sc.names.lookup x = some .cell)) && sc.names.all (fun y => !decide (y.2 = .free))
theorem fscB_ok {N P : List PySem.Str} {sc : Scope} (h : fscB N P sc = true) : FnScope N P sc := by
  unfold fscB at h
  simp only [Bool.and_eq_true, Bool.not_eq_true', decide_eq_true_eq, List.all_eq_true, Bool.or_eq_true, decide_eq_false_iff_not] at h
  obtain ⟨⟨⟨⟨⟨⟨h1, h2⟩, h3⟩, h4⟩, h5⟩, h6⟩, h7⟩ := h
  exact ⟨h1, h2, h3, h4, h5, h6, h7⟩
def Tb.cp (T : Tb) (N : List PySem.Str) (sc : Scope) : Cp := ⟨T.P, T.anS, T.an.length, fun x => T.gl.lookup x, fun f => T.dd.getD f [], fun f => T.kw.getD f [], fun f => T.ko.contains f, N, sc, false⟩
def Fd.ckB (T : Tb) (fn : Fn) (d : Fd) : Bool := fscB d.N d.ps d.scope && decide (d.N.length = fn.ns) && decide (d.ps.length = fn.np) && decide (fn.np ≤ fn.ns) && (cks (T.cp d.N d.scope) fn.body).b d.body
def ckAll (T : Tb) : List Fn → List Fd → Bool
  | [], [] => true
  | fn :: fns, d :: ds => d.ckB T fn && ckAll T fns ds
  | _, _ => false
theorem ckAll_ok {T : Tb} : ∀ {fns : List Fn} {ds : List Fd}, ckAll T fns ds = true → ∀ {i : Nat} {fn : Fn}, fns[i]? = some fn → ∃ d, ds[i]? = some d ∧ d.ckB T fn = true
  | [], [], _, i, fn, h => by simp at h
  | fn :: fns, d :: ds, h, 0, fn', e => by
    simp at e
    subst e
    exact ⟨d, rfl, (b2 h).1⟩
  | fn :: fns, d :: ds, h, i + 1, fn', e => by
    obtain ⟨d', h1, h2⟩ := ckAll_ok (b2 h).2 (i := i) (fn := fn') (by simpa using e)
    exact ⟨d', by simpa using h1, h2⟩
  | [], _ :: _, h, _, _, _ => by cases h
  | _ :: _, [], h, _, _, _ => by cases h
/-! ### exceptions' __init__ -/
def Xd.ckB (T : Tb) (x : Xd) : Bool := nscB x.d.N x.d.ps ["__class__"] x.d.scope && decide (((x.d.params.posonlyargs ++ x.d.params.args).head?.map (·.arg)) = x.d.ps.head?) && decide (x.d.scope.names.lookup ("super" : PySem.Str) = some .globalImplicit)
  && supRow x.r1 && (match x.d.ps, (T.P.cl x.c).exf with
    | x0 :: ps', some fs => stoRows x0 ps' (fs.map T.anS) x.rows && decide (x.d.ps.length = fs.length + 1)
    | _, _ => false)
/-- its operands are all given -/
def Xd.bnd (x : Xd) : Prop := ∀ (cl : List (PySem.Str × Addr)) (dV kV doc pm : Value) (an : Option Addr) (cdv ct : Value) (us : List Value), us.length = x.d.ps.length → dV = .none →
  bindArgs (PySem.W.fnX x.d.name x.d.qual x.d.params x.d.body x.d.scope cl dV kV doc pm an cdv ct) ⟨us, []⟩ = pure (x.d.ps.zip us)
end Gal
namespace Gal
open PySem L2 PyProof.Rows PySem.Spec NdefX
section
variable {T : Tb} {K : PySem.W.Frag} {pg : Program} {w : World} {mg : PySem.Str → Option Value} {base h : Heap}
theorem xin_of {x : Xd} {fs : List Nat} {file : PySem.Str} (hfile : pg.main.file = file) (htop : (pg.main.scope.names.lookup ("super" : PySem.Str)).isSome = false) (hmg : mg "super" = none) (hopq : PySem.W.nsIn K cStatics "thirdparty.any" = some none)
    (ex : ExcX T K x.c fs) (hf : (T.P.cl x.c).exf = some fs) (h0 : fs ≠ []) (e : fnAt K (He.ma K (T.ca K x.c) "__init__") = x.d.val ["__class__"]) (c : xinB T K file x = true) (cd : xdnB T K x = true) (ck : x.ckB T = true) (bd : x.bnd) (hbody : x.d.body = x.r1 :: x.rows) :
    ∃ (fI : Addr) (G : NF) (ps N : List PySem.Str) (r1 : Stmt) (rows : List Stmt) (x0 : PySem.Str) (ps' : List PySem.Str), XIn pg K mg (T.ca K x.c) fI G ps N ∧ G.body = r1 :: rows ∧ supRow r1 = true ∧ ps = x0 :: ps' ∧ stoRows x0 ps' (fs.map T.anS) rows = true ∧ ps.length = fs.length + 1 := by
  obtain ⟨ck, k5⟩ := b2 ck
  obtain ⟨ck, k4⟩ := b2 ck
  obtain ⟨ck, k3⟩ := b2 ck
  obtain ⟨k1, k2⟩ := b2 ck
  obtain ⟨x0, ps', hps, hst, hl⟩ : ∃ x0 ps', x.d.ps = x0 :: ps' ∧ stoRows x0 ps' (fs.map T.anS) x.rows = true ∧ x.d.ps.length = fs.length + 1 := by
    rw [hf] at k5
    cases q : x.d.ps with
    | nil => rw [q] at k5; cases k5
    | cons x0 ps' =>
      rw [q] at k5
      obtain ⟨a, b⟩ := b2 k5
      exact ⟨x0, ps', rfl, a, dec b⟩
  unfold fnAt at e
  unfold xinB at c
  unfold xdnB at cd
  cases q : K.lookup (He.ma K (T.ca K x.c) "__init__") with
  | none => rw [q] at c; cases c
  | some o =>
    obtain ⟨oc, od, dt, osl⟩ := o
    rw [q] at c e cd
    cases dt with
    | func fd =>
      obtain ⟨n1, n2, n3, n4, n5, n6, n7, n8, n9, n10, n11, n12, n13, n14, n15⟩ := fd
      have e2 : (some (n1, n2, n3, n4, n5, n6, n7.map (·.1), n15) : FnW) = some (x.d.name, x.d.qual, x.d.params, FuncBody.stmts x.d.body, x.d.scope, mainGlobals, [("__class__" : PySem.Str)], builtinsNs) := e
      simp only [Option.some.injEq, Prod.mk.injEq] at e2
      obtain ⟨h1, h2, h3, h4, h5, h6, h7, h8⟩ := e2
      subst h1 h2 h3 h4 h5 h6 h8
      have hdn : n8 = .none := by
        cases n8 <;> first | rfl | cases cd
      subst hdn
      rcases n7 with _ | ⟨⟨n, cc⟩, _ | ⟨p2, r2⟩⟩
      · cases n13 <;> cases c
      case cons.cons => cases n13 <;> cases c
      cases n13 with
      | ref cda =>
        have c : (n == ("__class__" : PySem.Str) && (match K.lookup cc with
          | some ⟨_, _, .cell (some (.ref C')), _⟩ => decide (C' = T.ca K x.c)
          | _ => false) && PySem.W.codeIn K (.ref cda) x.d.qual && (match K.lookup cda with
          | some ⟨_, _, .fields vs, _⟩ => (match (vs[2]? : Option Value) with
            | some (Value.str fl _) => file == fl
            | _ => false)
          | _ => false)) = true := c
        obtain ⟨c, c4⟩ := b2 c
        obtain ⟨c, c3⟩ := b2 c
        obtain ⟨c1, c2⟩ := b2 c
        have c1 : n = ("__class__" : PySem.Str) := beq_iff_eq.mp c1
        subst c1
        obtain ⟨_, b2', b3, b4, b5, b6, b7⟩ := ex.x1 h0
        refine ⟨He.ma K (T.ca K x.c) "__init__", ⟨x.d.name, x.d.qual, x.d.params, x.d.body, x.d.scope, [("__class__", cc)], cda⟩, x.d.ps, x.d.N, x.r1, x.rows, x0, ps', ?_, hbody, k4, hps, hst, hl⟩
        split at c2
        · rename_i ccl ccd C' csl hcc
          have c2 := dec c2
          subst c2
          split at c4
          · rename_i dcl dcd vs dsl hcd
            split at c4
            · rename_i fl tf hv
              exact
                { oex := oexC_of ex h0
                  cell := ⟨cc, _, _, _, rfl, hcc⟩
                  fn := ⟨_, _, _, _, _, _, _, _, _, q, fun us hl => bd _ _ _ _ _ _ _ _ us hl rfl⟩
                  file := ⟨_, _, _, _, fl, tf, hcd, hv, by rw [hfile]; exact c4⟩
                  code := c3
                  scope := nscope_by k1
                  head := by
                    have k2 := dec k2
                    rw [hps] at k2
                    cases z : (x.d.params.posonlyargs ++ x.d.params.args).head? with
                    | none => rw [z] at k2; cases k2
                    | some ar =>
                      rw [z] at k2
                      exact ⟨ar, x0, ps', rfl, hps, Option.some.inj k2⟩
                  sup := dec k3
                  mgs := hmg
                  top := htop
                  cls := Option.isSome_iff_exists.mp ex.xc.cl
                  sub := b3
                  opq := hopq
                  supI := b4
                  subV := b5
                  iC := b6
                  tI := b7 }
            · cases c4
          · cases c4
        · cases c2
      | _ => cases c
    | _ => cases c
/-! ### the hook -/
/-- what is checked of a law's tables, without its head -/
structure Static (T : Tb) (fds : List Fd) (xds : List Xd) (pg : Program) (file : PySem.Str) : Prop where
  nd : T.an.Nodup
  ck : ckAll T T.P.fns fds = true
  bn : AllBind T 0 fds
  ix : (T.P.cls.all fun c => (c.meths.lookup 1008).isNone) = true
  xc : ((List.range T.P.cls.length).all fun c => match (T.P.cl c).exf with
    | some (_ :: _) => xds.any fun x => x.c == c
    | _ => true) = true
  xk : (xds.all fun x => x.ckB T) = true
  xb : ∀ x ∈ xds, x.bnd ∧ x.d.body = x.r1 :: x.rows
  file : pg.main.file = file
  top : (pg.main.scope.names.lookup ("super" : PySem.Str)).isSome = false
theorem map_get {α β : Type} {f : α → β} {l : List α} {m : List β} (h : l.map f = m) {i : Nat} {a : α} (e : l[i]? = some a) : m[i]? = some (f a) := by
  rw [← h, List.getElem?_map, e]
  rfl
theorem facS_law {fds : List Fd} {xds : List Xd} {file : PySem.Str} (st : Static T fds xds pg file) (X : K.In h) (G : h.Ns mainGlobals mg) (ho : obT T fds xds file K = vaT fds xds) :
    FacS (T.S st.nd pg w K mg base) ∧ ∀ f fn, T.P.fns[f]? = some fn → FnF (T.S st.nd pg w K mg base) f fn := by
  have h1 : obB T fds xds file K = true := congrArg (fun z : ObT => z.1) ho
  have h2 : (fds.zipIdx.map fun p => fnAt K (T.fa K p.2)) = fds.map fun d => d.val [] := congrArg (fun z : ObT => z.2.1) ho
  have h3 : (xds.map fun x => fnAt K (He.ma K (T.ca K x.c) "__init__")) = xds.map fun x => x.d.val ["__class__"] := congrArg (fun z : ObT => z.2.2) ho
  obtain ⟨h1, hxb⟩ := b2 h1
  obtain ⟨hfb, hdb⟩ := b2 h1
  have super : mg "super" = none := by
    obtain ⟨q, q6⟩ := b2 hfb
    obtain ⟨q, q5⟩ := b2 q
    obtain ⟨q, q4⟩ := b2 q
    obtain ⟨q, q3⟩ := b2 q
    obtain ⟨q, q2⟩ := b2 q
    exact PySem.W.mg_none_of X G (eqV_ok (List.all_eq_true.mp q2 "super" (List.mem_append_right _ (List.mem_singleton.mpr rfl))))
  have opq : PySem.W.nsIn K cStatics "thirdparty.any" = some none := eqV_ok (b2 (b2 hfb).2).2
  refine ⟨facS_of st.nd X G hfb (fun c => ?_) (fun c fs hf h0 => ?_), fun f fn hfn => ?_⟩
  · by_cases hc : c < T.P.cls.length
    · have e : T.P.cls[c]? = some (T.P.cl c) := by
        unfold Prog.cl
        rw [List.getD_eq_getElem?_getD, List.getElem?_eq_getElem hc]
        rfl
      have := List.all_eq_true.mp st.ix _ (List.mem_of_getElem? e)
      simpa using this
    · cases e : (T.P.cl c).meths.lookup 1008 with
      | none => rfl
      | some f => exact absurd (cl_meth e) hc
  · have hc := cl_exf hf
    have q := List.all_eq_true.mp st.xc c (List.mem_range.mpr hc)
    rw [hf] at q
    cases fs with
    | nil => exact absurd rfl h0
    | cons f0 fr =>
      obtain ⟨x, hx, e⟩ := List.any_eq_true.mp q
      have e := beq_iff_eq.mp e
      subst e
      obtain ⟨i, hi⟩ := List.mem_iff_getElem?.mp hx
      have m1 := map_get h3 hi
      rw [List.getElem?_map, hi] at m1
      have xb := List.all_eq_true.mp hxb x hx
      obtain ⟨xb1, xb2⟩ := b2 xb
      obtain ⟨bd, hbody⟩ := st.xb x hx
      have per : Per T K x.c := by
        obtain ⟨q, q6⟩ := b2 hfb
        obtain ⟨q, q5⟩ := b2 q
        obtain ⟨q, q4⟩ := b2 q
        have r := rng_ok q4 hc
        obtain ⟨r, r6⟩ := b2 r
        obtain ⟨r, r5⟩ := b2 r
        obtain ⟨r, r4⟩ := b2 r
        obtain ⟨r, r3⟩ := b2 r
        obtain ⟨r1, r2⟩ := b2 r
        exact ⟨r1, r2, r3, r4, r5, r6⟩
      exact xin_of st.file st.top super opq (excX per hf) hf h0 (Option.some.inj m1).symm xb1 xb2 (List.all_eq_true.mp st.xk x hx) bd hbody
  · obtain ⟨d, hd, hck⟩ := ckAll_ok st.ck hfn
    have hz : fds.zipIdx[f]? = some (d, f) := by rw [List.getElem?_zipIdx, hd]; simp
    have m1 := map_get h2 hz
    rw [List.getElem?_map, hd] at m1
    have okb := List.all_eq_true.mp hdb _ (List.mem_of_getElem? hz)
    obtain ⟨fd, F⟩ := funD_of (Option.some.inj m1).symm okb
    have bo := st.bn.get hd
    rw [Nat.zero_add] at bo
    obtain ⟨bo1, bo2⟩ := bo K _ fd F
    obtain ⟨oc, od, dV, kV, doc, pm, an, cdv, ct, osl, rfl, lk, hcd, hD, hK⟩ := F.ex
    obtain ⟨c, c5⟩ := b2 hck
    obtain ⟨c, c4⟩ := b2 c
    obtain ⟨c, c3⟩ := b2 c
    obtain ⟨c1, c2⟩ := b2 c
    exact ⟨oc, od, osl, _, _, _, _, _, dV, kV, doc, pm, an, cdv, ct, d.N, d.ps, lk, hcd, fscB_ok c1, dec c2, dec c3, dec c4, c5, bo1, bo2⟩
/-- THE LAW'S DEF keeps its promise -/
theorem law_fn {fds : List Fd} {xds : List Xd} {file : PySem.Str} (st : Static T fds xds pg file) (X : K.In h) (G : h.Ns mainGlobals mg) (ho : obT T fds xds file K = vaT fds xds) {L n Wn : Nat} {fn : Fn} {d : Fd} (hL : T.P.fns[L]? = some fn) (hd : fds[L]? = some d)
    {x : PySem.Str} (hps : d.ps = [x]) (hkw : d.dfl = []) (hdd : T.dd.getD L [] = []) (hb : ∀ (kV doc pm : Value) (an : Option Addr) (cdv ct : Value) (us : List Value), us.length = d.ps.length → bindArgs (PySem.W.fnOf d.name d.qual d.params d.body d.scope .none kV doc pm an cdv ct) ⟨us, []⟩ = pure (d.ps.zip us)) :
    ∃ fd : FuncData, (∀ (s : Shared) (v : Value), BindsTo s fd ⟨[v], []⟩ [(x, v)]) ∧ ∀ base : Heap, K.In base → base.Ns mainGlobals mg → FnOk pg w K mg base (L2.CX pg w) (3 * n + 4) (T.fa K L) fd [x] (fun vs H Q E => ∀ base, spR (T.S st.nd pg w K mg base) (callF T.P Wn (n + 1)) L vs H Q E) := by
  have h1 : obB T fds xds file K = true := congrArg (fun z : ObT => z.1) ho
  have h2 : (fds.zipIdx.map fun p => fnAt K (T.fa K p.2)) = fds.map fun d => d.val [] := congrArg (fun z : ObT => z.2.1) ho
  obtain ⟨h1, hxb⟩ := b2 h1
  obtain ⟨hfb, hdb⟩ := b2 h1
  obtain ⟨d', hd', hck⟩ := ckAll_ok st.ck hL
  rw [hd] at hd'
  cases hd'
  have hz : fds.zipIdx[L]? = some (d, L) := by rw [List.getElem?_zipIdx, hd]; simp
  have m1 := map_get h2 hz
  rw [List.getElem?_map, hd] at m1
  have okb := List.all_eq_true.mp hdb _ (List.mem_of_getElem? hz)
  obtain ⟨fd, F⟩ := funD_of (Option.some.inj m1).symm okb
  rw [hkw] at F
  have bA := FunD.bindsA (ps := d.ps) F hb
  obtain ⟨oc, od, dV, kV, doc, pm, an, cdv, ct, osl, rfl, lk, hcd, hD, hK⟩ := F.ex
  refine ⟨PySem.W.fnOf d.name d.qual d.params d.body d.scope dV kV doc pm an cdv ct, fun s v => ?_, fun base kb gb => ?_⟩
  · have := bA s [v] (by rw [hps]; rfl)
    rw [hps] at this
    exact this
  · obtain ⟨fS, hF⟩ := facS_law (w := w) (base := base) st kb gb ho
    have R := runs_ok fS hF Wn n
    obtain ⟨c, c5⟩ := b2 hck
    obtain ⟨c, c4⟩ := b2 c
    obtain ⟨c, c3⟩ := b2 c
    obtain ⟨c1, c2⟩ := b2 c
    have FO := fn_ok (S := T.S st.nd pg w K mg base) (Wn := Wn) (n := n) (k := 3 * n + 3) (f := L) hL lk hcd (fscB_ok c1) (dec c2) (dec c3) (dec c4) fun E =>
      (mainS (S := T.S st.nd pg w K mg base) (F := callF T.P Wn n) (n := Wn) (k := 3 * n + 1) (kk := 3 * n + 3) (fun Γ hS hk => fac_of fS (by omega) R Γ hS (by omega)) fn.body (ctOf (T.S st.nd pg w K mg base) d.N d.scope (3 * n + 3) fn.np E) rfl rfl rfl (fun _ => rfl)).b d.body c5
    rw [hps] at FO
    exact FO.imp fun vs H Q E q => q base
/-- the law's own promise -/
theorem law_sp {S : Stc} {F : Callee} {L : Nat} {own : Bool} {outs : List Sl} {H : Hp} {a : Addr} {ns : List Int} (hS : SqL S.K H a (ns.map V.int)) (hr : F L [.va (.scr ns)] = some (.rt own (.bl true) outs)) :
    spR S F L [.ref a] H (fun v _ => v = .bl true) (fun _ _ _ => False) := by
  refine ⟨H, [.va (.scr ns)], _, ⟨Ex.refl H, .cons (show Rep S H (.ref a) (.scr ns) from .scr hS) .nil, fun i j p o1 _ => ?_⟩, hr, ?_⟩
  · obtain ⟨d, h1, _⟩ := o1
    cases i with
    | zero => cases h1
    | succ i => simp at h1
  · intro v B' H' _ vr
    cases own with
    | false =>
      have vr : Rep S B' v (.bl true) := vr
      cases vr
      rfl
    | true =>
      obtain ⟨p, _, _, _, r⟩ := vr
      cases r
end
end Gal
set_option Elab.async false
set_option linter.all false
set_option maxRecDepth 100000
set_option maxHeartbeats 1000000
/-! Y6: what a law's end asks of its head. -/
namespace Gal
open PySem L2 PyProof.Rows PySem.Spec NdefX
theorem law_facts {T : Tb} {fds : List Fd} {xds : List Xd} {pg : Program} {file : PySem.Str} (st : Static T fds xds pg file) {L n Wn most : Nat} {fn : Fn} {d : Fd} {x nm : PySem.Str} (hL : T.P.fns[L]? = some fn) (hd : fds[L]? = some d) (hg : T.gl.lookup nm = some (.fn L))
    (hps : d.ps = [x]) (hkw : d.dfl = []) (hdd : T.dd.getD L [] = []) (hb : ∀ (kV doc pm : Value) (an : Option Addr) (cdv ct : Value) (us : List Value), us.length = d.ps.length → bindArgs (PySem.W.fnOf d.name d.qual d.params d.body d.scope .none kV doc pm an cdv ct) ⟨us, []⟩ = pure (d.ps.zip us))
    (fact : ∀ ns : List Int, ns.length ≤ most → ∃ own outs, callF T.P Wn (n + 1) L [.va (.scr ns)] = some (.rt own (.bl true) outs))
    {w : World} {mg : PySem.Str → Option Value} {fa : Addr} {h : Heap} (Y : ∃ K : PySem.W.Frag, K.In h ∧ obT T fds xds file K = vaT fds xds) (G : h.Ns mainGlobals mg) (hfa : mg nm = some (.ref fa)) :
    ∃ (K : PySem.W.Frag) (fd : FuncData) (sp : Sp), K.In h ∧ (∀ (s : Shared) (u : Value), BindsTo s fd ⟨[u], []⟩ [(x, u)]) ∧
        (∀ (H : Hp) (a : Addr) (ns : List Int), ns.length ≤ most → Only H → SqL K H a (ns.map V.int) → sp [.ref a] H (fun v _ => v = .bl true) fun _ _ _ => False) ∧
        ∀ base : Heap, K.In base → base.Ns mainGlobals mg → FnOk pg w K mg base CX0 (3 * n + 4) fa fd [x] sp := by
  obtain ⟨K, X, ho⟩ := Y
  obtain ⟨fS, _⟩ := facS_law (w := w) (base := h) st X G ho
  have g1 := (fS.gls nm (.fn L) hg).1
  have e := hfa.symm.trans g1
  cases e
  obtain ⟨fd, hB, hF⟩ := law_fn (w := w) (Wn := Wn) st X G ho hL hd hps hkw hdd hb
  refine ⟨K, fd, fun vs H Q _ => ∀ base, spR (T.S st.nd pg w K mg base) (callF T.P Wn (n + 1)) L vs H Q fun _ _ _ => False, X, hB, fun H a ns hl _ hS base => ?_, fun base kb gb => ?_⟩
  · obtain ⟨own, outs, e⟩ := fact ns hl
    exact law_sp (S := T.S st.nd pg w K mg base) hS e
  · have FO := hF base kb gb
    refine ⟨fun vs H Q _ q => FO.len vs H Q (fun _ _ _ => False) q, fun A outer s H args us vs Q E hr he hb hv hs => ?_⟩
    refine codeAny_mono (FO.run A outer s H args us vs Q (fun _ _ _ => False) hr he hb hv hs) fun r s' q => ?_
    cases r with
    | ok o => cases o <;> first | exact q | cases q
    | error e =>
      have q : L2.CX pg w outer H s (fun _ _ _ => False) e s' := q
      obtain ⟨_, _, _, _, _, _, _, _, _, _, _, _, z⟩ := q
      exact z.elim
end Gal
set_option Elab.async false
set_option linter.all false
set_option maxRecDepth 100000
set_option maxHeartbeats 0
namespace K40
open Gal PySem L2
theorem binds : AllBind T 0 fds := .cons (bind_plain rfl rfl rfl fun _ _ _ _ _ _ us hl => match us, hl with | [_, _], _ => rfl) (
  .cons (bind_plain rfl rfl rfl fun _ _ _ _ _ _ us hl => match us, hl with | [_, _, _], _ => rfl) (
  .cons (bind_plain rfl rfl rfl fun _ _ _ _ _ _ us hl => match us, hl with | [_, _], _ => rfl) (
  .cons (bind_plain rfl rfl rfl fun _ _ _ _ _ _ us hl => match us, hl with | [_, _], _ => rfl) (
  .cons (bind_plain rfl rfl rfl fun _ _ _ _ _ _ us hl => match us, hl with | [_, _], _ => rfl) (
  .cons (bind_plain rfl rfl rfl fun _ _ _ _ _ _ us hl => match us, hl with | [_, _], _ => rfl) (
  .cons (bind_plain rfl rfl rfl fun _ _ _ _ _ _ us hl => match us, hl with | [_, _], _ => rfl) (
  .cons (bind_plain rfl rfl rfl fun _ _ _ _ _ _ us hl => match us, hl with | [_], _ => rfl) (
  .cons (bind_plain rfl rfl rfl fun _ _ _ _ _ _ us hl => match us, hl with | [_], _ => rfl) (
  .cons (bind_plain rfl rfl rfl fun _ _ _ _ _ _ us hl => match us, hl with | [_, _], _ => rfl) (
  .cons (bind_ko (n := 5) (ks := ["start"]) (by decide +kernel) rfl rfl rfl (by decide +kernel) rfl (fun A doc pm an cdv ct us vs l1 l2 => match us, vs, l1, l2 with | [_, _, _, _, _], [_], _, _ => ⟨_, _, _, _, _, _, rfl, rfl, rfl⟩) (fun _ _ _ _ _ _ us ws l1 l2 => match us, ws, l1, l2 with | [_, _, _, _, _], [_], _, _ => rfl)) (
  .cons (bind_plain rfl rfl rfl fun _ _ _ _ _ _ us hl => match us, hl with | [_, _], _ => rfl) (
  .cons (bind_plain rfl rfl rfl fun _ _ _ _ _ _ us hl => match us, hl with | [_, _, _], _ => rfl) (
  .cons (bind_plain rfl rfl rfl fun _ _ _ _ _ _ us hl => match us, hl with | [_, _], _ => rfl) (
  .cons (bind_plain rfl rfl rfl fun _ _ _ _ _ _ us hl => match us, hl with | [_, _], _ => rfl) (
  .cons (bind_plain rfl rfl rfl fun _ _ _ _ _ _ us hl => match us, hl with | [_, _], _ => rfl) (
  .cons (bind_plain rfl rfl rfl fun _ _ _ _ _ _ us hl => match us, hl with | [_, _], _ => rfl) (
  .cons (bind_plain rfl rfl rfl fun _ _ _ _ _ _ us hl => match us, hl with | [_, _], _ => rfl) (
  .cons (bind_plain rfl rfl rfl fun _ _ _ _ _ _ us hl => match us, hl with | [_], _ => rfl) (
  .cons (bind_plain rfl rfl rfl fun _ _ _ _ _ _ us hl => match us, hl with | [_, _], _ => rfl) (
  .cons (bind_plain rfl rfl rfl fun _ _ _ _ _ _ us hl => match us, hl with | [_, _, _], _ => rfl) (
  .cons (bind_plain rfl rfl rfl fun _ _ _ _ _ _ us hl => match us, hl with | [_], _ => rfl) (
  .cons (bind_plain rfl rfl rfl fun _ _ _ _ _ _ us hl => match us, hl with | [_, _], _ => rfl) (
  .cons (bind_plain rfl rfl rfl fun _ _ _ _ _ _ us hl => match us, hl with | [_, _, _], _ => rfl) (
  .cons (bind_plain rfl rfl rfl fun _ _ _ _ _ _ us hl => match us, hl with | [_, _], _ => rfl) (
  .cons (bind_plain rfl rfl rfl fun _ _ _ _ _ _ us hl => match us, hl with | [_, _], _ => rfl) (
  .cons (bind_plain rfl rfl rfl fun _ _ _ _ _ _ us hl => match us, hl with | [_, _], _ => rfl) (
  .cons (bind_plain rfl rfl rfl fun _ _ _ _ _ _ us hl => match us, hl with | [_, _, _], _ => rfl) (
  .cons (bind_plain rfl rfl rfl fun _ _ _ _ _ _ us hl => match us, hl with | [_, _, _], _ => rfl) (
  .cons (bind_plain rfl rfl rfl fun _ _ _ _ _ _ us hl => match us, hl with | [_, _], _ => rfl) (
  .cons (bind_plain rfl rfl rfl fun _ _ _ _ _ _ us hl => match us, hl with | [_, _], _ => rfl) (
  .cons (bind_plain rfl rfl rfl fun _ _ _ _ _ _ us hl => match us, hl with | [_, _, _], _ => rfl) (
  .cons (bind_plain rfl rfl rfl fun _ _ _ _ _ _ us hl => match us, hl with | [_, _, _], _ => rfl) (
  .cons (bind_plain rfl rfl rfl fun _ _ _ _ _ _ us hl => match us, hl with | [_, _, _, _], _ => rfl) (
  .cons (bind_plain rfl rfl rfl fun _ _ _ _ _ _ us hl => match us, hl with | [_, _, _, _], _ => rfl) (
  .cons (bind_plain rfl rfl rfl fun _ _ _ _ _ _ us hl => match us, hl with | [_, _], _ => rfl) (
  .cons (bind_plain rfl rfl rfl fun _ _ _ _ _ _ us hl => match us, hl with | [_, _, _, _], _ => rfl) (
  .cons (bind_plain rfl rfl rfl fun _ _ _ _ _ _ us hl => match us, hl with | [_, _], _ => rfl) (
  .cons (bind_plain rfl rfl rfl fun _ _ _ _ _ _ us hl => match us, hl with | [_, _], _ => rfl) (
  .cons (bind_plain rfl rfl rfl fun _ _ _ _ _ _ us hl => match us, hl with | [_], _ => rfl) .nil)))))))))))))))))))))))))))))))))))))))
theorem static : Static T fds xds pg "/claim/cut.py" where
  nd := by decide +kernel
  ck := by kernel_rfl
  bn := binds
  ix := by kernel_rfl
  xc := by kernel_rfl
  xk := by kernel_rfl
  xb := by
    intro x hx
    simp only [xds, List.append_nil, List.mem_append, List.mem_cons, List.not_mem_nil, or_false] at hx
    rcases hx with rfl | rfl | rfl | rfl | rfl <;> exact ⟨fun _ _ _ _ _ _ _ _ us hl hd => by subst hd; exact match us, hl with | [_, _], _ => rfl, rfl⟩
  file := by kernel_rfl
  top := by kernel_rfl
end K40
set_option Elab.async false
set_option linter.all false
set_option maxRecDepth 100000
set_option maxHeartbeats 400000
/-! Z0: the pure run, rule by rule. -/
namespace Gz
open Gal
abbrev XQ : Type := Nat → List (Nat × D) → Env → Prop
def RQ {α : Type} (r : R α) (Q : α → Env → Prop) (X : XQ) : Prop := match r with
  | .ok a e => Q a e
  | .ex c fs e => X c fs e
def Wm {α : Type} (m : M α) (e : Env) (Q : α → Env → Prop) (X : XQ) : Prop := ∃ r, m e = some r ∧ RQ r Q X
theorem Wm.bind {α β : Type} {m : M α} {f : α → M β} {e : Env} {Q : β → Env → Prop} {X : XQ} (h : Wm m e (fun a e1 => Wm (f a) e1 Q X) X) : Wm (M.bind m f) e Q X := by
  obtain ⟨r, h, q⟩ := h
  cases r with
  | ok a e1 => obtain ⟨r, h', q⟩ := q; exact ⟨r, by unfold M.bind; rw [h]; exact h', q⟩
  | ex c fs e1 => exact ⟨.ex c fs e1, by unfold M.bind; rw [h], q⟩
theorem Wm.pure {α : Type} {a : α} {e : Env} {Q : α → Env → Prop} {X : XQ} (h : Q a e) : Wm (M.pure a) e Q X := ⟨_, rfl, h⟩
theorem Wm.ok {α : Type} {m : M α} {a : α} {e e1 : Env} {Q : α → Env → Prop} {X : XQ} (h : m e = some (.ok a e1)) (q : Q a e1) : Wm m e Q X := ⟨_, h, q⟩
theorem Wm.imp {α : Type} {m : M α} {e : Env} {Q Q' : α → Env → Prop} {X X' : XQ} (h : Wm m e Q X) (q : ∀ a e, Q a e → Q' a e) (x : ∀ c fs e, X c fs e → X' c fs e) : Wm m e Q' X' := by
  obtain ⟨r, h, z⟩ := h
  exact ⟨r, h, by cases r with
    | ok a e1 => exact q _ _ z
    | ex c fs e1 => exact x _ _ _ z⟩
def arOf (i : Nat) : Sl → Option Ar
  | .va d => some (.v false d)
  | .fz d => some (.v false d)
  | .ow _ => some (.r i)
  | .lk _ => some (.r i)
  | _ => none
section
variable {P : Prog} {F : Callee} {np : Nat} {hot : Bool} {e : Env} {X : XQ}
def WE (P : Prog) (F : Callee) (np : Nat) (hot : Bool) (m : E) (e : Env) (Q : Ar → Env → Prop) (X : XQ) : Prop := Wm (ev P F np hot m).o e Q X
def WT (P : Prog) (F : Callee) (np : Nat) (hot : Bool) (m : E) (e : Env) (Q : Bool → Env → Prop) (X : XQ) : Prop := Wm (ev P F np hot m).t e Q X
def WL (P : Prog) (F : Callee) (np : Nat) (hot : Bool) (m : E) (e : Env) (Q : List Ar → Env → Prop) (X : XQ) : Prop := Wm (ev P F np hot m).l e Q X
def Wp (P : Prog) (F : Callee) (np : Nat) (hot : Bool) (m : E) (e : Env) (Q : Option Int → Env → Prop) (X : XQ) : Prop := Wm (ev P F np hot m).p e Q X
def WK (P : Prog) (F : Callee) (np : Nat) (hot : Bool) (a : Bool) (m : E) (e : Env) (Q : Bool → Env → Prop) (X : XQ) : Prop := Wm ((ev P F np hot m).k a) e Q X
def WJ (P : Prog) (F : Callee) (np : Nat) (hot : Bool) (a : Bool) (m : E) (e : Env) (Q : Bool → Env → Prop) (X : XQ) : Prop := Wm ((ev P F np hot m).j a) e Q X
/-- a call over evaluated operands -/
def WC (F : Callee) (np f : Nat) (as : List Ar) (e : Env) (Q : Ar → Env → Prop) (X : XQ) : Prop := Wm (callD F np f as) e Q X
def WM (P : Prog) (F : Callee) (np c : Nat) (as : List Ar) (e : Env) (Q : Ar → Env → Prop) (X : XQ) : Prop := Wm (mkObj P F np c as) e Q X
variable {Q : Ar → Env → Prop}
theorem we_con {d : D} (q : Q (.v false d) e) : WE P F np hot (.con d) e Q X := Wm.pure q
theorem we_gl {k : Nat} {d : D} (h : P.gls[k]? = some d) (q : Q (.v false d) e) : WE P F np hot (.gl k) e Q X := ⟨.ok (.v false d) e, by show (P.gls[k]?).map _ = _; rw [h]; rfl, q⟩
theorem we_var {i : Nat} {a : Ar} (h : (e[i]?).bind (arOf i) = some a) (q : Q a e) : WE P F np hot (.var i) e Q X := by
  refine ⟨.ok a e, ?_, q⟩
  show varM i e = _
  unfold varM
  cases z : e[i]? with
  | none => rw [z] at h; cases h
  | some s => rw [z] at h; cases s <;> cases h <;> rfl
theorem wl_nil {Q : List Ar → Env → Prop} (q : Q [] e) : WL P F np hot .nil e Q X := Wm.pure q
theorem wl_cons {m r : E} {Q : List Ar → Env → Prop} (h : WE P F np hot m e (fun a e1 => WL P F np hot r e1 (fun as e2 => Q (a :: as) e2) X) X) : WL P F np hot (.cons m r) e Q X :=
  Wm.bind (h.imp (fun a e1 h => Wm.bind (h.imp (fun as e2 q => Wm.pure q) fun _ _ _ x => x)) fun _ _ _ x => x)
/-- an operation on data -/
def OpQ (o : Op) (as : List Ar) (e : Env) (Q : Ar → Env → Prop) : Prop := ∃ ds, derefs e as = some ds ∧ ∃ r : Bool × D, opD o ds = some r ∧ Q (.v r.1 r.2) e
theorem we_opd {o : Op} {as : E} (h : WL P F np hot as e (fun xs e1 => OpQ o xs e1 Q) X) : WE P F np hot (.op o as) e Q X :=
  Wm.bind (h.imp (fun xs e1 ⟨ds, h1, r, h2, q⟩ => ⟨.ok (.v r.1 r.2) e1, by unfold opM; rw [h1]; show (match opD o ds with | some (w, d) => _ | none => _) = _; rw [h2], q⟩) fun _ _ _ x => x)
/-- an own operator -/
theorem we_opc {o : Op} {as : E} (h : WL P F np hot as e (fun xs e1 => ∃ c fs rest f, derefs e1 xs = some (.obj c fs :: rest) ∧ opD o (.obj c fs :: rest) = none ∧ ((dunder o).bind fun m => (P.cl c).meths.lookup m) = some f ∧ hot = false ∧ okArg P ((dunder o).getD 0) c rest = true ∧
    WC F np f xs e1 (fun a e2 => ∃ w d x, a = .v w d ∧ postD o d = some x ∧ Q (.v w x) e2) X) X) : WE P F np hot (.op o as) e Q X :=
  Wm.bind (h.imp (fun xs e1 ⟨c, fs, rest, f, h1, h2, h3, h4, h5, r, h6, q⟩ => by
    cases r with
    | ok a e2 =>
      obtain ⟨w, d, x, rfl, h7, q⟩ := q
      refine ⟨.ok (.v w x) e2, ?_, q⟩
      unfold opM
      simp only [h1, h2, h3, h4, h5, h6, turnM, h7]
      rfl
    | ex c' fs' e2 =>
      refine ⟨.ex c' fs' e2, ?_, q⟩
      unfold opM
      simp only [h1, h2, h3, h4, h5, h6, turnM]
      rfl) fun _ _ _ x => x)
/-- an operation: on data, or an own one -/
def OpX (P : Prog) (F : Callee) (np : Nat) (hot : Bool) (o : Op) (as : List Ar) (e : Env) (Q : Ar → Env → Prop) (X : XQ) : Prop := OpQ o as e Q ∨ ∃ c fs rest f, derefs e as = some (.obj c fs :: rest) ∧ opD o (.obj c fs :: rest) = none ∧ ((dunder o).bind fun m => (P.cl c).meths.lookup m) = some f ∧ hot = false ∧ okArg P ((dunder o).getD 0) c rest = true ∧
    WC F np f as e (fun a e2 => ∃ w d x, a = .v w d ∧ postD o d = some x ∧ Q (.v w x) e2) X
theorem we_op {o : Op} {as : E} (h : WL P F np hot as e (fun xs e1 => OpX P F np hot o xs e1 Q X) X) : WE P F np hot (.op o as) e Q X := by
  refine Wm.bind (h.imp (fun xs e1 q => ?_) fun _ _ _ x => x)
  rcases q with ⟨ds, h1, r, h2, q⟩ | ⟨c, fs, rest, f, h1, h2, h3, h4, h5, r, h6, q⟩
  · exact ⟨.ok (.v r.1 r.2) e1, by unfold opM; rw [h1]; show (match opD o ds with | some (w, d) => _ | none => _) = _; rw [h2], q⟩
  · cases r with
    | ok a e2 =>
      obtain ⟨w, d, x, rfl, h7, q⟩ := q
      refine ⟨.ok (.v w x) e2, ?_, q⟩
      unfold opM
      simp only [h1, h2, h3, h4, h5, h6, turnM, h7]
      rfl
    | ex c' fs' e2 =>
      refine ⟨.ex c' fs' e2, ?_, q⟩
      unfold opM
      simp only [h1, h2, h3, h4, h5, h6, turnM]
      rfl
theorem we_not {m : E} (h : WE P F np hot m e (fun a e1 => ∃ d b, deref e1 a = some d ∧ truD d = some b ∧ Q (.v false (.bl (!b))) e1) X) : WE P F np hot (.not m) e Q X := by
  have z : Wm (M.bind (tru (ev P F np hot m).o) fun b => M.pure (!b)) e (fun b e1 => Q (.v false (.bl b)) e1) X := by
    refine Wm.bind ?_
    obtain ⟨r, h, q⟩ := h
    cases r with
    | ok a e1 =>
      obtain ⟨d, b, h1, h2, q⟩ := q
      exact ⟨.ok b e1, by unfold tru; rw [h]; simp only [h1, h2, Option.map_some], Wm.pure q⟩
    | ex c fs e1 => exact ⟨.ex c fs e1, by unfold tru; rw [h], q⟩
  obtain ⟨r, z, q⟩ := z
  cases r with
  | ok b e1 => exact ⟨.ok (.v false (.bl b)) e1, by show boo _ e = _; unfold boo; rw [z], q⟩
  | ex c fs e1 => exact ⟨.ex c fs e1, by show boo _ e = _; unfold boo; rw [z], q⟩
theorem we_bool {a : Bool} {m : E} (h : WJ P F np hot a m e (fun b e1 => Q (.v false (.bl b)) e1) X) : WE P F np hot (.bool a m) e Q X := by
  obtain ⟨r, z, q⟩ := h
  cases r with
  | ok b e1 => exact ⟨.ok (.v false (.bl b)) e1, by show boo _ e = _; unfold boo; rw [z], q⟩
  | ex c fs e1 => exact ⟨.ex c fs e1, by show boo _ e = _; unfold boo; rw [z], q⟩
theorem wj_nil {a : Bool} {Q : Bool → Env → Prop} (q : Q a e) : WJ P F np hot a .nil e Q X := Wm.pure q
theorem wj_cons {a : Bool} {m r : E} {Q : Bool → Env → Prop} (h : WE P F np hot m e (fun v e1 => ∃ o b, v = .v o (.bl b) ∧ if b = a then WJ P F np hot a r e1 Q X else Q b e1) X) : WJ P F np hot a (.cons m r) e Q X :=
  Wm.bind (h.imp (fun v e1 ⟨o, b, h1, q⟩ => by
    subst h1
    show Wm (if (b == a) = true then (ev P F np hot r).j a else M.pure b) e1 Q X
    by_cases hb : b = a
    · rw [if_pos hb] at q; rw [if_pos (beq_iff_eq.mpr hb)]; exact q
    · rw [if_neg hb] at q; rw [if_neg (fun z => hb (beq_iff_eq.mp z))]; exact Wm.pure q) fun _ _ _ x => x)
theorem wt_bool {a : Bool} {m : E} {Q : Bool → Env → Prop} (h : WK P F np hot a m e Q X) : WT P F np hot (.bool a m) e Q X := h
theorem wk_nil {a : Bool} {Q : Bool → Env → Prop} (q : Q a e) : WK P F np hot a .nil e Q X := Wm.pure q
theorem wk_cons {a : Bool} {m r : E} {Q : Bool → Env → Prop} (h : WT P F np hot m e (fun b e1 => if b = a then WK P F np hot a r e1 Q X else Q b e1) X) : WK P F np hot a (.cons m r) e Q X :=
  Wm.bind (h.imp (fun b e1 q => by
    show Wm (if (b == a) = true then (ev P F np hot r).k a else M.pure b) e1 Q X
    by_cases hb : b = a
    · rw [if_pos hb] at q; rw [if_pos (beq_iff_eq.mpr hb)]; exact q
    · rw [if_neg hb] at q; rw [if_neg (fun z => hb (beq_iff_eq.mp z))]; exact Wm.pure q) fun _ _ _ x => x)
theorem wt_not {m : E} {Q : Bool → Env → Prop} (h : WT P F np hot m e (fun b e1 => Q (!b) e1) X) : WT P F np hot (.not m) e Q X :=
  Wm.bind (h.imp (fun b e1 q => Wm.pure q) fun _ _ _ x => x)
theorem wt_of {m : E} {Q : Bool → Env → Prop} (hm : (ev P F np hot m).t = tru (ev P F np hot m).o) (h : WE P F np hot m e (fun a e1 => ∃ d b, deref e1 a = some d ∧ truD d = some b ∧ Q b e1) X) : WT P F np hot m e Q X := by
  unfold WT
  rw [hm]
  obtain ⟨r, h, q⟩ := h
  cases r with
  | ok a e1 =>
    obtain ⟨d, b, h1, h2, q⟩ := q
    exact ⟨.ok b e1, by unfold tru; rw [h]; simp only [h1, h2, Option.map_some], q⟩
  | ex c fs e1 => exact ⟨.ex c fs e1, by unfold tru; rw [h], q⟩
theorem chain_ {o1 o2 : Op} {a b c : E} {Q : Bool → Env → Prop} (h : WE P F np hot a e (fun x e1 => WE P F np hot b e1 (fun y e2 => ∃ ds w t, derefs e2 [x, y] = some ds ∧ opD o1 ds = some (w, .bl t) ∧
    if t = true then WE P F np hot c e2 (fun z e3 => ∃ ds w t, derefs e3 [y, z] = some ds ∧ opD o2 ds = some (w, .bl t) ∧ Q t e3) X else Q false e2) X) X) : Wm (chainM o1 o2 (ev P F np hot a).o (ev P F np hot b).o (ev P F np hot c).o) e Q X := by
  refine Wm.bind (h.imp (fun x e1 h => Wm.bind (h.imp (fun y e2 ⟨ds, w, t, h1, h2, q⟩ => ?_) fun _ _ _ x => x)) fun _ _ _ x => x)
  unfold Wm
  simp only [h1]
  show ∃ r, (match opD o1 ds with | some (_, .bl true) => _ | some (_, .bl false) => _ | _ => _) = some r ∧ _
  rw [h2]
  cases t with
  | false => exact ⟨_, rfl, q⟩
  | true =>
    refine Wm.bind (Wm.imp (if_pos rfl ▸ q) (fun z e3 ⟨ds, w, t, h1, h2, q⟩ => ?_) fun _ _ _ x => x)
    unfold Wm
    simp only [h1]
    show ∃ r, (match opD o2 ds with | some (_, .bl r) => _ | _ => _) = some r ∧ _
    rw [h2]
    exact ⟨_, rfl, q⟩
theorem wt_chain {o1 o2 : Op} {a b c : E} {Q : Bool → Env → Prop} (h : WE P F np hot a e (fun x e1 => WE P F np hot b e1 (fun y e2 => ∃ ds w t, derefs e2 [x, y] = some ds ∧ opD o1 ds = some (w, .bl t) ∧
    if t = true then WE P F np hot c e2 (fun z e3 => ∃ ds w t, derefs e3 [y, z] = some ds ∧ opD o2 ds = some (w, .bl t) ∧ Q t e3) X else Q false e2) X) X) : WT P F np hot (.chain o1 o2 a b c) e Q X := chain_ h
theorem we_chain {o1 o2 : Op} {a b c : E} (h : WT P F np hot (.chain o1 o2 a b c) e (fun t e1 => Q (.v false (.bl t)) e1) X) : WE P F np hot (.chain o1 o2 a b c) e Q X := by
  obtain ⟨r, z, q⟩ := h
  cases r with
  | ok t1 e1 => exact ⟨.ok (.v false (.bl t1)) e1, by show boo _ e = _; unfold boo; show (match (ev P F np hot (.chain o1 o2 a b c)).t e with | some (.ok b1 e') => _ | some (.ex c1 fs e') => _ | none => _) = _; rw [z], q⟩
  | ex c1 fs e1 => exact ⟨.ex c1 fs e1, by show boo _ e = _; unfold boo; show (match (ev P F np hot (.chain o1 o2 a b c)).t e with | some (.ok b1 e') => _ | some (.ex c1 fs e') => _ | none => _) = _; rw [z], q⟩
theorem we_ite {c a b : E} (h : WT P F np hot c e (fun t e1 => if t = true then WE P F np hot a e1 Q X else WE P F np hot b e1 Q X) X) : WE P F np hot (.ite c a b) e Q X :=
  Wm.bind (h.imp (fun t e1 q => by cases t <;> exact q) fun _ _ _ x => x)
theorem we_call {f : Nat} {as : E} (h : WL P F np false as e (fun xs e1 => WC F np f xs e1 Q X) X) : WE P F np false (.call f as) e Q X := Wm.bind h
theorem we_meth {m : Nat} {o as : E} (h : WE P F np false o e (fun a e1 => ∃ c fs f, deref e1 a = some (.obj c fs) ∧ methP P c fs m = some f ∧ WL P F np false as e1 (fun xs e2 => WC F np f (a :: xs) e2 Q X) X) X) : WE P F np false (.meth m o as) e Q X :=
  Wm.bind (h.imp (fun a e1 ⟨c, fs, f, h1, h2, q⟩ => by
    unfold Wm onD
    simp only [h1, h2]
    exact Wm.bind q) fun _ _ _ x => x)
theorem we_make {c : Nat} {as : E} (h : WL P F np false as e (fun xs e1 => WM P F np c xs e1 Q X) X) : WE P F np false (.make c as) e Q X := Wm.bind h
theorem we_fld {f : Nat} {o : E} (h : WE P F np hot o e (fun a e1 => ∃ d x, deref e1 a = some d ∧ fldD P f d = some x ∧ Q (.v false x) e1) X) : WE P F np hot (.fld f o) e Q X :=
  Wm.bind (h.imp (fun a e1 ⟨d, x, h1, h2, q⟩ => by
    unfold Wm onD
    simp only [h1, h2]
    exact ⟨_, rfl, q⟩) fun _ _ _ x => x)
theorem we_isi {t : Ty} {o : E} (h : WE P F np hot o e (fun a e1 => ∃ d b, deref e1 a = some d ∧ isiD P t d = some b ∧ Q (.v false (.bl b)) e1) X) : WE P F np hot (.isi t o) e Q X :=
  Wm.bind (h.imp (fun a e1 ⟨d, x, h1, h2, q⟩ => by
    unfold Wm onD
    simp only [h1, h2]
    exact ⟨_, rfl, q⟩) fun _ _ _ x => x)
theorem we_mt {m : Mt} {o as : E} (h : WE P F np hot o e (fun a e1 => ∃ d, deref e1 a = some d ∧ mtT m d = true ∧ WL P F np hot as e1 (fun xs e2 => ∃ d ds r, deref e2 a = some d ∧ derefs e2 xs = some ds ∧ mtD m d ds = some r ∧ Q (.v r.1 r.2) e2) X) X) : WE P F np hot (.mt m o as) e Q X :=
  Wm.bind (h.imp (fun a e1 ⟨d, h1, h2, q⟩ => by
    unfold Wm onD
    simp only [h1, h2]
    exact Wm.bind (Wm.imp q (fun xs e2 ⟨d, ds, r, h1, h2, h3, q⟩ => ⟨.ok (.v r.1 r.2) e2, by unfold mtM; simp only [h1, h2, h3]; rfl, q⟩) fun _ _ _ x => x)) fun _ _ _ x => x)
theorem wp_nil {Q : Option Int → Env → Prop} (q : Q none e) : Wp P F np hot .nil e Q X := Wm.pure q
theorem wp_of {m : E} {Q : Option Int → Env → Prop} (hm : (ev P F np hot m).p = part (ev P F np hot m).o) (h : WE P F np hot m e (fun a e1 => ∃ i, deref e1 a = some (.int i) ∧ Q (some i) e1) X) : Wp P F np hot m e Q X := by
  unfold Wp
  rw [hm]
  obtain ⟨r, h, q⟩ := h
  cases r with
  | ok a e1 =>
    obtain ⟨i, h1, q⟩ := q
    exact ⟨.ok (some i) e1, by unfold part; rw [h]; simp only [h1], q⟩
  | ex c fs e1 => exact ⟨.ex c fs e1, by unfold part; rw [h], q⟩
theorem we_slice {a lo hi : E} (h : WE P F np hot a e (fun x e1 => Wp P F np hot lo e1 (fun l e2 => Wp P F np hot hi e2 (fun h e3 => ∃ d r, deref e3 x = some d ∧ sliceD l h d = some r ∧ Q (.v r.1 r.2) e3) X) X) X) : WE P F np hot (.slice a lo hi) e Q X :=
  Wm.bind (h.imp (fun x e1 h => Wm.bind (Wm.imp h (fun l e2 h => Wm.bind (Wm.imp h (fun hh e3 ⟨d, r, h1, h2, q⟩ => by
    unfold Wm onD
    simp only [h1, h2]
    exact ⟨_, rfl, q⟩) fun _ _ _ x => x)) fun _ _ _ x => x)) fun _ _ _ x => x)
theorem we_lst {as : E} (h : WL P F np hot as e (fun xs e1 => ∃ ds e2, settles np xs e1 = some (.ok ds e2) ∧ ds.length ≤ LIM ∧ Q (.v true (.lst ds)) e2) X) : WE P F np hot (.lst as) e Q X :=
  Wm.bind (h.imp (fun xs e1 ⟨ds, e2, h1, h2, q⟩ => Wm.bind ⟨_, h1, by
    show Wm (if ds.length ≤ LIM then _ else _) _ _ _
    rw [if_pos h2]; exact Wm.pure q⟩) fun _ _ _ x => x)
theorem we_tup {as : E} (h : WL P F np hot as e (fun xs e1 => ∃ ds e2, settles np xs e1 = some (.ok ds e2) ∧ ds.length ≤ LIM ∧ Q (.v false (.tup ds)) e2) X) : WE P F np hot (.tup as) e Q X :=
  Wm.bind (h.imp (fun xs e1 ⟨ds, e2, h1, h2, q⟩ => Wm.bind ⟨_, h1, by
    show Wm (if ds.length ≤ LIM then _ else _) _ _ _
    rw [if_pos h2]; exact Wm.pure q⟩) fun _ _ _ x => x)
theorem we_lrg {a b : E} (h : WE P F np false a e (fun x e1 => WE P F np false b e1 (fun y e2 => ∃ i j, derefs e2 [x, y] = some [.int i, .int j] ∧ (-(2 ^ 40) < i ∧ i < 2 ^ 40 ∧ -(2 ^ 40) < j ∧ j < 2 ^ 40 ∧ j - i ≤ 16777216) ∧ Q (.v true (.lst (rangeF i 1 (j - i).toNat))) e2) X) X) : WE P F np false (.lrg a b) e Q X :=
  Wm.bind (h.imp (fun x e1 h => Wm.bind (Wm.imp h (fun y e2 ⟨i, j, h1, h2, q⟩ => ⟨.ok (.v true (.lst (rangeF i 1 (j - i).toNat))) e2, by simp only [h1]; exact if_pos h2, q⟩) fun _ _ _ x => x)) fun _ _ _ x => x)
theorem we_exf {f i c : Nat} {fs : List (Nat × D)} {x : D} (h1 : e[i]? = some (.ex c fs)) (h2 : ((P.cl c).exf.getD []).contains f = true) (h3 : fs.lookup f = some x) (q : Q (.v false x) e) : WE P F np hot (.exf f i) e Q X :=
  ⟨.ok (.v false x) e, by show (match e[i]? with | some (.ex c fs) => _ | _ => _) = _; rw [h1]; show (if _ then _ else _) = _; rw [if_pos h2, h3]; rfl, q⟩
theorem we_exiC {k i c : Nat} {fs : List (Nat × D)} (h1 : e[i]? = some (.ex c fs)) (h2 : (P.cl c).exf.isNone = false) (h3 : (P.cl k).exf.isSome = true) (q : Q (.v false (.bl ((P.cl c).sup.contains k))) e) : WE P F np hot (.exi (.cls k) i) e Q X := by
  refine ⟨.ok (.v false (.bl ((P.cl c).sup.contains k))) e, ?_, q⟩
  show (match e[i]? with | some (.ex c fs) => _ | _ => _) = _
  rw [h1]
  show (if _ then _ else _) = _
  rw [h2]
  exact if_pos h3
theorem we_exiV {i c : Nat} {fs : List (Nat × D)} (h1 : e[i]? = some (.ex c fs)) (h2 : (P.cl c).exf.isNone = false) (q : Q (.v false (.bl true)) e) : WE P F np hot (.exi .ve i) e Q X := by
  refine ⟨.ok (.v false (.bl true)) e, ?_, q⟩
  show (match e[i]? with | some (.ex c fs) => _ | _ => _) = _
  rw [h1]
  show (if _ then _ else _) = _
  rw [h2]
  rfl
/-! ### calls -/
theorem wc {f : Nat} {as : List Ar} {ss outs : List Sl} {o : Bool} {d : D} {e2 : Env} (h1 : distinct (refs as) = true) (h2 : passed e as = some ss) (h3 : F f ss = some (.rt o d outs)) (h4 : given np as outs e = e2) (q : Q (.v o d) e2) : WC F np f as e Q X :=
  Wm.bind ⟨.ok as e, by unfold apart; rw [if_pos h1], .ok (.v o d) e2, by simp only [h2, h3, h4], q⟩
theorem wcx {f c : Nat} {fs : List (Nat × D)} {as : List Ar} {ss outs : List Sl} {e2 : Env} (h1 : distinct (refs as) = true) (h2 : passed e as = some ss) (h3 : F f ss = some (.ex c fs outs)) (h4 : given np as outs e = e2) (q : X c fs e2) : WC F np f as e Q X :=
  Wm.bind ⟨.ok as e, by unfold apart; rw [if_pos h1], .ex c fs e2, by simp only [h2, h3, h4], q⟩
theorem wm {c f : Nat} {as : List Ar} {ss outs : List Sl} {o : Bool} {d : D} {e2 : Env} (h0 : (P.cl c).init = some f) (h1 : distinct (refs as) = true) (h2 : passed e as = some ss) (h3 : F f (.ow (.obj c []) :: ss) = some (.rt o .non (.ow d :: outs))) (h4 : given np as outs e = e2) (q : Q (.v true d) e2) : WM P F np c as e Q X :=
  Wm.bind ⟨.ok as e, by unfold apart; rw [if_pos h1], .ok (.v true d) e2, by simp only [h0, h2, h3, h4], q⟩
theorem wmx {c f k : Nat} {fs : List (Nat × D)} {as : List Ar} {ss outs : List Sl} {s : Sl} {e2 : Env} (h0 : (P.cl c).init = some f) (h1 : distinct (refs as) = true) (h2 : passed e as = some ss) (h3 : F f (.ow (.obj c []) :: ss) = some (.ex k fs (s :: outs))) (h4 : given np as outs e = e2) (q : X k fs e2) : WM P F np c as e Q X :=
  Wm.bind ⟨.ok as e, by unfold apart; rw [if_pos h1], .ex k fs e2, by simp only [h0, h2, h3, h4], q⟩
/-! ### statements -/
def WS (P : Prog) (F : Callee) (np W : Nat) (s : S) (hot : Bool) (e : Env) (Q : Out → Prop) : Prop := ∃ o, evS P F np W s hot e = some o ∧ Q o
variable {W : Nat} {Z : Out → Prop}
abbrev XO (Z : Out → Prop) : XQ := fun c fs e => Z (.ex c fs e)
theorem okN_ {α : Type} {m : M α} {f : α → Env → Option Out} (h : Wm m e (fun a e1 => ∃ o, f a e1 = some o ∧ Z o) (XO Z)) : ∃ o, okN (m e) f = some o ∧ Z o := by
  obtain ⟨r, h, q⟩ := h
  rw [h]
  cases r with
  | ok a e1 => exact q
  | ex c fs e1 => exact ⟨_, rfl, q⟩
theorem ws_nop (q : Z (.nx e)) : WS P F np W .nop hot e Z := ⟨_, rfl, q⟩
theorem ws_pass (q : Z (.nx e)) : WS P F np W .pass hot e Z := ⟨_, rfl, q⟩
/-- what a row leaves for those behind it -/
def SeqQ (P : Prog) (F : Callee) (np W : Nat) (b : S) (hot : Bool) (Z : Out → Prop) : Out → Prop
  | .nx e1 => WS P F np W b hot e1 Z
  | r => Z r
theorem ws_seq {a b : S} (h : WS P F np W a hot e (SeqQ P F np W b hot Z)) : WS P F np W (.seq a b) hot e Z := by
  obtain ⟨o, h, q⟩ := h
  unfold WS
  simp only [evS, h]
  cases o <;> first | exact q | exact ⟨_, rfl, q⟩
theorem ws_asg {i : Nat} {m : E} (h : WE P F np hot m e (fun a e1 => ∃ d e2, (match a with | .v o d => some ((o, d), e1) | .r j => match settle np (.r j) e1 with | some (.ok x e2) => some ((false, x.2), e2) | _ => none) = some (d, e2) ∧ ∃ e3, putA np i d.1 d.2 e2 = some e3 ∧ Z (.nx e3)) (XO Z)) : WS P F np W (.asg (.nm i) m) hot e Z := by
  unfold WS
  simp only [evS]
  refine okN_ (Wm.imp h (fun a e1 ⟨d, e2, h1, e3, h2, q⟩ => ?_) fun _ _ _ x => x)
  cases a with
  | v o d' =>
    cases h1
    exact ⟨_, by simp only [h2]; rfl, q⟩
  | r j =>
    revert h1
    simp only
    cases hs : settle np (.r j) e1 with
    | none => intro h; cases h
    | some r =>
      cases r with
      | ex c fs e' => intro h; cases h
      | ok x e' =>
        intro h1
        cases h1
        exact ⟨_, by show (putA np i false x.2 _).map _ = _; rw [h2]; rfl, q⟩
theorem ws_asgT {is : List Nat} {m : E} (h : WE P F np false m e (fun a e1 => ∃ ds e2, deref e1 a = some (.tup ds) ∧ putTs np is ds e1 = some e2 ∧ Z (.nx e2)) (XO Z)) : WS P F np W (.asg (.tp is) m) false e Z := by
  unfold WS
  simp only [evS]
  refine okN_ (Wm.imp h (fun a e1 ⟨ds, e2, h1, h2, q⟩ => ⟨_, by simp only [h1, h2]; rfl, q⟩) fun _ _ _ x => x)
theorem ws_set {i : Nat} {k m : E} (h : WE P F np hot m e (fun a e1 => ∃ d e2, settle np a e1 = some (.ok d e2) ∧ ∃ x0, e2[i]? = some (.ow x0) ∧ WE P F np hot k e2 (fun b e3 => ∃ kd x y, deref e3 b = some kd ∧ e3[i]? = some (.ow x) ∧ setD kd d.2 x = some y ∧ Z (.nx (e3.set i (.ow y)))) (XO Z)) (XO Z)) : WS P F np W (.set i k m) hot e Z := by
  unfold WS
  simp only [evS]
  refine okN_ (Wm.imp h (fun a e1 ⟨d, e2, h1, x0, h2, h3⟩ => ?_) fun _ _ _ x => x)
  rw [h1]
  show ∃ o, (match e2[i]? with | some (.ow _) => _ | _ => _) = some o ∧ _
  rw [h2]
  exact okN_ (Wm.imp h3 (fun b e3 ⟨kd, x, y, h4, h5, h6, q⟩ => ⟨_, by simp only [h4, h5, h6]; rfl, q⟩) fun _ _ _ x => x)
theorem ws_fset {i f : Nat} {m : E} (h : WE P F np hot m e (fun a e1 => ∃ d e2 c fs, settle np a e1 = some (.ok d e2) ∧ e2[i]? = some (.ow (.obj c fs)) ∧ (fs.length < 900 && (P.cl c).free f) = true ∧ Z (.nx (e2.set i (.ow (.obj c (putF f d.2 fs)))))) (XO Z)) : WS P F np W (.fset i f m) hot e Z := by
  unfold WS
  simp only [evS]
  refine okN_ (Wm.imp h (fun a e1 ⟨d, e2, c, fs, h1, h2, h3, q⟩ => ?_) fun _ _ _ x => x)
  rw [h1]
  show ∃ o, (match e2[i]? with | some (.ow (.obj c fs)) => _ | _ => _) = some o ∧ _
  rw [h2]
  exact ⟨_, by simp only [h3]; rfl, q⟩
theorem ws_app {i : Nat} {m : E} {x0 : List D} (h0 : e[i]? = some (.ow (.lst x0))) (h : WE P F np hot m e (fun a e1 => ∃ d e2 xs, settle np a e1 = some (.ok d e2) ∧ e2[i]? = some (.ow (.lst xs)) ∧ xs.length < LIM ∧ Z (.nx (e2.set i (.ow (.lst (xs ++ [d.2])))))) (XO Z)) : WS P F np W (.app i m) hot e Z := by
  unfold WS
  simp only [evS, h0]
  refine okN_ (Wm.imp h (fun a e1 ⟨d, e2, xs, h1, h2, h3, q⟩ => ?_) fun _ _ _ x => x)
  rw [h1]
  show ∃ o, (match e2[i]? with | some (.ow (.lst xs)) => _ | _ => _) = some o ∧ _
  rw [h2]
  exact ⟨_, by simp only [h3]; rfl, q⟩
theorem ws_expr {m : E} (h : WE P F np hot m e (fun _ e1 => Z (.nx e1)) (XO Z)) : WS P F np W (.expr m) hot e Z := by
  unfold WS
  simp only [evS]
  exact okN_ (Wm.imp h (fun a e1 q => ⟨_, rfl, q⟩) fun _ _ _ x => x)
theorem ws_ret {m : E} (h : WE P F np hot m e (fun a e1 => match a with
    | .v o d => Z (.rt o d e1)
    | .r i => ∃ o, (if i < np then okN (settle np (.r i) e1) fun d e2 => some (.rt false d.2 e2) else match e1[i]? with
      | some (.ow d) => some (.rt true d (e1.set i .un))
      | _ => none) = some o ∧ Z o) (XO Z)) : WS P F np W (.ret m) hot e Z := by
  unfold WS
  simp only [evS]
  refine okN_ (Wm.imp h (fun a e1 q => ?_) fun _ _ _ x => x)
  cases a with
  | v o d => exact ⟨_, rfl, q⟩
  | r i => exact q
theorem ws_retN (q : Z (.rt false .non e)) : WS P F np W .retN hot e Z := ⟨_, rfl, q⟩
theorem ws_ite {c : E} {a b : S} (h : WT P F np hot c e (fun t e1 => if t = true then WS P F np W a hot e1 Z else WS P F np W b hot e1 Z) (XO Z)) : WS P F np W (.ite c a b) hot e Z := by
  unfold WS
  simp only [evS]
  exact okN_ (Wm.imp h (fun t e1 q => by cases t <;> exact q) fun _ _ _ x => x)
theorem ws_raise {c : Nat} {as : E} {fs : List Nat} (hc : (P.cl c).exf = some fs) (h : WL P F np false as e (fun xs e1 => ∃ ds e2, settles np xs e1 = some (.ok ds e2) ∧ fs.length = ds.length ∧ Z (.ex c (fs.zip ds).reverse e2)) (XO Z)) : WS P F np W (.raise c as) false e Z := by
  unfold WS
  simp only [evS, hc]
  refine okN_ (Wm.imp h (fun xs e1 ⟨ds, e2, h1, h2, q⟩ => ⟨.ex c (fs.zip ds).reverse e2, ?_, q⟩) fun _ _ _ x => x)
  rw [h1]
  exact if_pos h2
/-- a loop: Inv over what is left -/
theorem forL_inv {put : D → Env → Option Env} {body : Env → Option Out} (I : List D → Env → Prop) (Zr : Out → Prop) (hb : ∀ x r e, I (x :: r) e → ∃ e1 o, put x e = some e1 ∧ body e1 = some o ∧ match o with
    | .nx e2 => I r e2
    | .ct e2 => I r e2
    | .bk e2 => Zr (.bk e2)
    | .rt o d e2 => Zr (.rt o d e2)
    | .ex c fs e2 => Zr (.ex c fs e2)) (h0 : ∀ e, I [] e → Zr (.nx e)) : ∀ (xs : List D) (e : Env), I xs e → ∃ o, forL put body xs e = some o ∧ Zr o
  | [], e, h => ⟨_, rfl, h0 e h⟩
  | x :: r, e, h => by
    obtain ⟨e1, o, h1, h2, q⟩ := hb x r e h
    unfold forL
    simp only [h1, h2]
    cases o with
    | nx e2 => exact forL_inv I Zr hb h0 r e2 q
    | ct e2 => exact forL_inv I Zr hb h0 r e2 q
    | bk e2 => exact ⟨_, rfl, q⟩
    | rt o d e2 => exact ⟨_, rfl, q⟩
    | ex c fs e2 => exact ⟨_, rfl, q⟩
theorem ws_for {t : Tg} {w : Io} {src : E} {b : S} (h : WL P F np false src e (fun as e1 => ∃ xs e2 o, walkM w as e1 = some (.ok xs e2) ∧ forL (putT np t) (evS P F np W b false) xs e2 = some o ∧ Z (outL (mapOut (unhold e1 as) o))) (XO Z)) : WS P F np W (.for_ t w src b) false e Z := by
  unfold WS
  simp only [evS]
  refine okN_ (Wm.imp h (fun as e1 ⟨xs, e2, o, h1, h2, q⟩ => ⟨outL (mapOut (unhold e1 as) o), ?_, q⟩) fun _ _ _ x => x)
  simp only [h1, h2]
  rfl
/-- a comprehension's turns, one answer each -/
theorem we_lc {own : List Nat} {t : Tg} {w : Io} {src c m : E} (h : WL P F np false src e (fun as e1 => ∃ xs e2 ds e3, walkM w as e1 = some (.ok xs e2) ∧ lcL (lcT np own t (ev P F np false c).t (ev P F np false m).o) xs [] e2 = some (.ok ds e3) ∧ ds.length ≤ LIM ∧ Q (.v true (.lst ds)) (unhold e1 as (backE own e2 e3))) X) : WE P F np false (.lc own t w src c m) e Q X :=
  Wm.bind (h.imp (fun as e1 ⟨xs, e2, ds, e3, h1, h2, h3, q⟩ => ⟨.ok (.v true (.lst ds)) (unhold e1 as (backE own e2 e3)), by
    simp only [h1, h2]
    exact if_pos h3, q⟩) fun _ _ _ x => x)
theorem lcL_inv {body : D → M (Option D)} (A : List D → List D → Env → Prop) (hb : ∀ x r acc e, A (x :: r) acc e → ∃ o e1, body x e = some (.ok o e1) ∧ A r (match o with | some d => d :: acc | none => acc) e1) : ∀ (xs acc : List D) (e : Env), A xs acc e → ∃ ds e1, lcL body xs acc e = some (.ok ds.reverse e1) ∧ A [] ds e1
  | [], acc, e, h => ⟨acc, e, rfl, h⟩
  | x :: r, acc, e, h => by
    obtain ⟨o, e1, h1, q⟩ := hb x r acc e h
    unfold lcL
    cases o with
    | none => simp only [h1]; exact lcL_inv A hb r acc e1 q
    | some d => simp only [h1]; exact lcL_inv A hb r (d :: acc) e1 q
theorem lcT_ok {own : List Nat} {t : Tg} {c m : E} {x : D} {Q : Option D → Env → Prop} {e0 e1 : Env} (h1 : wipeE own e = some e0) (h2 : putT np t x e0 = some e1) (h : WT P F np false c e1 (fun b e2 => if b = true then WE P F np false m e2 (fun a e3 => ∃ d e4, settle np a e3 = some (.ok d e4) ∧ Q (some d.2) e4) (fun _ _ _ => False) else Q none e2) (fun _ _ _ => False)) :
    ∃ o e5, lcT np own t (ev P F np false c).t (ev P F np false m).o x e = some (.ok o e5) ∧ Q o e5 := by
  obtain ⟨r, h3, q⟩ := h
  unfold lcT
  simp only [h1, h2, h3]
  cases r with
  | ex => exact q.elim
  | ok b e2 =>
    cases b with
    | false => exact ⟨_, _, rfl, q⟩
    | true =>
      obtain ⟨r, h4, q⟩ : WE P F np false m e2 _ _ := q
      simp only [h4]
      cases r with
      | ex => exact q.elim
      | ok a e3 =>
        obtain ⟨d, e4, h5, q⟩ := q
        simp only [h5]
        exact ⟨_, _, rfl, q⟩
theorem wt_nil {Q : Bool → Env → Prop} (q : Q true e) : WT P F np hot .nil e Q X := Wm.pure q
/-- try -/
theorem ws_try {b s : S} {c i : Nat} (h : WS P F np W b false e (fun o => match o with
    | .ex k fs e1 => (P.cl k).exf.isNone = false ∧ (P.cl k).sup.contains c = true ∧ e1[i]? = some .un ∧ WS P F np W s true (e1.set i (.ex k fs)) (fun o => (match o with | .ex _ _ _ => False | _ => True) ∧ ((outE o).set i .un).all notEx = true ∧ Z (mapOut (fun e2 => e2.set i .un) o))
    | o => Z o)) : WS P F np W (.try_ b c i s) false e Z := by
  obtain ⟨o, h, q⟩ := h
  unfold WS
  simp only [evS, h]
  cases o with
  | ex k fs e1 =>
    obtain ⟨h1, h2, h3, o, h4, h5, h6, q⟩ := q
    simp only [h1, h2, h3, h4]
    cases o with
    | ex => exact h5.elim
    | _ => exact ⟨_, by show (if _ then _ else _) = _; exact if_pos h6, q⟩
  | _ => exact ⟨_, rfl, q⟩
end
/-- a def's run -/
def CQ (r : Option CR) (Q : CR → Prop) : Prop := ∃ x, r = some x ∧ Q x
def TopQ (np : Nat) (Q : CR → Prop) : Out → Prop
  | .rt o d e => Q (.rt o d (e.take np))
  | .nx e => Q (.rt false .non (e.take np))
  | .ex c fs e => Q (.ex c fs (e.take np))
  | _ => False
theorem call_q {P : Prog} {W n f np ns : Nat} {b : S} {ss : List Sl} {Q : CR → Prop} (hf : P.fns[f]? = some ⟨np, ns, b⟩) (hl : ss.length = np)
    (h : WS P (callF P W n) np W b false (ss ++ List.replicate (ns - np) .un) (TopQ np Q)) : CQ (callF P W (n + 1) f ss) Q := by
  obtain ⟨r, h, q⟩ := h
  unfold callF CQ
  simp only [hf, hl, if_true, h]
  cases r with
  | rt o' d' e => exact ⟨_, rfl, q⟩
  | nx e => exact ⟨_, rfl, q⟩
  | bk e => exact q.elim
  | ct e => exact q.elim
  | ex c fs e => exact ⟨_, rfl, q⟩
theorem cq_eq {r : Option CR} {x : CR} (h : CQ r fun y => y = x) : r = some x := by
  obtain ⟨y, h, rfl⟩ := h
  exact h
theorem CQ.imp {r : Option CR} {Q Q' : CR → Prop} (h : CQ r Q) (z : ∀ x, Q x → Q' x) : CQ r Q' := by
  obtain ⟨x, h, q⟩ := h
  exact ⟨x, h, z x q⟩
theorem top_rt {np : Nat} {Q : CR → Prop} {o : Bool} {d : D} {e : Env} (h : Q (.rt o d (e.take np))) : TopQ np Q (.rt o d e) := h
theorem top_nx {np : Nat} {Q : CR → Prop} {e : Env} (h : Q (.rt false .non (e.take np))) : TopQ np Q (.nx e) := h
theorem top_ex {np : Nat} {Q : CR → Prop} {c : Nat} {fs : List (Nat × D)} {e : Env} (h : Q (.ex c fs (e.take np))) : TopQ np Q (.ex c fs e) := h
theorem op_q {P : Prog} {F : Callee} {np : Nat} {hot : Bool} {X : XQ} {o : Op} {as : List Ar} {ds : List D} {e : Env} {Q : Ar → Env → Prop} {w : Bool} {d : D} (h1 : derefs e as = some ds) (h2 : opD o ds = some (w, d)) (q : Q (.v w d) e) : OpX P F np hot o as e Q X := .inl ⟨ds, h1, (w, d), h2, q⟩
theorem mul_q {i j : Int} (h : -(2 ^ 64) < i ∧ i < 2 ^ 64) : opD .mul [.int i, .int j] = some (false, .int (i * j)) := by
  show mulD (.int i) (.int j) = _
  unfold mulD
  simp only [if_pos (Or.inl h), i_]
theorem mul_q' {i j : Int} (h : -(2 ^ 64) < j ∧ j < 2 ^ 64) : opD .mul [.int i, .int j] = some (false, .int (i * j)) := by
  show mulD (.int i) (.int j) = _
  unfold mulD
  simp only [if_pos (Or.inr h), i_]
theorem mod_q {i j : Int} (h : 0 < j) : opD .mod [.int i, .int j] = some (false, .int (i % j)) := by
  show modD (.int i) (.int j) = _
  unfold modD
  simp only [if_pos h, i_]
theorem log_lt {j : Int} (h : 0 < j) (h2 : j < 2 ^ 64) : j.natAbs.log2 < 9000 := by
  have : j.natAbs < 2 ^ 64 := by omega
  have h3 := (Nat.log2_lt (n := j.natAbs) (k := 64) (by omega)).mpr this
  omega
theorem fdiv_q {i j : Int} (h : 0 < j) (h2 : j < 2 ^ 64) : opD .fdiv [.int i, .int j] = some (false, .int (i / j)) := by
  show fdivD (.int i) (.int j) = _
  unfold fdivD
  simp only [if_pos (show 0 < j ∧ j.natAbs.log2 < 9000 from ⟨h, log_lt h h2⟩), i_]
def easy : Op → Bool
  | .mul => false
  | .fdiv => false
  | .mod => false
  | .pow => false
  | _ => true
theorem op_e {P : Prog} {F : Callee} {np : Nat} {hot : Bool} {X : XQ} {o : Op} {as : List Ar} {ds : List D} {e : Env} {Q : Ar → Env → Prop} {w : Bool} {d : D} (h0 : easy o = true) (h1 : derefs e as = some ds) (h2 : opD o ds = some (w, d)) (q : Q (.v w d) e) : OpX P F np hot o as e Q X := op_q h1 h2 q
theorem op_c {P : Prog} {F : Callee} {np : Nat} {X : XQ} {o : Op} {as : List Ar} {e e2 : Env} {Q : Ar → Env → Prop} {c f : Nat} {fs : List (Nat × D)} {rest : List D} {ss outs : List Sl} {w : Bool} {d x : D} (h1 : derefs e as = some (.obj c fs :: rest)) (h2 : opD o (.obj c fs :: rest) = none) (h3 : ((dunder o).bind fun m => (P.cl c).meths.lookup m) = some f) (h5 : okArg P ((dunder o).getD 0) c rest = true)
    (h6 : distinct (refs as) = true) (h7 : passed e as = some ss) (h8 : F f ss = some (.rt w d outs)) (h9 : given np as outs e = e2) (h10 : postD o d = some x) (q : Q (.v w x) e2) : OpX P F np false o as e Q X :=
  .inr ⟨c, fs, rest, f, h1, h2, h3, rfl, h5, wc h6 h7 h8 h9 ⟨w, d, x, rfl, h10, q⟩⟩
theorem ite_t {c : Prop} [Decidable c] {A B : Prop} (hc : c) (h : A) : if c then A else B := by rw [if_pos hc]; exact h
theorem ite_f {c : Prop} [Decidable c] {A B : Prop} (hc : ¬ c) (h : B) : if c then A else B := by rw [if_neg hc]; exact h
theorem itt {A B : Prop} (h : A) : if true = true then A else B := h
theorem iff_ {A B : Prop} (h : A) : if false = false then A else B := h
theorem itf {A B : Prop} (h : B) : if false = true then A else B := h
theorem ift_ {A B : Prop} (h : B) : if true = false then A else B := h
theorem wjv {o' b' a : Bool} {A B : Bool → Prop} (h : if b' = a then A b' else B b') : ∃ o b, Ar.v o' (.bl b') = .v o (.bl b) ∧ if b = a then A b else B b := ⟨_, _, rfl, h⟩
theorem ite_b {b : Bool} {A B : Prop} (hc : b = false) (h : B) : if b = true then A else B := by subst hc; exact h
theorem ite_b' {b : Bool} {A B : Prop} (hc : b = true) (h : B) : if b = false then A else B := by subst hc; exact h
theorem meth3 {c m : Nat} {P : Prog} {fs : List (Nat × D)} {f : Nat} {a : Option D} {Q : Prop} (h1 : a = some (.obj c fs)) (h2 : methP P c fs m = some f) (q : Q) : ∃ c fs f, a = some (.obj c fs) ∧ methP P c fs m = some f ∧ Q := ⟨c, fs, f, h1, h2, q⟩
theorem fset_q {P : Prog} {np i f c : Nat} {a : Ar} {e1 e2 e3 : Env} {d : Bool × D} {fs : List (Nat × D)} {Z : Out → Prop} (h1 : settle np a e1 = some (.ok d e2)) (h2 : e2[i]? = some (.ow (.obj c fs))) (h3 : (fs.length < 900 && (P.cl c).free f) = true) (h4 : e2.set i (.ow (.obj c (putF f d.2 fs))) = e3) (q : Z (.nx e3)) :
    ∃ d e2 c fs, settle np a e1 = some (.ok d e2) ∧ e2[i]? = some (.ow (.obj c fs)) ∧ (fs.length < 900 && (P.cl c).free f) = true ∧ Z (.nx (e2.set i (.ow (.obj c (putF f d.2 fs))))) := ⟨d, e2, c, fs, h1, h2, h3, h4 ▸ q⟩
theorem set1 {P : Prog} {F : Callee} {np i : Nat} {hot : Bool} {a : Ar} {e1 e2 : Env} {d : Bool × D} {x0 : D} {k : E} {Q : Bool × D → Ar → Env → Prop} {X : XQ} (h1 : settle np a e1 = some (.ok d e2)) (h2 : e2[i]? = some (.ow x0)) (q : WE P F np hot k e2 (Q d) X) : ∃ d e2, settle np a e1 = some (.ok d e2) ∧ ∃ x0, e2[i]? = some (.ow x0) ∧ WE P F np hot k e2 (Q d) X := ⟨d, e2, h1, x0, h2, q⟩
theorem set2 {i : Nat} {b : Ar} {e3 e4 : Env} {d : D} {kd x y : D} {Z : Out → Prop} (h1 : deref e3 b = some kd) (h2 : e3[i]? = some (.ow x)) (h3 : setD kd d x = some y) (h4 : e3.set i (.ow y) = e4) (q : Z (.nx e4)) : ∃ kd x y, deref e3 b = some kd ∧ e3[i]? = some (.ow x) ∧ setD kd d x = some y ∧ Z (.nx (e3.set i (.ow y))) := ⟨kd, x, y, h1, h2, h3, h4 ▸ q⟩
theorem WS.imp {P : Prog} {F : Callee} {np W : Nat} {hot : Bool} {s : S} {e : Env} {Z Z' : Out → Prop} (h : WS P F np W s hot e Z) (q : ∀ o, Z o → Z' o) : WS P F np W s hot e Z' := by
  obtain ⟨o, h, z⟩ := h
  exact ⟨o, h, q o z⟩
theorem pow_q : opD .pow [.int 10, .int 18] = some (false, .int (10 ^ 18)) := by
  simp only [opD, op2D, powD, i_]
  rw [if_pos (by decide)]
  rfl
theorem walk1D {i : Int} (h : -(2 ^ 40) < i ∧ i < 2 ^ 40) : walkD .range1 [.int i] = some (rangeF 0 1 i.toNat) := if_pos h
theorem walk2D {i j : Int} (h : -(2 ^ 40) < i ∧ i < 2 ^ 40 ∧ -(2 ^ 40) < j ∧ j < 2 ^ 40) : walkD .range2 [.int i, .int j] = some (rangeF i 1 (j - i).toNat) := if_pos h
theorem walk_1 {i : Int} {k : Nat} {e : Env} (h : -(2 ^ 40) < i ∧ i < 2 ^ 40) (hk : i.toNat = k) : walkM .range1 [.v false (.int i)] e = some (.ok (rangeF 0 1 k) e) := by
  subst hk
  have z := walk1D h
  unfold walkM
  simp only [derefs, deref, z]
  rfl
theorem walk_2 {i j : Int} {k : Nat} {e : Env} (h : -(2 ^ 40) < i ∧ i < 2 ^ 40 ∧ -(2 ^ 40) < j ∧ j < 2 ^ 40) (hk : (j - i).toNat = k) : walkM .range2 [.v false (.int i), .v false (.int j)] e = some (.ok (rangeF i 1 k) e) := by
  subst hk
  have z := walk2D h
  unfold walkM
  simp only [derefs, deref, z]
  rfl
theorem two {α β : Type} {d : α} {x : β} {a : Option α} {f : α → Option β} {Q : β → Prop} (h1 : a = some d) (h2 : f d = some x) (q : Q x) : ∃ d x, a = some d ∧ f d = some x ∧ Q x := ⟨d, x, h1, h2, q⟩
theorem stl {np : Nat} {xs : List Ar} {e1 e2 : Env} {ds : List D} {Q : List D → Env → Prop} (h1 : settles np xs e1 = some (.ok ds e2)) (h2 : Nat.ble ds.length LIM = true) (q : Q ds e2) : ∃ ds e2, settles np xs e1 = some (.ok ds e2) ∧ ds.length ≤ LIM ∧ Q ds e2 := ⟨ds, e2, h1, Nat.le_of_ble_eq_true h2, q⟩
theorem seq_nx {P : Prog} {F : Callee} {np W : Nat} {hot : Bool} {b : S} {Z : Out → Prop} {e : Env} (h : WS P F np W b hot e Z) : SeqQ P F np W b hot Z (.nx e) := h
theorem seq_rt {P : Prog} {F : Callee} {np W : Nat} {hot : Bool} {b : S} {Z : Out → Prop} {o : Bool} {d : D} {e : Env} (h : Z (.rt o d e)) : SeqQ P F np W b hot Z (.rt o d e) := h
theorem seq_ex {P : Prog} {F : Callee} {np W : Nat} {hot : Bool} {b : S} {Z : Out → Prop} {c : Nat} {fs : List (Nat × D)} {e : Env} (h : Z (.ex c fs e)) : SeqQ P F np W b hot Z (.ex c fs e) := h
theorem asg_v {np i : Nat} {o : Bool} {d : D} {e1 e3 : Env} {Z : Env → Prop} (h : putA np i o d e1 = some e3) (q : Z e3) :
    ∃ d' e2, (match Ar.v o d with | .v o d => some ((o, d), e1) | .r j => match settle np (.r j) e1 with | some (.ok x e2) => some ((false, x.2), e2) | _ => none) = some (d', e2) ∧ ∃ e3, putA np i d'.1 d'.2 e2 = some e3 ∧ Z e3 := ⟨_, _, rfl, _, h, q⟩
end Gz
namespace Gz
open Gal
def Fr (s : Sl) : Prop := s = .un ∨ ∃ d, s = .va d
theorem lcL_fm {body : D → M (Option D)} {env : Sl → Env} {f : D → Option D} : ∀ {xs : List D}, (∀ x ∈ xs, ∀ s, Fr s → ∃ o e, body x (env s) = some (.ok o e) ∧ o = f x ∧ ∃ s', Fr s' ∧ e = env s') → ∀ (acc : List D) (s : Sl), Fr s → ∃ s', Fr s' ∧ lcL body xs acc (env s) = some (.ok (acc.reverse ++ xs.filterMap f) (env s'))
  | [], _, acc, s, hs => ⟨s, hs, by simp [lcL]⟩
  | x :: r, hb, acc, s, hs => by
    obtain ⟨o, e, h1, rfl, s', hs', rfl⟩ := hb x (List.mem_cons_self ..) s hs
    have ih := fun acc => lcL_fm (xs := r) (fun y hy => hb y (List.mem_cons_of_mem _ hy)) acc s' hs'
    unfold lcL
    cases q : f x with
    | none =>
      obtain ⟨s2, h2, h3⟩ := ih acc
      refine ⟨s2, h2, ?_⟩
      simp only [h1, q]
      rw [h3, List.filterMap_cons_none q]
    | some d =>
      obtain ⟨s2, h2, h3⟩ := ih (d :: acc)
      refine ⟨s2, h2, ?_⟩
      simp only [h1, q]
      rw [h3, List.filterMap_cons_some q]
      simp
theorem boolsD_map : ∀ bs : List Bool, boolsD (bs.map D.bl) = some bs
  | [] => rfl
  | b :: bs => by
    show (boolsD (bs.map D.bl)).map (b :: ·) = _
    rw [boolsD_map bs]; rfl
theorem strsD_map : ∀ bs : List (List Nat), strsD (bs.map D.str) = some bs
  | [] => rfl
  | b :: bs => by
    show (strsD (bs.map D.str)).map (b :: ·) = _
    rw [strsD_map bs]; rfl
theorem intsD_map : ∀ bs : List Int, intsD (bs.map D.int) = some bs
  | [] => rfl
  | b :: bs => by
    show (intsD (bs.map D.int)).map (b :: ·) = _
    rw [intsD_map bs]; rfl
theorem lcL_f {α : Type} {body : D → M (Option D)} {env : Sl → Env} {g : α → D} {f : α → Option D} : ∀ {xs : List α}, (∀ x ∈ xs, ∀ s, Fr s → ∃ o e, body (g x) (env s) = some (.ok o e) ∧ o = f x ∧ ∃ s', Fr s' ∧ e = env s') → ∀ (acc : List D) (s : Sl), Fr s → ∃ s', Fr s' ∧ lcL body (xs.map g) acc (env s) = some (.ok (acc.reverse ++ xs.filterMap f) (env s'))
  | [], _, acc, s, hs => ⟨s, hs, by simp [lcL]⟩
  | x :: r, hb, acc, s, hs => by
    obtain ⟨o, e, h1, rfl, s', hs', rfl⟩ := hb x (List.mem_cons_self ..) s hs
    have ih := fun acc => lcL_f (xs := r) (fun y hy => hb y (List.mem_cons_of_mem _ hy)) acc s' hs'
    rw [List.map_cons]
    unfold lcL
    cases q : f x with
    | none =>
      obtain ⟨s2, h2, h3⟩ := ih acc
      refine ⟨s2, h2, ?_⟩
      simp only [h1, q]
      rw [h3, List.filterMap_cons_none q]
    | some d =>
      obtain ⟨s2, h2, h3⟩ := ih (d :: acc)
      refine ⟨s2, h2, ?_⟩
      simp only [h1, q]
      rw [h3, List.filterMap_cons_some q]
      simp
theorem lcL_m {α : Type} {body : D → M (Option D)} {env : Sl → Env} {g : α → D} {f : α → D} {xs : List α} (hb : ∀ x ∈ xs, ∀ s, Fr s → ∃ o e, body (g x) (env s) = some (.ok o e) ∧ o = some (f x) ∧ ∃ s', Fr s' ∧ e = env s') : ∃ s', Fr s' ∧ lcL body (xs.map g) [] (env .un) = some (.ok (xs.map f) (env s')) := by
  obtain ⟨s', h1, h2⟩ := lcL_f (f := fun x => some (f x)) hb [] .un (.inl rfl)
  refine ⟨s', h1, ?_⟩
  rw [h2, List.reverse_nil, List.nil_append]
  congr 2
  exact congrFun List.filterMap_eq_map' xs
theorem wipe_fr {i : Nat} {e : Env} (h : ∃ s, e[i]? = some s ∧ Fr s) : wipeE [i] e = some (e.set i .un) := by
  obtain ⟨s, h, q⟩ := h
  unfold wipeE
  rw [if_pos]
  · rfl
  · simp only [List.all_cons, List.all_nil, h]
    rcases q with rfl | ⟨d, rfl⟩ <;> rfl
end Gz
set_option Elab.async false
set_option linter.all false
set_option maxRecDepth 100000
set_option maxHeartbeats 400000
local macro_rules | `(tactic| walk_at "gz_nr") => `(tactic| (first | (simp only [Gal.putA, Gal.putTs, List.getElem?_cons_succ, List.getElem?_cons_zero, List.set_cons_succ, List.set_cons_zero, Nat.reduceLT, Nat.reduceAdd, Gal.given, Gal.frz, List.append_nil, List.cons_append, List.nil_append, List.replicate_succ, List.replicate_zero, Nat.reduceSub, reduceIte, ↓reduceIte, Bool.false_eq_true, if_true, if_false, Gal.backE, Gal.unhold, Gal.hold, List.foldl, List.getD_cons_succ, List.getD_cons_zero] <;> exact rfl) | exact rfl))
local macro_rules | `(tactic| walk_at "gz_s1") => `(tactic| (first | ((with_reducible apply Gz.two); (focus exact rfl); (focus exact rfl)) | ((with_reducible apply Gz.stl); (focus (simp only [Gal.putA, Gal.putTs, List.getElem?_cons_succ, List.getElem?_cons_zero, List.set_cons_succ, List.set_cons_zero, Nat.reduceLT, Nat.reduceAdd, Gal.given, Gal.frz, List.append_nil, List.cons_append, List.nil_append, List.replicate_succ, List.replicate_zero, Nat.reduceSub, reduceIte, ↓reduceIte, Bool.false_eq_true, if_true, if_false, Gal.backE, Gal.unhold, Gal.hold, List.foldl, List.getD_cons_succ, List.getD_cons_zero, Gal.settles, Gal.settle] <;> exact rfl)); (focus exact rfl)) | ((with_reducible apply Gz.asg_v); (focus (simp only [Gal.putA, Gal.putTs, List.getElem?_cons_succ, List.getElem?_cons_zero, List.set_cons_succ, List.set_cons_zero, Nat.reduceLT, Nat.reduceAdd, Gal.given, Gal.frz, List.append_nil, List.cons_append, List.nil_append, List.replicate_succ, List.replicate_zero, Nat.reduceSub, reduceIte, ↓reduceIte, Bool.false_eq_true, if_true, if_false, Gal.backE, Gal.unhold, Gal.hold, List.foldl, List.getD_cons_succ, List.getD_cons_zero] <;> exact rfl))) | ((with_reducible apply Gz.op_e); (focus exact rfl); (focus exact rfl); (focus exact rfl)) | with_reducible refine Gz.ws_seq ?_ | with_reducible refine Gz.seq_nx ?_ | with_reducible refine Gz.seq_rt ?_ | with_reducible refine Gz.seq_ex ?_ | ((with_reducible apply Gz.we_var); (focus exact rfl)) | with_reducible refine Gz.we_con ?_ | with_reducible refine Gz.wl_nil ?_ | with_reducible refine Gz.wl_cons ?_ | with_reducible refine Gz.we_op ?_ | with_reducible refine Gz.we_fld ?_ | with_reducible refine Gz.we_call ?_ | with_reducible refine Gz.we_meth ?_ | with_reducible refine Gz.we_make ?_ | with_reducible refine Gz.we_isi ?_ | with_reducible refine Gz.we_mt ?_ | with_reducible refine Gz.we_slice ?_ | with_reducible refine Gz.we_lst ?_ | with_reducible refine Gz.we_tup ?_ | with_reducible refine Gz.we_lrg ?_ | with_reducible refine Gz.we_not ?_ | with_reducible refine Gz.we_bool ?_ | ((with_reducible apply Gz.we_gl); (focus exact rfl)) | with_reducible refine Gz.we_ite ?_ | with_reducible refine Gz.we_chain ?_ | with_reducible refine Gz.wt_bool ?_ | with_reducible refine Gz.wt_not ?_ | with_reducible refine Gz.wt_chain ?_ | with_reducible refine Gz.wk_nil ?_ | with_reducible refine Gz.wk_cons ?_ | with_reducible refine Gz.wj_nil ?_ | with_reducible refine Gz.wj_cons ?_ | with_reducible refine Gz.wt_nil ?_ | with_reducible refine Gz.wp_nil ?_ | with_reducible refine Gz.ws_asg ?_ | with_reducible refine Gz.ws_asgT ?_ | with_reducible refine Gz.ws_set ?_ | with_reducible refine Gz.ws_fset ?_ | with_reducible refine Gz.ws_expr ?_ | with_reducible refine Gz.ws_ret ?_ | with_reducible refine Gz.ws_retN ?_ | with_reducible refine Gz.ws_ite ?_ | with_reducible refine Gz.ws_nop ?_ | with_reducible refine Gz.ws_for ?_ | with_reducible refine Gz.we_lc ?_ | ((with_reducible apply Gz.ws_raise); (focus exact rfl)) | ((with_reducible apply Gz.wt_of); (focus exact rfl)) | ((with_reducible apply Gz.wp_of); (focus exact rfl)) | with_reducible refine Gz.top_rt ?_ | with_reducible refine Gz.top_nx ?_ | with_reducible refine Gz.top_ex ?_ | with_reducible refine Gz.itt ?_ | with_reducible refine Gz.iff_ ?_ | with_reducible refine Gz.itf ?_ | with_reducible refine Gz.ift_ ?_ | ((with_reducible apply Gz.wjv)) | ((with_reducible apply Gz.set1); (focus exact rfl); (focus exact rfl)) | ((with_reducible apply Gz.ite_t); (focus exact rfl)) | ((with_reducible apply Gz.ite_b); (focus exact rfl)) | ((with_reducible apply Gz.ite_b'); (focus exact rfl))))
local macro_rules | `(tactic| walk_at "gz_st") => `(tactic| (repeat (first | ((with_reducible apply Gz.two); (focus exact rfl); (focus exact rfl)) | ((with_reducible apply Gz.stl); (focus (simp only [Gal.putA, Gal.putTs, List.getElem?_cons_succ, List.getElem?_cons_zero, List.set_cons_succ, List.set_cons_zero, Nat.reduceLT, Nat.reduceAdd, Gal.given, Gal.frz, List.append_nil, List.cons_append, List.nil_append, List.replicate_succ, List.replicate_zero, Nat.reduceSub, reduceIte, ↓reduceIte, Bool.false_eq_true, if_true, if_false, Gal.backE, Gal.unhold, Gal.hold, List.foldl, List.getD_cons_succ, List.getD_cons_zero, Gal.settles, Gal.settle] <;> exact rfl)); (focus exact rfl)) | ((with_reducible apply Gz.asg_v); (focus (simp only [Gal.putA, Gal.putTs, List.getElem?_cons_succ, List.getElem?_cons_zero, List.set_cons_succ, List.set_cons_zero, Nat.reduceLT, Nat.reduceAdd, Gal.given, Gal.frz, List.append_nil, List.cons_append, List.nil_append, List.replicate_succ, List.replicate_zero, Nat.reduceSub, reduceIte, ↓reduceIte, Bool.false_eq_true, if_true, if_false, Gal.backE, Gal.unhold, Gal.hold, List.foldl, List.getD_cons_succ, List.getD_cons_zero] <;> exact rfl))) | ((with_reducible apply Gz.op_e); (focus exact rfl); (focus exact rfl); (focus exact rfl)) | with_reducible refine Gz.ws_seq ?_ | with_reducible refine Gz.seq_nx ?_ | with_reducible refine Gz.seq_rt ?_ | with_reducible refine Gz.seq_ex ?_ | ((with_reducible apply Gz.we_var); (focus exact rfl)) | with_reducible refine Gz.we_con ?_ | with_reducible refine Gz.wl_nil ?_ | with_reducible refine Gz.wl_cons ?_ | with_reducible refine Gz.we_op ?_ | with_reducible refine Gz.we_fld ?_ | with_reducible refine Gz.we_call ?_ | with_reducible refine Gz.we_meth ?_ | with_reducible refine Gz.we_make ?_ | with_reducible refine Gz.we_isi ?_ | with_reducible refine Gz.we_mt ?_ | with_reducible refine Gz.we_slice ?_ | with_reducible refine Gz.we_lst ?_ | with_reducible refine Gz.we_tup ?_ | with_reducible refine Gz.we_lrg ?_ | with_reducible refine Gz.we_not ?_ | with_reducible refine Gz.we_bool ?_ | ((with_reducible apply Gz.we_gl); (focus exact rfl)) | with_reducible refine Gz.we_ite ?_ | with_reducible refine Gz.we_chain ?_ | with_reducible refine Gz.wt_bool ?_ | with_reducible refine Gz.wt_not ?_ | with_reducible refine Gz.wt_chain ?_ | with_reducible refine Gz.wk_nil ?_ | with_reducible refine Gz.wk_cons ?_ | with_reducible refine Gz.wj_nil ?_ | with_reducible refine Gz.wj_cons ?_ | with_reducible refine Gz.wt_nil ?_ | with_reducible refine Gz.wp_nil ?_ | with_reducible refine Gz.ws_asg ?_ | with_reducible refine Gz.ws_asgT ?_ | with_reducible refine Gz.ws_set ?_ | with_reducible refine Gz.ws_fset ?_ | with_reducible refine Gz.ws_expr ?_ | with_reducible refine Gz.ws_ret ?_ | with_reducible refine Gz.ws_retN ?_ | with_reducible refine Gz.ws_ite ?_ | with_reducible refine Gz.ws_nop ?_ | with_reducible refine Gz.ws_for ?_ | with_reducible refine Gz.we_lc ?_ | ((with_reducible apply Gz.ws_raise); (focus exact rfl)) | ((with_reducible apply Gz.wt_of); (focus exact rfl)) | ((with_reducible apply Gz.wp_of); (focus exact rfl)) | with_reducible refine Gz.top_rt ?_ | with_reducible refine Gz.top_nx ?_ | with_reducible refine Gz.top_ex ?_ | with_reducible refine Gz.itt ?_ | with_reducible refine Gz.iff_ ?_ | with_reducible refine Gz.itf ?_ | with_reducible refine Gz.ift_ ?_ | ((with_reducible apply Gz.wjv)) | ((with_reducible apply Gz.set1); (focus exact rfl); (focus exact rfl)) | ((with_reducible apply Gz.ite_t); (focus exact rfl)) | ((with_reducible apply Gz.ite_b); (focus exact rfl)) | ((with_reducible apply Gz.ite_b'); (focus exact rfl)))))
local macro_rules | `(tactic| walk_at "gz_fs") => `(tactic| ((with_reducible apply Gz.fset_q); (focus exact rfl); (focus exact rfl); (focus exact rfl); (focus (first | (simp only [Gal.putA, Gal.putTs, List.getElem?_cons_succ, List.getElem?_cons_zero, List.set_cons_succ, List.set_cons_zero, Nat.reduceLT, Nat.reduceAdd, Gal.given, Gal.frz, List.append_nil, List.cons_append, List.nil_append, List.replicate_succ, List.replicate_zero, Nat.reduceSub, reduceIte, ↓reduceIte, Bool.false_eq_true, if_true, if_false, Gal.backE, Gal.unhold, Gal.hold, List.foldl, List.getD_cons_succ, List.getD_cons_zero, Gal.putF, List.set_cons_zero, Nat.reduceEqDiff, OfNat.ofNat_ne_ofNat] <;> exact rfl) | exact rfl))))
local macro_rules | `(tactic| walk_at "gz_av") => `(tactic| ((with_reducible apply Gz.asg_v); (focus (walk_at "gz_nr")); refine Gz.seq_nx ?_))
namespace K40
open Gal Gz PySem L2
def sch (r c : Int) (cols : List Nat) : D := .obj 7 [(2, .int r), (1, .int c), (0, .str cols)]
def endl (sc : D) (l m r : List Nat) (b : Int) : D := .obj 8 [(9, sc), (8, .str l), (7, .str m), (6, .str r), (5, .int b)]
@[irreducible] def goodT (cols t : List Nat) : Bool := t.all fun c => decide (c ∈ cols)
theorem c3 (n : Nat) (r c : Int) (cols t : List Nat) (ht : t.length ≤ LIM) (s : Sl) (hs : s = .va (sch r c cols) ∨ s = .ow (sch r c cols)) :
    callF P 1000 (n + 1) 3 [s, .va (.str t)] = some (.rt false (.bl (goodT cols t)) [s, .va (.str t)]) := by
  refine Gz.cq_eq (Gz.call_q f3 rfl ?_)
  unfold b3
  walk_at "gz_st"
  obtain ⟨s', hs', h⟩ := lcL_m (body := lcT 2 [2] (.nm 2) (ev P (callF P 1000 n) 2 false .nil).t (ev P (callF P 1000 n) 2 false (.op .in_ (.cons (.var 2) (.cons (.fld 0 (.var 0)) .nil)))).o) (env := fun z => [s, .va (.str t), z]) (g := fun c => .str [c]) (f := fun c => .bl (decide (c ∈ cols))) (xs := t) (fun c' hx s' hs' => by
    refine Gz.lcT_ok (wipe_fr ⟨s', rfl, hs'⟩) rfl ?_
    rcases hs with rfl | rfl
    · walk_at "gz_st"
      exact ⟨_, _, rfl, congrArg (fun b => some (D.bl b)) (beq_true _), _, .inr ⟨_, rfl⟩, rfl⟩
    · walk_at "gz_st"
      exact ⟨_, _, rfl, congrArg (fun b => some (D.bl b)) (beq_true _), _, .inr ⟨_, rfl⟩, rfl⟩)
  refine ⟨_, _, _, _, rfl, h, by simpa using ht, ?_⟩
  walk_at "gz_st"
  refine Gz.op_q rfl (show (match boolsD _ with | some bs => b_ (if true then bs.all id else bs.any id) | none => none) = some (false, .bl (goodT cols t)) from ?_) ?_
  · rw [show t.map (fun c => D.bl (decide (c ∈ cols))) = (t.map fun c => decide (c ∈ cols)).map D.bl by simp, boolsD_map]
    simp [b_, goodT, List.all_map]
  · walk_at "gz_st"
    simp only [Gal.putA, Gal.putTs, List.getElem?_cons_succ, List.getElem?_cons_zero, List.set_cons_succ, List.set_cons_zero, Nat.reduceLT, Nat.reduceAdd, Gal.given, Gal.frz, List.append_nil, List.cons_append, List.nil_append, List.replicate_succ, List.replicate_zero, Nat.reduceSub, reduceIte, ↓reduceIte, Bool.false_eq_true, if_true, if_false, Gal.backE, Gal.unhold, Gal.hold, List.foldl, List.getD_cons_succ, List.getD_cons_zero, List.take_succ_cons, List.take_zero]
/-! ### columns -/
def colD (l m r : List Nat) (b i : Int) : Option Nat := if i - b < 0 then atI l ((i - b) % (l.length : Int)) else if i - b < m.length then atI m (i - b) else atI r ((i - b - m.length) % (r.length : Int))
def colC (l m r : List Nat) (b i : Int) : Nat := (colD l m r b i).getD 0
theorem atI_in {xs : List Nat} {i : Int} (h0 : 0 ≤ i) (h : i < xs.length) : atI xs i = some ((atI xs i).getD 0) := by
  unfold atI ixN
  rw [if_pos h0, if_pos h]
  show xs[i.toNat]? = some ((xs[i.toNat]?).getD 0)
  rw [List.getElem?_eq_getElem (by omega)]
  rfl
theorem colD_eq {l m r : List Nat} (b i : Int) (hl : 1 ≤ l.length) (hr : 1 ≤ r.length) : colD l m r b i = some (colC l m r b i) := by
  unfold colC colD
  split
  · exact atI_in (Int.emod_nonneg _ (by omega)) (Int.emod_lt_of_pos _ (by omega))
  · split
    · exact atI_in (by omega) (by omega)
    · exact atI_in (Int.emod_nonneg _ (by omega)) (Int.emod_lt_of_pos _ (by omega))
theorem c11 (n : Nat) (sc : D) (l m r : List Nat) (b i : Int) (hl : 1 ≤ l.length) (hr : 1 ≤ r.length) :
    callF P 1000 (n + 1) 11 [.ow (endl sc l m r b), .va (.int i)] = some (.rt false (.str [colC l m r b i]) [.ow (endl sc l m r b), .va (.int i)]) := by
  have hc := colD_eq (m := m) b i hl hr
  rw [show colD l m r b i = _ from rfl] at hc
  unfold colD at hc
  have hl' : (0 : Int) < l.length := by omega
  have hr' : (0 : Int) < r.length := by omega
  refine Gz.cq_eq (Gz.call_q f11 rfl ?_)
  unfold b11
  walk_at "gz_st"
  by_cases h1 : i - b < 0
  · rw [if_pos h1] at hc
    refine Gz.ite_t (decide_eq_true h1) ?_
    walk_at "gz_st"
    refine Gz.op_q rfl (Gz.mod_q hl') ?_
    walk_at "gz_st"
    refine Gz.op_q rfl (show (atI l _).map _ = _ from by rw [hc]; rfl) ?_
    walk_at "gz_st"
    rfl
  · rw [if_neg h1] at hc
    refine Gz.ite_f (by simpa using h1) ?_
    walk_at "gz_st"
    by_cases h2 : i - b < m.length
    · rw [if_pos h2] at hc
      refine Gz.ite_t (decide_eq_true h2) ?_
      walk_at "gz_st"
      refine Gz.op_q rfl (show (atI m _).map _ = _ from by rw [hc]; rfl) ?_
      walk_at "gz_st"
      rfl
    · rw [if_neg h2] at hc
      refine Gz.ite_f (by simpa using h2) ?_
      walk_at "gz_st"
      refine Gz.op_q rfl (Gz.mod_q hr') ?_
      walk_at "gz_st"
      refine Gz.op_q rfl (show (atI r _).map _ = _ from by rw [hc]; rfl) ?_
      walk_at "gz_st"
      rfl
def pt (l m r : List Nat) (b : Int) : D := .tup [.str l, .str m, .str r, .int b]
theorem c22 (n : Nat) (l m r : List Nat) (b i : Int) (hl : 1 ≤ l.length) (hr : 1 ≤ r.length) :
    callF P 1000 (n + 1) 22 [.va (pt l m r b), .va (.int i)] = some (.rt false (.str [colC l m r b i]) [.va (pt l m r b), .va (.int i)]) := by
  have hc := colD_eq (m := m) b i hl hr
  unfold colD at hc
  have hl' : (0 : Int) < l.length := by omega
  have hr' : (0 : Int) < r.length := by omega
  refine Gz.cq_eq (Gz.call_q f22 rfl ?_)
  unfold b22
  walk_at "gz_st"
  refine ⟨_, _, rfl, rfl, ?_⟩
  walk_at "gz_st"
  by_cases h1 : i - b < 0
  · rw [if_pos h1] at hc
    refine Gz.ite_t (decide_eq_true h1) ?_
    walk_at "gz_st"
    refine Gz.op_q rfl (Gz.mod_q hl') ?_
    walk_at "gz_st"
    refine Gz.op_q rfl (show (atI l _).map _ = _ from by rw [hc]; rfl) ?_
    walk_at "gz_st"
    rfl
  · rw [if_neg h1] at hc
    refine Gz.ite_f (by simpa using h1) ?_
    walk_at "gz_st"
    by_cases h2 : i - b < m.length
    · rw [if_pos h2] at hc
      refine Gz.ite_t (decide_eq_true h2) ?_
      walk_at "gz_st"
      refine Gz.op_q rfl (show (atI m _).map _ = _ from by rw [hc]; rfl) ?_
      walk_at "gz_st"
      rfl
    · rw [if_neg h2] at hc
      refine Gz.ite_f (by simpa using h2) ?_
      walk_at "gz_st"
      refine Gz.op_q rfl (Gz.mod_q hr') ?_
      walk_at "gz_st"
      refine Gz.op_q rfl (show (atI r _).map _ = _ from by rw [hc]; rfl) ?_
      walk_at "gz_st"
      rfl
/-! ### windows -/
@[irreducible] def winC (l m r : List Nat) (b lo hi : Int) : List Nat := (List.range (hi - lo).toNat).map fun (i : Nat) => colC l m r b (lo + (i : Int) * 1)
theorem join_one : ∀ xs : List Nat, TL.joinL [] (xs.map fun c => [c]) = xs
  | [] => rfl
  | [x] => rfl
  | x :: y :: r => by
    show [x] ++ ([] ++ TL.joinL [] ((y :: r).map fun c => [c])) = _
    rw [join_one (y :: r)]
    rfl
theorem join_q (xs : List Nat) (h : xs.length ≤ LIM) : mtD .sJoin (.str []) [.lst (xs.map fun c => D.str [c])] = some (false, .str xs) := by
  simp only [mtD]
  rw [show xs.map (fun c => D.str [c]) = (xs.map fun c => [c]).map D.str by simp]
  simp only [sJoinD, strsD_map]
  show (if _ then some (false, D.str (TL.joinL [] _)) else none) = _
  rw [join_one, if_pos]
  have : ∀ ys : List Nat, ((ys.map fun c => [c]).map (·.length)).sum = ys.length := fun ys => by
    induction ys with
    | nil => rfl
    | cons y ys ih => simp at ih ⊢; omega
  rw [this]
  simp
  exact h
theorem win_len (l m r : List Nat) (b lo hi : Int) : (winC l m r b lo hi).length = (hi - lo).toNat := by simp [winC]
theorem win_map (l m r : List Nat) (b lo hi : Int) : (List.range (hi - lo).toNat).map (fun (i : Nat) => D.str [colC l m r b (lo + (i : Int) * 1)]) = (winC l m r b lo hi).map fun c => D.str [c] := by simp [winC]
theorem c12 (n : Nat) (sc : D) (l m r : List Nat) (b lo hi : Int) (hl : 1 ≤ l.length) (hr : 1 ≤ r.length) (h1 : -100000 < lo) (h2 : lo < 100000) (h3 : -100000 < hi) (h4 : hi < 100000) :
    callF P 1000 (n + 2) 12 [.ow (endl sc l m r b), .va (.int lo), .va (.int hi)] = some (.rt false (.str (winC l m r b lo hi)) [.ow (endl sc l m r b), .va (.int lo), .va (.int hi)]) := by
  refine Gz.cq_eq (Gz.call_q f12 rfl ?_)
  unfold b12
  walk_at "gz_st"
  refine ⟨_, rfl, rfl, ?_⟩
  walk_at "gz_st"
  obtain ⟨s', hs', h⟩ := lcL_m (body := lcT 3 [3] (.nm 3) (ev P (callF P 1000 (n + 1)) 3 false .nil).t (ev P (callF P 1000 (n + 1)) 3 false (.meth 10 (.var 0) (.cons (.var 3) .nil))).o) (env := fun z => [.ow (endl sc l m r b), .va (.int lo), .va (.int hi), z]) (g := fun (i : Nat) => .int (lo + (i : Int) * 1)) (f := fun i => .str [colC l m r b (lo + (i : Int) * 1)]) (xs := List.range (hi - lo).toNat) (fun c' hx s' hs' => by
    refine Gz.lcT_ok (wipe_fr ⟨s', rfl, hs'⟩) rfl ?_
    walk_at "gz_st"
    refine ⟨_, _, _, rfl, rfl, ?_⟩
    walk_at "gz_st"
    apply Gz.wc (h3 := (c11 n sc l m r b _ hl hr))
    (focus exact rfl)
    (focus exact rfl)
    (walk_at "gz_nr")
    exact ⟨_, _, rfl, rfl, _, .inr ⟨_, rfl⟩, rfl⟩)
  refine ⟨_, _, _, _, by
    show (match walkD .range2 [.int lo, .int hi] with | some xs => _ | none => none) = _
    rw [show walkD .range2 [.int lo, .int hi] = some (rangeF lo 1 (hi - lo).toNat) from if_pos (by omega)]
    rfl, h, by simp; omega, ?_⟩
  rw [win_map]
  walk_at "gz_st"
  refine ⟨_, _, _, rfl, rfl, join_q _ (by rw [win_len]; show _ ≤ 16777216; omega), ?_⟩
  walk_at "gz_st"
  simp only [Gal.putA, Gal.putTs, List.getElem?_cons_succ, List.getElem?_cons_zero, List.set_cons_succ, List.set_cons_zero, Nat.reduceLT, Nat.reduceAdd, Gal.given, Gal.frz, List.append_nil, List.cons_append, List.nil_append, List.replicate_succ, List.replicate_zero, Nat.reduceSub, reduceIte, ↓reduceIte, Bool.false_eq_true, if_true, if_false, Gal.backE, Gal.unhold, Gal.hold, List.foldl, List.getD_cons_succ, List.getD_cons_zero, List.take_succ_cons, List.take_zero]
theorem c23 (n : Nat) (l m r : List Nat) (b lo hi : Int) (hl : 1 ≤ l.length) (hr : 1 ≤ r.length) (h1 : -100000 < lo) (h2 : lo < 100000) (h3 : -100000 < hi) (h4 : hi < 100000) :
    callF P 1000 (n + 2) 23 [.va (pt l m r b), .va (.int lo), .va (.int hi)] = some (.rt false (.str (winC l m r b lo hi)) [.va (pt l m r b), .va (.int lo), .va (.int hi)]) := by
  refine Gz.cq_eq (Gz.call_q f23 rfl ?_)
  unfold b23
  walk_at "gz_st"
  refine ⟨_, rfl, rfl, ?_⟩
  walk_at "gz_st"
  obtain ⟨s', hs', h⟩ := lcL_m (body := lcT 3 [3] (.nm 3) (ev P (callF P 1000 (n + 1)) 3 false .nil).t (ev P (callF P 1000 (n + 1)) 3 false (.call 22 (.cons (.var 0) (.cons (.var 3) .nil)))).o) (env := fun z => [.va (pt l m r b), .va (.int lo), .va (.int hi), z]) (g := fun (i : Nat) => .int (lo + (i : Int) * 1)) (f := fun i => .str [colC l m r b (lo + (i : Int) * 1)]) (xs := List.range (hi - lo).toNat) (fun c' hx s' hs' => by
    refine Gz.lcT_ok (wipe_fr ⟨s', rfl, hs'⟩) rfl ?_
    walk_at "gz_st"
    apply Gz.wc (h3 := (c22 n l m r b _ hl hr))
    (focus exact rfl)
    (focus exact rfl)
    (walk_at "gz_nr")
    exact ⟨_, _, rfl, rfl, _, .inr ⟨_, rfl⟩, rfl⟩)
  refine ⟨_, _, _, _, by
    show (match walkD .range2 [.int lo, .int hi] with | some xs => _ | none => none) = _
    rw [show walkD .range2 [.int lo, .int hi] = some (rangeF lo 1 (hi - lo).toNat) from if_pos (by omega)]
    rfl, h, by simp; omega, ?_⟩
  rw [win_map]
  walk_at "gz_st"
  refine ⟨_, _, _, rfl, rfl, join_q _ (by rw [win_len]; show _ ≤ 16777216; omega), ?_⟩
  walk_at "gz_st"
  simp only [Gal.putA, Gal.putTs, List.getElem?_cons_succ, List.getElem?_cons_zero, List.set_cons_succ, List.set_cons_zero, Nat.reduceLT, Nat.reduceAdd, Gal.given, Gal.frz, List.append_nil, List.cons_append, List.nil_append, List.replicate_succ, List.replicate_zero, Nat.reduceSub, reduceIte, ↓reduceIte, Bool.false_eq_true, if_true, if_false, Gal.backE, Gal.unhold, Gal.hold, List.foldl, List.getD_cons_succ, List.getD_cons_zero, List.take_succ_cons, List.take_zero]
end K40
set_option Elab.async false
set_option linter.all false
set_option maxRecDepth 100000
set_option maxHeartbeats 400000
namespace K40
open Gal Gz PySem L2
theorem c6 (n : Nat) (r c : Int) (cols : List Nat) :
    callF P 1000 (n + 1) 6 [.va (sch r c cols), .va (sch r c cols)] = some (.rt false (.bl true) [.va (sch r c cols), .va (sch r c cols)]) := by
  refine Gz.cq_eq (Gz.call_q f6 rfl ?_)
  unfold b6
  walk_at "gz_st"
  refine Gz.ite_t (by simp [eqD]) ?_
  walk_at "gz_st"
  refine Gz.ite_t (by simp [eqD]) ?_
  walk_at "gz_st"
  rfl
@[irreducible] def mayB (cols t : List Nat) : Bool := goodT cols t && (decide (1 ≤ t.length) && decide (t.length ≤ 6))
theorem c9 (n : Nat) (r c : Int) (cols t : List Nat) (ht : t.length ≤ LIM) (s : Sl) (hs : s = .va (sch r c cols) ∨ s = .ow (sch r c cols)) :
    callF P 1000 (n + 2) 9 [s, .va (.str t)] = some (.rt false (.bl (mayB cols t)) [s, .va (.str t)]) := by
  have C := c3 n r c cols t ht s hs
  refine Gz.cq_eq (Gz.call_q f9 rfl ?_)
  unfold b9 mayB
  rcases hs with rfl | rfl
  all_goals
    walk_at "gz_st"
    refine ⟨_, _, _, rfl, rfl, ?_⟩
    walk_at "gz_st"
    apply Gz.wc (h3 := C)
    (focus exact rfl)
    (focus exact rfl)
    (walk_at "gz_nr")
    walk_at "gz_st"
    cases hg : goodT cols t with
    | false => walk_at "gz_st"; rfl
    | true =>
      walk_at "gz_st"
      refine ⟨_, _, _, rfl, rfl, ?_⟩
      by_cases h1 : 1 ≤ t.length
      · refine Gz.ite_t (by simp; omega) ?_
        walk_at "gz_st"
        refine ⟨_, _, _, rfl, rfl, ?_⟩
        walk_at "gz_st"
        by_cases h2 : t.length ≤ 6
        · refine Gz.ite_t (by simp; omega) ?_
          walk_at "gz_st"
          simp [h1, h2]
        · refine Gz.ite_b (by simp; omega) ?_
          walk_at "gz_st"
          simp [h1, h2]
          omega
      · refine Gz.ite_b (by simp; omega) ?_
        walk_at "gz_st"
        simp [h1]
/-- good parts over the columns -/
structure Pt (cols l m r : List Nat) (b : Int) : Prop where
  l1 : 1 ≤ l.length
  l6 : l.length ≤ 6
  m4 : m.length ≤ 40
  r1 : 1 ≤ r.length
  r6 : r.length ≤ 6
  gl : goodT cols l = true
  gm : goodT cols m = true
  gr : goodT cols r = true
  b1 : -1500 ≤ b
  b2 : b ≤ 1500
theorem may_t {cols t : List Nat} (g : goodT cols t = true) (h1 : 1 ≤ t.length) (h2 : t.length ≤ 6) : mayB cols t = true := by
  simp [mayB, g, h1, h2]
def fzS : Sl → Sl
  | .ow d => .fz d
  | s => s
theorem c10 (n : Nat) (rr cc : Int) (cols l m r : List Nat) (b : Int) (hl : mayB cols l = true) (hm : goodT cols m = true) (hr : mayB cols r = true) (kl : l.length ≤ LIM) (km : m.length ≤ LIM) (kr : r.length ≤ LIM) (s : Sl) (hs : s = .va (sch rr cc cols) ∨ s = .ow (sch rr cc cols)) :
    callF P 1000 (n + 3) 10 [.ow (.obj 8 []), s, .va (.str l), .va (.str m), .va (.str r), .va (.int b)] = some (.rt false .non [.ow (endl (sch rr cc cols) l m r b), fzS s, .va (.str l), .va (.str m), .va (.str r), .va (.int b)]) := by
  have C1 := c9 n rr cc cols l kl s hs
  have C2 := c3 (n + 1) rr cc cols m km s hs
  have C3 := c9 n rr cc cols r kr s hs
  rw [hl] at C1
  rw [hm] at C2
  rw [hr] at C3
  refine Gz.cq_eq (Gz.call_q f10 rfl ?_)
  unfold b10
  rcases hs with rfl | rfl
  all_goals
    walk_at "gz_st"
    apply Gz.wc (h3 := C1)
    (focus exact rfl)
    (focus exact rfl)
    (walk_at "gz_nr")
    walk_at "gz_st"
    refine ⟨_, _, _, rfl, rfl, ?_⟩
    walk_at "gz_st"
    apply Gz.wc (h3 := C2)
    (focus exact rfl)
    (focus exact rfl)
    (walk_at "gz_nr")
    walk_at "gz_st"
    apply Gz.wc (h3 := C3)
    (focus exact rfl)
    (focus exact rfl)
    (walk_at "gz_nr")
    walk_at "gz_st"
    walk_at "gz_fs"
    walk_at "gz_st"
    walk_at "gz_fs"
    walk_at "gz_st"
    walk_at "gz_fs"
    walk_at "gz_st"
    walk_at "gz_fs"
    walk_at "gz_st"
    walk_at "gz_fs"
    walk_at "gz_st"
    rfl
end K40
set_option Elab.async false
set_option linter.all false
set_option maxRecDepth 100000
set_option maxHeartbeats 400000
namespace K40
open Gal Gz PySem L2
def loM (b b' : Int) : Int := if b' < b then b' else b
def hiM (m m' : List Nat) (b b' : Int) : Int := if b' + m'.length > b + m.length then b' + m'.length else b + m.length
theorem c15 (n : Nat) (sc : D) (l m r : List Nat) (b : Int) (l' m' r' : List Nat) (b' : Int) :
    callF P 1000 (n + 1) 15 [.ow (endl sc l m r b), .ow (endl sc l' m' r' b')] = some (.rt false (.tup [.int (loM b b'), .int (hiM m m' b b')]) [.ow (endl sc l m r b), .ow (endl sc l' m' r' b')]) := by
  refine Gz.cq_eq (Gz.call_q f15 rfl ?_)
  unfold b15
  walk_at "gz_st"
  rfl
theorem c8 (n : Nat) (r c : Int) (cols : List Nat) :
    callF P 1000 (n + 2) 8 [.ow (.lst [sch r c cols, sch r c cols])] = some (.rt false .non [.ow (.lst [sch r c cols, sch r c cols])]) := by
  refine Gz.cq_eq (Gz.call_q f8 rfl ?_)
  unfold b8
  walk_at "gz_st"
  obtain ⟨o, ho, q⟩ := forL_inv (put := putT 1 (.nm 1)) (body := evS P (callF P 1000 (n + 1)) 1 1000 (.ite (.op .ne (.cons (.var 1) (.cons (.op .ix (.cons (.var 0) (.cons (.con (.int 0)) .nil))) .nil))) (.raise 1 .nil) (.nop)) false)
    (fun xs e => (∀ x ∈ xs, x = sch r c cols) ∧ ∃ s, Fr s ∧ e = [.lk (.lst [sch r c cols, sch r c cols]), s]) (fun o => ∃ s, o = .nx [.lk (.lst [sch r c cols, sch r c cols]), s])
    (fun x xs e ⟨hx, s, hs, he⟩ => by
      subst he
      have hx0 := hx x (List.mem_cons_self ..)
      subst hx0
      refine ⟨[.lk (.lst [sch r c cols, sch r c cols]), .va (sch r c cols)], ?_⟩
      have z : WS P (callF P 1000 (n + 1)) 1 1000 (.ite (.op .ne (.cons (.var 1) (.cons (.op .ix (.cons (.var 0) (.cons (.con (.int 0)) .nil))) .nil))) (.raise 1 .nil) (.nop)) false [.lk (.lst [sch r c cols, sch r c cols]), .va (sch r c cols)] (fun o => o = .nx [.lk (.lst [sch r c cols, sch r c cols]), .va (sch r c cols)]) := by
        walk_at "gz_st"
        apply Gz.op_c (h8 := (c6 n r c cols))
        (focus exact rfl)
        (focus exact rfl)
        (focus exact rfl)
        (focus exact rfl)
        (focus exact rfl)
        (focus exact rfl)
        (walk_at "gz_nr")
        (focus exact rfl)
        walk_at "gz_st"
        rfl
      obtain ⟨o, h1, rfl⟩ := z
      refine ⟨_, ?_, h1, fun y hy => hx y (List.mem_cons_of_mem _ hy), _, .inr ⟨_, rfl⟩, rfl⟩
      rcases hs with rfl | ⟨d, rfl⟩ <;> rfl) (fun e ⟨_, s, _, he⟩ => ⟨s, by rw [he]⟩) [sch r c cols, sch r c cols] [.lk (.lst [sch r c cols, sch r c cols]), .un] ⟨by simp, .un, .inl rfl, rfl⟩
  obtain ⟨s, rfl⟩ := q
  exact ⟨_, _, _, rfl, ho, rfl⟩
def befM (l l' : List Nat) (b b' : Int) : Int := loM b b' - l.length * l'.length
def behM (m r m' r' : List Nat) (b b' : Int) : Int := hiM m m' b b' + r.length * r'.length
def sameB (l m r : List Nat) (b : Int) (l' m' r' : List Nat) (b' : Int) : Bool :=
  (winC l m r b (befM l l' b b') (loM b b') == winC l' m' r' b' (befM l l' b b') (loM b b')) && (winC l m r b (hiM m m' b b') (behM m r m' r' b b') == winC l' m' r' b' (hiM m m' b b') (behM m r m' r' b b'))
theorem mul36 {a c : List Nat} (ha : a.length ≤ 6) (hc : c.length ≤ 6) : (0 : Int) ≤ (a.length : Int) * c.length ∧ (a.length : Int) * c.length ≤ 36 := by
  refine ⟨Int.mul_nonneg (by omega) (by omega), ?_⟩
  have : a.length * c.length ≤ 6 * 6 := Nat.mul_le_mul ha hc
  have e : ((a.length * c.length : Nat) : Int) = (a.length : Int) * c.length := Int.natCast_mul ..
  omega
structure Bds (m : List Nat) (b : Int) (m' : List Nat) (b' : Int) : Prop where
  l1 : -1500 ≤ loM b b'
  l2 : loM b b' ≤ 1500
  h1 : -1500 ≤ hiM m m' b b'
  h2 : hiM m m' b b' ≤ 1540
theorem bds {cols l m r cols' l' m' r' : List Nat} {b b' : Int} (p : Pt cols l m r b) (p' : Pt cols' l' m' r' b') : Bds m b m' b' := by
  have h1 := p.b1; have h2 := p.b2; have h3 := p'.b1; have h4 := p'.b2; have h5 := p.m4; have h6 := p'.m4
  constructor
  · unfold loM; split <;> omega
  · unfold loM; split <;> omega
  · unfold hiM; split <;> omega
  · unfold hiM; split <;> omega
theorem c16 (n : Nat) (sc : D) {cols l m r l' m' r' : List Nat} {b b' : Int} (p : Pt cols l m r b) (p' : Pt cols l' m' r' b') :
    callF P 1000 (n + 3) 16 [.ow (endl sc l m r b), .ow (endl sc l' m' r' b')] = some (.rt false (.bl (sameB l m r b l' m' r' b')) [.ow (endl sc l m r b), .ow (endl sc l' m' r' b')]) := by
  have B := bds p p'
  obtain ⟨B1, B2, B3, B4⟩ := B
  have L := mul36 p.l6 p'.l6
  have R := mul36 p.r6 p'.r6
  have hl := p.l6; have hl' := p'.l6; have hr := p.r6; have hr' := p'.r6
  refine Gz.cq_eq (Gz.call_q f16 rfl ?_)
  unfold b16
  walk_at "gz_st"
  apply Gz.wc (h3 := (c15 (n + 1) sc l m r b l' m' r' b'))
  (focus exact rfl)
  (focus exact rfl)
  (walk_at "gz_nr")
  refine ⟨_, _, rfl, rfl, ?_⟩
  walk_at "gz_st"
  refine Gz.op_q rfl (Gz.mul_q (by omega)) ?_
  walk_at "gz_st"
  refine Gz.op_q rfl (Gz.mul_q (by omega)) ?_
  walk_at "gz_st"
  refine ⟨_, _, _, rfl, rfl, ?_⟩
  walk_at "gz_st"
  apply Gz.wc (h3 := (c12 n sc l m r b (befM l l' b b') (loM b b') p.l1 p.r1 (by unfold befM; omega) (by unfold befM; omega) (by omega) (by omega)))
  (focus exact rfl)
  (focus exact rfl)
  (walk_at "gz_nr")
  walk_at "gz_st"
  refine ⟨_, _, _, rfl, rfl, ?_⟩
  walk_at "gz_st"
  apply Gz.wc (h3 := (c12 n sc l' m' r' b' (befM l l' b b') (loM b b') p'.l1 p'.r1 (by unfold befM; omega) (by unfold befM; omega) (by omega) (by omega)))
  (focus exact rfl)
  (focus exact rfl)
  (walk_at "gz_nr")
  walk_at "gz_st"
  cases h : (winC l m r b (befM l l' b b') (loM b b') == winC l' m' r' b' (befM l l' b b') (loM b b')) with
  | false =>
    refine Gz.ite_t (by simp only [eqD, h]; rfl) ?_
    walk_at "gz_st"
    simp only [sameB, h, Bool.false_and]
    rfl
  | true =>
    refine Gz.ite_b (by simp only [eqD, h]; rfl) ?_
    walk_at "gz_st"
    refine ⟨_, _, _, rfl, rfl, ?_⟩
    walk_at "gz_st"
    apply Gz.wc (h3 := (c12 n sc l m r b (hiM m m' b b') (behM m r m' r' b b') p.l1 p.r1 (by omega) (by omega) (by unfold behM; omega) (by unfold behM; omega)))
    (focus exact rfl)
    (focus exact rfl)
    (walk_at "gz_nr")
    walk_at "gz_st"
    refine ⟨_, _, _, rfl, rfl, ?_⟩
    walk_at "gz_st"
    apply Gz.wc (h3 := (c12 n sc l' m' r' b' (hiM m m' b b') (behM m r m' r' b b') p'.l1 p'.r1 (by omega) (by omega) (by unfold behM; omega) (by unfold behM; omega)))
    (focus exact rfl)
    (focus exact rfl)
    (walk_at "gz_nr")
    walk_at "gz_st"
    simp only [sameB, h, Bool.true_and, eqD, beq_true]
    rfl
end K40
set_option Elab.async false
set_option linter.all false
set_option maxRecDepth 100000
set_option maxHeartbeats 400000
namespace K40
open Gal Gz PySem L2
theorem len_le {t : List Nat} {k : Nat} (h : t.length ≤ k) (hk : k ≤ 100) : t.length ≤ LIM := by show _ ≤ 16777216; omega
theorem c13 (n : Nat) (rr cc : Int) {cols l m r : List Nat} {b : Int} (p : Pt cols l m r b) (y : Int) :
    callF P 1000 (n + 4) 13 [.ow (endl (sch rr cc cols) l m r b), .va (.int y)] = some (.rt true (endl (sch rr cc cols) l m r (b - y)) [.ow (endl (sch rr cc cols) l m r b), .va (.int y)]) := by
  refine Gz.cq_eq (Gz.call_q f13 rfl ?_)
  unfold b13
  walk_at "gz_st"
  apply Gz.wm (h3 := (c10 n rr cc cols l m r (b - y) (may_t p.gl p.l1 p.l6) p.gm (may_t p.gr p.r1 p.r6) (len_le p.l6 (by omega)) (len_le p.m4 (by omega)) (len_le p.r6 (by omega)) _ (.inl rfl)))
  (focus exact rfl)
  (focus exact rfl)
  (focus exact rfl)
  (walk_at "gz_nr")
  walk_at "gz_st"
  rfl
theorem c24 (n : Nat) (rr cc : Int) {cols l m r : List Nat} {b : Int} (p : Pt cols l m r b) (s : Sl) (hs : s = .va (sch rr cc cols) ∨ s = .ow (sch rr cc cols)) :
    callF P 1000 (n + 4) 24 [s, .va (pt l m r b)] = some (.rt true (endl (sch rr cc cols) l m r b) [fzS s, .va (pt l m r b)]) := by
  refine Gz.cq_eq (Gz.call_q f24 rfl ?_)
  unfold b24
  rcases hs with rfl | rfl
  · walk_at "gz_st"
    apply Gz.wm (h3 := (c10 n rr cc cols l m r b (may_t p.gl p.l1 p.l6) p.gm (may_t p.gr p.r1 p.r6) (len_le p.l6 (by omega)) (len_le p.m4 (by omega)) (len_le p.r6 (by omega)) _ (.inl rfl)))
    (focus exact rfl)
    (focus exact rfl)
    (focus exact rfl)
    (walk_at "gz_nr")
    walk_at "gz_st"
    rfl
  · walk_at "gz_st"
    apply Gz.wm (h3 := (c10 n rr cc cols l m r b (may_t p.gl p.l1 p.l6) p.gm (may_t p.gr p.r1 p.r6) (len_le p.l6 (by omega)) (len_le p.m4 (by omega)) (len_le p.r6 (by omega)) _ (.inr rfl)))
    (focus exact rfl)
    (focus exact rfl)
    (focus exact rfl)
    (walk_at "gz_nr")
    walk_at "gz_st"
    rfl
def eqB (l m r : List Nat) (b : Int) (l' m' r' : List Nat) (b' : Int) : Bool :=
  sameB l m r b l' m' r' b' && (winC l m r b (loM b b') (hiM m m' b b') == winC l' m' r' b' (loM b b') (hiM m m' b b'))
theorem c14 (n : Nat) (rr cc : Int) {cols l m r l' m' r' : List Nat} {b b' : Int} (p : Pt cols l m r b) (p' : Pt cols l' m' r' b') :
    callF P 1000 (n + 4) 14 [.ow (endl (sch rr cc cols) l m r b), .ow (endl (sch rr cc cols) l' m' r' b')] = some (.rt false (.bl (eqB l m r b l' m' r' b')) [.ow (endl (sch rr cc cols) l m r b), .ow (endl (sch rr cc cols) l' m' r' b')]) := by
  obtain ⟨B1, B2, B3, B4⟩ := bds p p'
  refine Gz.cq_eq (Gz.call_q f14 rfl ?_)
  unfold b14
  walk_at "gz_st"
  apply Gz.op_c (h8 := (c6 (n + 2) rr cc cols))
  (focus exact rfl)
  (focus exact rfl)
  (focus exact rfl)
  (focus exact rfl)
  (focus exact rfl)
  (focus exact rfl)
  (walk_at "gz_nr")
  (focus exact rfl)
  walk_at "gz_st"
  apply Gz.wc (h3 := (c16 n (sch rr cc cols) p p'))
  (focus exact rfl)
  (focus exact rfl)
  (walk_at "gz_nr")
  cases h : sameB l m r b l' m' r' b' with
  | false =>
    walk_at "gz_st"
    simp only [eqB, h, Bool.false_and]
    rfl
  | true =>
    walk_at "gz_st"
    apply Gz.wc (h3 := (c15 (n + 2) (sch rr cc cols) l m r b l' m' r' b'))
    (focus exact rfl)
    (focus exact rfl)
    (walk_at "gz_nr")
    refine ⟨_, _, rfl, rfl, ?_⟩
    walk_at "gz_st"
    refine ⟨_, _, _, rfl, rfl, ?_⟩
    walk_at "gz_st"
    apply Gz.wc (h3 := (c12 (n + 1) (sch rr cc cols) l m r b (loM b b') (hiM m m' b b') p.l1 p.r1 (by omega) (by omega) (by omega) (by omega)))
    (focus exact rfl)
    (focus exact rfl)
    (walk_at "gz_nr")
    walk_at "gz_st"
    refine ⟨_, _, _, rfl, rfl, ?_⟩
    walk_at "gz_st"
    apply Gz.wc (h3 := (c12 (n + 1) (sch rr cc cols) l' m' r' b' (loM b b') (hiM m m' b b') p'.l1 p'.r1 (by omega) (by omega) (by omega) (by omega)))
    (focus exact rfl)
    (focus exact rfl)
    (walk_at "gz_nr")
    walk_at "gz_st"
    simp only [eqB, h, Bool.true_and, eqD, beq_true]
    rfl
@[irreducible] def gapL (l m r : List Nat) (b : Int) (l' m' r' : List Nat) (b' : Int) : List Int :=
  (List.range (hiM m m' b b' - loM b b').toNat).filterMap fun (i : Nat) => if colC l m r b (loM b b' + (i : Int) * 1) = colC l' m' r' b' (loM b b' + (i : Int) * 1) then none else some (loM b b' + (i : Int) * 1)
theorem gap_map (l m r : List Nat) (b : Int) (l' m' r' : List Nat) (b' : Int) : ((List.range (hiM m m' b b' - loM b b').toNat).filterMap fun (i : Nat) => if colC l m r b (loM b b' + (i : Int) * 1) = colC l' m' r' b' (loM b b' + (i : Int) * 1) then none else some (D.int (loM b b' + (i : Int) * 1))) = (gapL l m r b l' m' r' b').map D.int := by
  unfold gapL
  rw [List.map_filterMap]
  congr 1
  funext i
  split <;> rfl
theorem gap_len (l m r : List Nat) (b : Int) (l' m' r' : List Nat) (b' : Int) : (gapL l m r b l' m' r' b').length ≤ (hiM m m' b b' - loM b b').toNat := by
  unfold gapL
  refine Nat.le_trans (List.length_filterMap_le _ _) ?_
  simp
def gapR (l m r : List Nat) (b : Int) (l' m' r' : List Nat) (b' : Int) (outs : List Sl) : CR := if sameB l m r b l' m' r' b' = true then .rt true (.lst ((gapL l m r b l' m' r' b').map D.int)) outs else .rt false .non outs
theorem c29 (n : Nat) {cols l m r l' m' r' : List Nat} {b b' : Int} (p : Pt cols l m r b) (p' : Pt cols l' m' r' b') :
    callF P 1000 (n + 3) 29 [.va (pt l m r b), .va (pt l' m' r' b')] = some (gapR l m r b l' m' r' b' [.va (pt l m r b), .va (pt l' m' r' b')]) := by
  obtain ⟨B1, B2, B3, B4⟩ := bds p p'
  have L := mul36 p.l6 p'.l6
  have R := mul36 p.r6 p'.r6
  have hl := p.l6; have hl' := p'.l6; have hr := p.r6; have hr' := p'.r6
  refine Gz.cq_eq (Gz.call_q f29 rfl ?_)
  unfold b29
  walk_at "gz_st"
  refine Gz.op_q rfl (Gz.mul_q (by omega)) ?_
  walk_at "gz_st"
  refine Gz.op_q rfl (Gz.mul_q (by omega)) ?_
  walk_at "gz_st"
  apply Gz.wc (h3 := (c23 (n + 0) l m r b (befM l l' b b') (loM b b') p.l1 p.r1 (by unfold befM; omega) (by unfold befM; omega) (by omega) (by omega)))
  (focus exact rfl)
  (focus exact rfl)
  (walk_at "gz_nr")
  walk_at "gz_st"
  apply Gz.wc (h3 := (c23 (n + 0) l' m' r' b' (befM l l' b b') (loM b b') p'.l1 p'.r1 (by unfold befM; omega) (by unfold befM; omega) (by omega) (by omega)))
  (focus exact rfl)
  (focus exact rfl)
  (walk_at "gz_nr")
  walk_at "gz_st"
  cases h : (winC l m r b (befM l l' b b') (loM b b') == winC l' m' r' b' (befM l l' b b') (loM b b')) with
  | false =>
    refine Gz.ite_t (by simp only [eqD, h]; rfl) ?_
    walk_at "gz_st"
    simp only [gapR, sameB, h, Bool.false_and]
    rfl
  | true =>
    refine Gz.ite_b (by simp only [eqD, h]; rfl) ?_
    walk_at "gz_st"
    apply Gz.wc (h3 := (c23 (n + 0) l m r b (hiM m m' b b') (behM m r m' r' b b') p.l1 p.r1 (by omega) (by omega) (by unfold behM; omega) (by unfold behM; omega)))
    (focus exact rfl)
    (focus exact rfl)
    (walk_at "gz_nr")
    walk_at "gz_st"
    apply Gz.wc (h3 := (c23 (n + 0) l' m' r' b' (hiM m m' b b') (behM m r m' r' b b') p'.l1 p'.r1 (by omega) (by omega) (by unfold behM; omega) (by unfold behM; omega)))
    (focus exact rfl)
    (focus exact rfl)
    (walk_at "gz_nr")
    walk_at "gz_st"
    cases h2 : (winC l m r b (hiM m m' b b') (behM m r m' r' b b') == winC l' m' r' b' (hiM m m' b b') (behM m r m' r' b b')) with
    | false =>
      refine Gz.ite_t (by simp only [eqD, h2]; rfl) ?_
      walk_at "gz_st"
      simp only [gapR, sameB, h, h2, Bool.true_and]
      rfl
    | true =>
      refine Gz.ite_b (by simp only [eqD, h2]; rfl) ?_
      walk_at "gz_st"
      obtain ⟨s', hs', hc⟩ := lcL_f (body := lcT 2 [6] (.nm 6) (ev P (callF P 1000 (n + 2)) 2 false (.op .ne (.cons (.call 22 (.cons (.var 0) (.cons (.var 6) .nil))) (.cons (.call 22 (.cons (.var 1) (.cons (.var 6) .nil))) .nil)))).t (ev P (callF P 1000 (n + 2)) 2 false (.var 6)).o)
        (env := fun z => [.va (pt l m r b), .va (pt l' m' r' b'), .va (.int (loM b b')), .va (.int (hiM m m' b b')), .va (.int (befM l l' b b')), .va (.int (behM m r m' r' b b')), z]) (g := fun (i : Nat) => .int (loM b b' + (i : Int) * 1)) (f := fun (i : Nat) => if colC l m r b (loM b b' + (i : Int) * 1) = colC l' m' r' b' (loM b b' + (i : Int) * 1) then none else some (D.int (loM b b' + (i : Int) * 1))) (xs := List.range (hiM m m' b b' - loM b b').toNat) (fun c' hx s' hs' => by
        refine Gz.lcT_ok (wipe_fr ⟨s', rfl, hs'⟩) rfl ?_
        walk_at "gz_st"
        apply Gz.wc (h3 := (c22 (n + 1) l m r b _ p.l1 p.r1))
        (focus exact rfl)
        (focus exact rfl)
        (walk_at "gz_nr")
        walk_at "gz_st"
        apply Gz.wc (h3 := (c22 (n + 1) l' m' r' b' _ p'.l1 p'.r1))
        (focus exact rfl)
        (focus exact rfl)
        (walk_at "gz_nr")
        walk_at "gz_st"
        by_cases hq : colC l m r b (loM b b' + (c' : Int) * 1) = colC l' m' r' b' (loM b b' + (c' : Int) * 1)
        · refine Gz.ite_b (by simp only [eqD, hq, beq_self_eq_true]; rfl) ?_
          exact ⟨by rw [if_pos hq], _, .inr ⟨_, rfl⟩, rfl⟩
        · refine Gz.ite_t (by simp [eqD]; simpa using hq) ?_
          walk_at "gz_st"
          exact ⟨_, _, rfl, by rw [if_neg hq], _, .inr ⟨_, rfl⟩, rfl⟩) [] .un (.inl rfl)
      rw [List.reverse_nil, List.nil_append, gap_map] at hc
      refine ⟨_, _, _, _, by
        show (match walkD .range2 [.int (loM b b'), .int (hiM m m' b b')] with | some xs => _ | none => none) = _
        rw [show walkD .range2 [.int (loM b b'), .int (hiM m m' b b')] = some (rangeF (loM b b') 1 (hiM m m' b b' - loM b b').toNat) from if_pos (by omega)]
        rfl, hc, ?_, ?_⟩
      · rw [List.length_map]
        refine Nat.le_trans (gap_len ..) ?_
        show _ ≤ 16777216
        omega
      · walk_at "gz_st"
        simp only [gapR, sameB, h, h2, Bool.true_and, if_true]
        rfl
theorem c17 (n : Nat) (rr cc : Int) {cols l m r l' m' r' : List Nat} {b b' : Int} (p : Pt cols l m r b) (p' : Pt cols l' m' r' b') :
    callF P 1000 (n + 4) 17 [.ow (endl (sch rr cc cols) l m r b), .ow (endl (sch rr cc cols) l' m' r' b')] = some (gapR l m r b l' m' r' b' [.ow (endl (sch rr cc cols) l m r b), .ow (endl (sch rr cc cols) l' m' r' b')]) := by
  obtain ⟨B1, B2, B3, B4⟩ := bds p p'
  refine Gz.cq_eq (Gz.call_q f17 rfl ?_)
  unfold b17
  walk_at "gz_st"
  apply Gz.wc (h3 := (c8 (n + 1) rr cc cols))
  (focus exact rfl)
  (focus exact rfl)
  (walk_at "gz_nr")
  walk_at "gz_st"
  apply Gz.wc (h3 := (c16 n (sch rr cc cols) p p'))
  (focus exact rfl)
  (focus exact rfl)
  (walk_at "gz_nr")
  walk_at "gz_st"
  cases h : sameB l m r b l' m' r' b' with
  | false =>
    walk_at "gz_st"
    simp only [gapR, h]
    rfl
  | true =>
    walk_at "gz_st"
    apply Gz.wc (h3 := (c15 (n + 2) (sch rr cc cols) l m r b l' m' r' b'))
    (focus exact rfl)
    (focus exact rfl)
    (walk_at "gz_nr")
    refine ⟨_, _, rfl, rfl, ?_⟩
    walk_at "gz_st"
    obtain ⟨s', hs', hc⟩ := lcL_f (body := lcT 2 [4] (.nm 4) (ev P (callF P 1000 (n + 3)) 2 false (.op .ne (.cons (.meth 10 (.var 0) (.cons (.var 4) .nil)) (.cons (.meth 10 (.var 1) (.cons (.var 4) .nil)) .nil)))).t (ev P (callF P 1000 (n + 3)) 2 false (.var 4)).o)
        (env := fun z => [.ow (endl (sch rr cc cols) l m r b), .ow (endl (sch rr cc cols) l' m' r' b'), .va (.int (loM b b')), .va (.int (hiM m m' b b')), z]) (g := fun (i : Nat) => .int (loM b b' + (i : Int) * 1)) (f := fun (i : Nat) => if colC l m r b (loM b b' + (i : Int) * 1) = colC l' m' r' b' (loM b b' + (i : Int) * 1) then none else some (D.int (loM b b' + (i : Int) * 1))) (xs := List.range (hiM m m' b b' - loM b b').toNat) (fun c' hx s' hs' => by
        refine Gz.lcT_ok (wipe_fr ⟨s', rfl, hs'⟩) rfl ?_
        walk_at "gz_st"
        refine ⟨_, _, _, rfl, rfl, ?_⟩
        walk_at "gz_st"
        apply Gz.wc (h3 := (c11 (n + 2) (sch rr cc cols) l m r b _ p.l1 p.r1))
        (focus exact rfl)
        (focus exact rfl)
        (walk_at "gz_nr")
        walk_at "gz_st"
        refine ⟨_, _, _, rfl, rfl, ?_⟩
        walk_at "gz_st"
        apply Gz.wc (h3 := (c11 (n + 2) (sch rr cc cols) l' m' r' b' _ p'.l1 p'.r1))
        (focus exact rfl)
        (focus exact rfl)
        (walk_at "gz_nr")
        walk_at "gz_st"
        by_cases hq : colC l m r b (loM b b' + (c' : Int) * 1) = colC l' m' r' b' (loM b b' + (c' : Int) * 1)
        · refine Gz.ite_b (by simp only [eqD, hq, beq_self_eq_true]; rfl) ?_
          exact ⟨by rw [if_pos hq], _, .inr ⟨_, rfl⟩, rfl⟩
        · refine Gz.ite_t (by simp [eqD]; simpa using hq) ?_
          walk_at "gz_st"
          exact ⟨_, _, rfl, by rw [if_neg hq], _, .inr ⟨_, rfl⟩, rfl⟩) [] .un (.inl rfl)
    rw [List.reverse_nil, List.nil_append, gap_map] at hc
    refine ⟨_, _, _, _, by
        show (match walkD .range2 [.int (loM b b'), .int (hiM m m' b b')] with | some xs => _ | none => none) = _
        rw [show walkD .range2 [.int (loM b b'), .int (hiM m m' b b')] = some (rangeF (loM b b') 1 (hiM m m' b b' - loM b b').toNat) from if_pos (by omega)]
        rfl, hc, ?_, ?_⟩
    · rw [List.length_map]
      refine Nat.le_trans (gap_len ..) ?_
      show _ ≤ 16777216
      omega
    · walk_at "gz_st"
      simp only [gapR, h, if_true]
      rfl
end K40
set_option Elab.async false
set_option linter.all false
set_option maxRecDepth 100000
set_option maxHeartbeats 400000
namespace K40
open Gal Gz PySem L2
def src (cells : List Int) (a v s c : Int) : D := .lst [.lst (cells.map D.int), .int a, .int v, .int s, .int c]
/-- the source behind at most k draws -/
def Sr (k : Nat) (d : D) : Prop := ∃ cells a v s c, d = src cells a v s c ∧ 0 ≤ a ∧ 0 ≤ v ∧ 0 ≤ s ∧ s < 2147483647 ∧ 0 ≤ c ∧ c ≤ k
theorem Sr.mono {j k : Nat} {d : D} (h : Sr j d) (hk : j ≤ k) : Sr k d := by
  obtain ⟨cells, a, v, s, c, e, h1, h2, h3, h4, h5, h6⟩ := h
  exact ⟨cells, a, v, s, c, e, h1, h2, h3, h4, h5, by omega⟩
theorem c18 (n : Nat) (ns : List Int) : CQ (callF P 1000 (n + 1) 18 [.va (.scr ns)]) (fun x => ∃ d, x = .rt true d [.va (.scr ns)] ∧ Sr 0 d) := by
  refine Gz.call_q f18 rfl ?_
  unfold b18
  walk_at "gz_st"
  exact ⟨_, rfl, ns, 0, 0, 0, 0, rfl, by omega, by omega, by omega, by omega, by omega, by omega⟩
theorem src2 (cells : List Int) (a v s c x : Int) : setD (.int 2) (.int x) (src cells a v s c) = some (src cells a x s c) := rfl
theorem src1 (cells : List Int) (a v s c x : Int) : setD (.int 1) (.int x) (src cells a v s c) = some (src cells x v s c) := rfl
theorem src3 (cells : List Int) (a v s c x : Int) : setD (.int 3) (.int x) (src cells a v s c) = some (src cells a v x c) := rfl
theorem src4 (cells : List Int) (a v s c x : Int) : setD (.int 4) (.int x) (src cells a v s c) = some (src cells a v s x) := rfl
theorem cell_q {cells : List Int} {a : Int} (h0 : 0 ≤ a) (h : a < cells.length) : ∃ x, opD .ix [.lst (cells.map D.int), .int a] = some (false, .int x) := by
  refine ⟨cells[a.toNat]'(by omega), ?_⟩
  show (atI (cells.map D.int) a).map _ = _
  unfold atI ixN
  rw [List.length_map, if_pos h0, if_pos h]
  show ((cells.map D.int)[a.toNat]?).map _ = _
  rw [List.getElem?_map, List.getElem?_eq_getElem (by omega)]
  rfl
def r19 : S := match b19 with
  | .seq _ (.seq _ r) => r
  | r => r
theorem c19 (n k : Nat) (hk : k ≤ 1000000) (d : D) (hd : Sr k d) (size : Int) (h0 : 0 < size) (h1 : size < 2 ^ 64) :
    CQ (callF P 1000 (n + 1) 19 [.ow d, .va (.int size)]) (fun x => ∃ v d', x = .rt false (.int v) [.ow d', .va (.int size)] ∧ 0 ≤ v ∧ v < size ∧ Sr (k + 1) d') := by
  obtain ⟨cells, a, v, s, c, rfl, ha, hv, hs, hs2, hc, hck⟩ := hd
  have tail : ∀ a v s x, 0 ≤ a → 0 ≤ v → 0 ≤ s → s < 2147483647 → WS P (callF P 1000 n) 2 1000 r19 false [.ow (src cells a v s c), .va (.int size), .va (.lst (cells.map D.int)), .un, .un, .un, x, .un] (TopQ 2 (fun x => ∃ v d', x = .rt false (.int v) [.ow d', .va (.int size)] ∧ 0 ≤ v ∧ v < size ∧ Sr (k + 1) d')) := by
    intro a v s x ha hv hs hs2
    show WS P (callF P 1000 n) 2 1000 (match b19 with | .seq _ (.seq _ r) => r | r => r) false _ _
    unfold b19
    dsimp only
    walk_at "gz_st"
    by_cases hv0 : 0 < v
    · refine Gz.ite_t (decide_eq_true hv0) ?_
      walk_at "gz_st"
      refine Gz.op_q rfl (Gz.mod_q h0) ?_
      walk_at "gz_st"
      refine Gz.op_q rfl (Gz.fdiv_q h0 h1) ?_
      walk_at "gz_st"
      apply Gz.set2 (h3 := (src2 cells a v s c (v / size)))
      (focus exact rfl)
      (focus exact rfl)
      (walk_at "gz_nr")
      walk_at "gz_st"
      exact ⟨_, _, rfl, Int.emod_nonneg _ (by omega), Int.emod_lt_of_pos _ h0, cells, a, v / size, s, c, rfl, ha, Int.ediv_nonneg hv (by omega), hs, hs2, hc, by omega⟩
    · refine Gz.ite_f (by simpa using hv0) ?_
      walk_at "gz_st"
      apply Gz.set2 (h3 := (src4 cells a v s c (c + 1)))
      (focus exact rfl)
      (focus exact rfl)
      (walk_at "gz_nr")
      walk_at "gz_st"
      refine Gz.op_q rfl (Gz.mul_q (by omega)) ?_
      walk_at "gz_st"
      refine Gz.op_q rfl (Gz.mod_q (by omega)) ?_
      walk_at "gz_st"
      have k1 := Int.emod_nonneg (s * (c + 1 + 17)) (show (2147483647 : Int) ≠ 0 by omega)
      have k2 := Int.emod_lt_of_pos (s * (c + 1 + 17)) (show (0 : Int) < 2147483647 by omega)
      refine Gz.op_q rfl (Gz.mul_q (by omega)) ?_
      walk_at "gz_st"
      refine Gz.op_q rfl (Gz.mod_q (by omega)) ?_
      walk_at "gz_st"
      refine Gz.op_q rfl (Gz.mul_q' (by omega)) ?_
      walk_at "gz_st"
      refine Gz.op_q rfl (Gz.mul_q (by omega)) ?_
      walk_at "gz_st"
      refine Gz.op_q rfl (Gz.mod_q (by omega)) ?_
      walk_at "gz_st"
      refine Gz.op_q rfl (Gz.fdiv_q (by omega) (by omega)) ?_
      walk_at "gz_st"
      refine Gz.op_q rfl (Gz.mul_q (by omega)) ?_
      walk_at "gz_st"
      refine Gz.op_q rfl (Gz.fdiv_q (by omega) (by omega)) ?_
      walk_at "gz_st"
      refine Gz.op_q rfl (Gz.mod_q h0) ?_
      walk_at "gz_st"
      exact ⟨_, _, rfl, Int.emod_nonneg _ (by omega), Int.emod_lt_of_pos _ h0, cells, a, v, s, c + 1, rfl, ha, hv, hs, hs2, by omega, by omega⟩
  refine Gz.call_q f19 rfl ?_
  unfold b19
  walk_at "gz_st"
  by_cases e1 : v = 0
  · refine Gz.ite_t (by subst e1; rfl) ?_
    walk_at "gz_st"
    by_cases e2 : a < cells.length
    · refine Gz.ite_t (by simpa using e2) ?_
      walk_at "gz_st"
      obtain ⟨x, hx⟩ := cell_q ha e2
      refine Gz.op_q rfl hx ?_
      walk_at "gz_st"
      apply Gz.set2 (h3 := (src1 cells a v s c (a + 1)))
      (focus exact rfl)
      (focus exact rfl)
      (walk_at "gz_nr")
      walk_at "gz_st"
      refine Gz.op_q rfl (Gz.mul_q' (by omega)) ?_
      walk_at "gz_st"
      refine Gz.op_q rfl (Gz.mod_q (by omega)) ?_
      walk_at "gz_st"
      refine Gz.op_q rfl (Gz.mul_q' (by omega)) ?_
      walk_at "gz_st"
      refine Gz.op_q rfl (Gz.mod_q (by omega)) ?_
      walk_at "gz_st"
      apply Gz.set2 (h3 := (src3 cells (a + 1) v s c _))
      (focus exact rfl)
      (focus exact rfl)
      (walk_at "gz_nr")
      walk_at "gz_st"
      refine Gz.op_q rfl Gz.pow_q ?_
      walk_at "gz_st"
      by_cases e3 : 10 ^ 18 ≤ (if x < 0 then -x else x)
      · refine Gz.ite_t (decide_eq_true e3) ?_
        walk_at "gz_st"
        apply Gz.set2 (h3 := (src2 cells (a + 1) v _ c (if x < 0 then -x else x)))
        (focus exact rfl)
        (focus exact rfl)
        (walk_at "gz_nr")
        exact tail _ _ _ _ (by omega) (by omega) (Int.emod_nonneg _ (by omega)) (Int.emod_lt_of_pos _ (by omega))
      · refine Gz.ite_f (fun z => e3 (of_decide_eq_true z)) ?_
        exact Gz.ws_nop (tail _ _ _ _ (by omega) hv (Int.emod_nonneg _ (by omega)) (Int.emod_lt_of_pos _ (by omega)))
    · exact Gz.ite_f (by simpa using e2) (Gz.ite_f (by simpa using e2) (Gz.ws_nop (tail _ _ _ _ ha hv hs hs2)))
  · exact Gz.ite_f (by simpa [eqD] using e1) (Gz.ite_f (by simpa [eqD] using e1) (Gz.ws_nop (tail _ _ _ _ ha hv hs hs2)))
end K40
set_option Elab.async false
set_option linter.all false
set_option maxRecDepth 100000
set_option maxHeartbeats 400000
namespace K40
open Gal Gz PySem L2
theorem good_iff {cols t : List Nat} : goodT cols t = true ↔ ∀ x ∈ t, x ∈ cols := by
  unfold goodT
  simp
theorem ix_str {cols : List Nat} {v : Int} (h0 : 0 ≤ v) (h : v < cols.length) : ∃ c, c ∈ cols ∧ opD .ix [.str cols, .int v] = some (false, .str [c]) := by
  refine ⟨cols[v.toNat]'(by omega), List.getElem_mem _, ?_⟩
  show (atI cols v).map _ = _
  unfold atI ixN
  rw [if_pos h0, if_pos h]
  show (cols[v.toNat]?).map _ = _
  rw [List.getElem?_eq_getElem (by omega)]
  rfl
theorem c20 (n k N : Nat) (hk : k ≤ 1000) (hN : N ≤ 100) (d : D) (hd : Sr k d) (cols : List Nat) (h0 : 1 ≤ cols.length) (h1 : cols.length ≤ 100) :
    CQ (callF P 1000 (n + 2) 20 [.ow d, .va (.str cols), .va (.int N)]) (fun x => ∃ t d', x = .rt false (.str t) [.ow d', .va (.str cols), .va (.int N)] ∧ t.length = N ∧ goodT cols t = true ∧ Sr (k + N) d') := by
  refine Gz.call_q f20 rfl ?_
  unfold b20
  walk_at "gz_st"
  refine ⟨_, rfl, rfl, ?_⟩
  walk_at "gz_st"
  obtain ⟨ds, e1, hc, t, d', s, rfl, hs, hS, rfl, hg, hlen⟩ := lcL_inv (body := lcT 3 [3] (.nm 3) (ev P (callF P 1000 (n + 1)) 3 false .nil).t (ev P (callF P 1000 (n + 1)) 3 false (.op .ix (.cons (.var 1) (.cons (.call 19 (.cons (.var 0) (.cons (.op .len (.cons (.var 1) .nil)) .nil))) .nil)))).o)
    (fun xs acc e => ∃ t d' s, e = [.ow d', .va (.str cols), .va (.int N), s] ∧ Fr s ∧ Sr (k + t.length) d' ∧ acc = t.map (fun c => D.str [c]) ∧ goodT cols t = true ∧ t.length + xs.length = N)
    (fun x r acc e ⟨t, d', s, he, hs, hS, ha, hg, hlen⟩ => by
      subst he
      refine Gz.lcT_ok (wipe_fr ⟨s, rfl, hs⟩) rfl ?_
      walk_at "gz_st"
      obtain ⟨_, hx, v, d2, rfl, b1, b2, S2⟩ := c19 n (k + t.length) (by omega) d' hS cols.length (by omega) (by omega)
      apply Gz.wc (h3 := hx)
      (focus exact rfl)
      (focus exact rfl)
      (walk_at "gz_nr")
      walk_at "gz_st"
      obtain ⟨c, hcm, hix⟩ := ix_str b1 b2
      refine Gz.op_q rfl hix ?_
      refine ⟨_, _, rfl, c :: t, d2, _, rfl, .inr ⟨_, rfl⟩, ?_, ?_, ?_, ?_⟩
      · rw [List.length_cons, ← Nat.add_assoc]; exact S2
      · subst ha; rfl
      · rw [good_iff] at hg ⊢
        intro z hz
        rcases List.mem_cons.mp hz with rfl | hz
        · exact hcm
        · exact hg z hz
      · simp at hlen ⊢; omega) (rangeF 0 1 N) [] [.ow d, .va (.str cols), .va (.int N), .un] ⟨[], d, .un, rfl, .inl rfl, hd, rfl, by rw [good_iff]; simp, by simp [rangeF]⟩
  rw [← List.map_reverse] at hc
  have hlen : t.length = N := by simpa using hlen
  refine ⟨_, _, _, _, Gz.walk_1 (by omega) (Int.toNat_natCast N), hc, by simp only [List.length_map, List.length_reverse]; show _ ≤ 16777216; omega, ?_⟩
  walk_at "gz_st"
  refine ⟨_, _, _, rfl, rfl, join_q _ (by rw [List.length_reverse]; show _ ≤ 16777216; omega), ?_⟩
  walk_at "gz_st"
  simp only [Gal.putA, Gal.putTs, List.getElem?_cons_succ, List.getElem?_cons_zero, List.set_cons_succ, List.set_cons_zero, Nat.reduceLT, Nat.reduceAdd, Gal.given, Gal.frz, List.append_nil, List.cons_append, List.nil_append, List.replicate_succ, List.replicate_zero, Nat.reduceSub, reduceIte, ↓reduceIte, Bool.false_eq_true, if_true, if_false, Gal.backE, Gal.unhold, Gal.hold, List.foldl, List.getD_cons_succ, List.getD_cons_zero, List.take_succ_cons, List.take_zero]
  refine ⟨t.reverse, d', rfl, by simpa using hlen, ?_, hlen ▸ hS⟩
  rw [good_iff] at hg ⊢
  intro z hz
  exact hg z (List.mem_reverse.mp hz)
/-- schemes that the law builds -/
def Shape (r c : Int) (cols : List Nat) : Prop := (r = 1 ∧ c = 2 ∧ cols = [97, 98]) ∨ (r = 1 ∧ c = 3 ∧ cols = [97, 98, 99]) ∨ (r = 2 ∧ c = 2 ∧ cols = [97, 98, 99, 100]) ∨ (r = 3 ∧ c = 2 ∧ cols = [97, 98, 99, 100, 101, 102, 103, 104]) ∨ (r = 2 ∧ c = 3 ∧ cols = [97, 98, 99, 100, 101, 102, 103, 104, 105])
theorem Shape.len {r c : Int} {cols : List Nat} (h : Shape r c cols) : 2 ≤ cols.length ∧ cols.length ≤ 9 := by
  rcases h with ⟨_, _, rfl⟩ | ⟨_, _, rfl⟩ | ⟨_, _, rfl⟩ | ⟨_, _, rfl⟩ | ⟨_, _, rfl⟩ <;> decide
theorem c21 (n k : Nat) (hk : k ≤ 1000) (d : D) (hd : Sr k d) :
    CQ (callF P 1000 (n + 2) 21 [.ow d]) (fun x => ∃ r c cols d', x = .rt false (.tup [.int r, .int c, .str cols]) [.ow d'] ∧ Shape r c cols ∧ Sr (k + 1) d') := by
  refine Gz.call_q f21 rfl ?_
  unfold b21
  walk_at "gz_st"
  obtain ⟨_, hx, v, d2, rfl, b1, b2, S2⟩ := c19 n k (by omega) d hd 12 (by omega) (by omega)
  apply Gz.wc (h3 := hx)
  (focus exact rfl)
  (focus exact rfl)
  (walk_at "gz_nr")
  walk_at "gz_st"
  have hv : v = 0 ∨ v = 1 ∨ v = 2 ∨ v = 3 ∨ v = 4 ∨ v = 5 ∨ v = 6 ∨ v = 7 ∨ v = 8 ∨ v = 9 ∨ v = 10 ∨ v = 11 := by omega
  rcases hv with rfl | rfl | rfl | rfl | rfl | rfl | rfl | rfl | rfl | rfl | rfl | rfl
  all_goals
    walk_at "gz_st"
    exact ⟨_, _, _, _, rfl, by unfold Shape; simp, S2⟩
end K40
set_option Elab.async false
set_option linter.all false
set_option maxRecDepth 100000
set_option maxHeartbeats 400000
namespace K40
open Gal Gz PySem L2
theorem c25 (n k : Nat) (hk : k ≤ 500) (d : D) (hd : Sr k d) (cols : List Nat) (h0 : 1 ≤ cols.length) (h1 : cols.length ≤ 100) :
    CQ (callF P 1000 (n + 3) 25 [.ow d, .va (.str cols)]) (fun x => ∃ l m r b d', x = .rt false (pt l m r b) [.ow d', .va (.str cols)] ∧ Pt cols l m r b ∧ m.length ≤ 34 ∧ -300 ≤ b ∧ b ≤ 300 ∧ Sr (k + 60) d') := by
  refine Gz.call_q f25 rfl ?_
  unfold b25
  refine Gz.ws_seq ?_
  obtain ⟨_, hx, v, d1, rfl, a1, a2, S1⟩ := c19 (n + 1) k (by omega) d hd 10 (by omega) (by omega)
  walk_at "gz_st"
  apply Gz.wc (h3 := hx)
  (focus exact rfl)
  (focus exact rfl)
  (walk_at "gz_nr")
  walk_at "gz_av"
  refine Gz.ws_seq (Gz.WS.imp (Z := fun o => ∃ (N : Nat) (d' : D), o = .nx [.ow d', .va (.str cols), .va (.int (N : Int)), .un, .un, .un, .un] ∧ N ≤ 34 ∧ Sr (k + 3) d') ?_ ?_)
  · obtain ⟨_, hx, w, d2, rfl, a3, a4, S2⟩ := c19 (n + 1) (k + 1) (by omega) d1 S1 8 (by omega) (by omega)
    walk_at "gz_st"
    apply Gz.wc (h3 := hx)
    (focus exact rfl)
    (focus exact rfl)
    (walk_at "gz_nr")
    walk_at "gz_st"
    by_cases e : w = 1
    · refine Gz.ite_t (by subst e; rfl) ?_
      obtain ⟨_, hx, u, d3, rfl, a5, a6, S3⟩ := c19 (n + 1) (k + 1 + 1) (by omega) d2 S2 35 (by omega) (by omega)
      walk_at "gz_st"
      apply Gz.wc (h3 := hx)
      (focus exact rfl)
      (focus exact rfl)
      (walk_at "gz_nr")
      walk_at "gz_st"
      exact ⟨u.toNat, d3, by rw [Int.toNat_of_nonneg a5], by omega, S3.mono (by omega)⟩
    · refine Gz.ite_f (by simpa [eqD] using e) ?_
      walk_at "gz_st"
      exact ⟨v.toNat, d2, by rw [Int.toNat_of_nonneg a1], by omega, S2.mono (by omega)⟩
  · rintro o ⟨N, d2, rfl, hN, S2⟩
    refine Gz.seq_nx (Gz.ws_seq ?_)
    obtain ⟨_, hx, w, d3, rfl, a3, a4, S3⟩ := c19 (n + 1) (k + 3) (by omega) d2 S2 19 (by omega) (by omega)
    walk_at "gz_st"
    apply Gz.wc (h3 := hx)
    (focus exact rfl)
    (focus exact rfl)
    (walk_at "gz_nr")
    (repeat (first | (with_reducible refine Gz.wl_cons ?_) | (with_reducible refine Gz.we_con ?_) | (with_reducible refine Gz.wl_nil ?_)))
    refine Gz.op_q rfl rfl ?_
    walk_at "gz_av"
    refine Gz.ws_seq (Gz.WS.imp (Z := fun o => ∃ (b : Int) (d' : D), o = .nx [.ow d', .va (.str cols), .va (.int (N : Int)), .va (.int b), .un, .un, .un] ∧ -300 ≤ b ∧ b ≤ 300 ∧ Sr (k + 6) d') ?_ ?_)
    · obtain ⟨_, hx, u, d4, rfl, a5, a6, S4⟩ := c19 (n + 1) (k + 3 + 1) (by omega) d3 S3 4 (by omega) (by omega)
      walk_at "gz_st"
      apply Gz.wc (h3 := hx)
      (focus exact rfl)
      (focus exact rfl)
      (walk_at "gz_nr")
      walk_at "gz_st"
      by_cases e : u = 1
      · refine Gz.ite_t (by subst e; rfl) ?_
        obtain ⟨_, hx, q, d5, rfl, a7, a8, S5⟩ := c19 (n + 1) (k + 3 + 1 + 1) (by omega) d4 S4 601 (by omega) (by omega)
        walk_at "gz_st"
        apply Gz.wc (h3 := hx)
        (focus exact rfl)
        (focus exact rfl)
        (walk_at "gz_nr")
        walk_at "gz_st"
        exact ⟨_, d5, rfl, by omega, by omega, S5.mono (by omega)⟩
      · refine Gz.ite_f (by simpa [eqD] using e) ?_
        walk_at "gz_st"
        exact ⟨_, d4, rfl, by omega, by omega, S4.mono (by omega)⟩
    · rintro o ⟨b, d3, rfl, hb1, hb2, S3⟩
      refine Gz.seq_nx ?_
      obtain ⟨_, hx, u1, d4, rfl, a5, a6, S4⟩ := c19 (n + 1) (k + 6) (by omega) d3 S3 6 (by omega) (by omega)
      obtain ⟨_, hy, l, d5, rfl, l1, l2, S5⟩ := c20 n (k + 6 + 1) (1 + u1).toNat (by omega) (by omega) d4 S4 cols h0 h1
      obtain ⟨_, hz, m, d6, rfl, m1, m2, S6⟩ := c20 n (k + 6 + 1 + (1 + u1).toNat) N (by omega) (by omega) d5 S5 cols h0 h1
      obtain ⟨_, hu, u2, d7, rfl, a7, a8, S7⟩ := c19 (n + 1) (k + 6 + 1 + (1 + u1).toNat + N) (by omega) d6 S6 6 (by omega) (by omega)
      obtain ⟨_, hw, r, d8, rfl, r1, r2, S8⟩ := c20 n (k + 6 + 1 + (1 + u1).toNat + N + 1) (1 + u2).toNat (by omega) (by omega) d7 S7 cols h0 h1
      rw [Int.toNat_of_nonneg (by omega)] at hy hw
      walk_at "gz_st"
      apply Gz.wc (h3 := hx)
      (focus exact rfl)
      (focus exact rfl)
      (walk_at "gz_nr")
      walk_at "gz_st"
      apply Gz.wc (h3 := hy)
      (focus exact rfl)
      (focus exact rfl)
      (walk_at "gz_nr")
      walk_at "gz_st"
      apply Gz.wc (h3 := hz)
      (focus exact rfl)
      (focus exact rfl)
      (walk_at "gz_nr")
      walk_at "gz_st"
      apply Gz.wc (h3 := hu)
      (focus exact rfl)
      (focus exact rfl)
      (walk_at "gz_nr")
      walk_at "gz_st"
      apply Gz.wc (h3 := hw)
      (focus exact rfl)
      (focus exact rfl)
      (walk_at "gz_nr")
      walk_at "gz_st"
      exact ⟨l, m, r, b, d8, rfl, ⟨by omega, by omega, by omega, by omega, by omega, l2, m2, r2, by omega, by omega⟩, by omega, hb1, hb2, S8.mono (by omega)⟩
end K40
set_option Elab.async false
set_option linter.all false
set_option maxRecDepth 100000
set_option maxHeartbeats 400000
namespace K40
open Gal Gz PySem L2
theorem atI_mem {xs : List Nat} {i : Int} {c : Nat} (h : atI xs i = some c) : c ∈ xs := by
  unfold atI at h
  cases z : ixN xs.length i with
  | none => rw [z] at h; cases h
  | some j => rw [z] at h; exact List.mem_of_getElem? h
theorem col_mem {cols l m r : List Nat} {b : Int} (p : Pt cols l m r b) (i : Int) : colC l m r b i ∈ cols := by
  have h := colD_eq (m := m) b i p.l1 p.r1
  unfold colD at h
  split at h
  · exact good_iff.mp p.gl _ (atI_mem h)
  · split at h
    · exact good_iff.mp p.gm _ (atI_mem h)
    · exact good_iff.mp p.gr _ (atI_mem h)
theorem win_good {cols l m r : List Nat} {b : Int} (p : Pt cols l m r b) (lo hi : Int) : goodT cols (winC l m r b lo hi) = true := by
  rw [good_iff]
  unfold winC
  intro z hz
  obtain ⟨i, _, rfl⟩ := List.mem_map.mp hz
  exact col_mem p _
theorem six {x q u : Nat} (h1 : 1 ≤ x) (h6 : x ≤ 6) (hu : u < 6 / x) : 1 ≤ x * (1 + u) ∧ x * (1 + u) ≤ 6 := by
  have : u + 1 ≤ 6 / x := hu
  have h2 := (Nat.le_div_iff_mul_le (by omega)).mp this
  rw [Nat.mul_comm] at h2
  rw [Nat.add_comm]
  exact ⟨Nat.mul_pos (by omega) (by omega), h2⟩
theorem sixI {x : Nat} {u : Int} (h1 : 1 ≤ x) (h6 : x ≤ 6) (h0 : 0 ≤ u) (hu : u < 6 / (x : Int)) : 1 ≤ (x : Int) * (1 + u) ∧ (x : Int) * (1 + u) ≤ 6 := by
  obtain ⟨v, rfl⟩ := Int.eq_ofNat_of_zero_le h0
  have := six (q := 0) h1 h6 (u := v) (by
    have e : (6 : Int) / (x : Int) = ((6 / x : Nat) : Int) := by simp
    rw [e] at hu
    omega)
  have e : (x : Int) * (1 + (v : Int)) = ((x * (1 + v) : Nat) : Int) := by simp
  rw [e]
  omega
theorem div6 {x : Nat} (h1 : 1 ≤ x) (h6 : x ≤ 6) : (0 : Int) < 6 / (x : Int) ∧ (6 : Int) / (x : Int) ≤ 6 := by
  have : x = 1 ∨ x = 2 ∨ x = 3 ∨ x = 4 ∨ x = 5 ∨ x = 6 := by omega
  rcases this with rfl | rfl | rfl | rfl | rfl | rfl <;> decide
theorem c26 (n k : Nat) (hk : k ≤ 500) (d : D) (hd : Sr k d) {cols l m r : List Nat} {b : Int} (p : Pt cols l m r b) (hm : m.length ≤ 34) (hb1 : -300 ≤ b) (hb2 : b ≤ 300) :
    CQ (callF P 1000 (n + 3) 26 [.ow d, .va (pt l m r b)]) (fun x => ∃ l' m' r' b' d', x = .rt false (pt l' m' r' b') [.ow d', .va (pt l m r b)] ∧ Pt cols l' m' r' b' ∧ Sr (k + 4) d') := by
  have hl1 := p.l1; have hl6 := p.l6; have hr1 := p.r1; have hr6 := p.r6
  have q1 := div6 (x := l.length) (by omega) (by omega)
  have q2 := div6 (x := r.length) (by omega) (by omega)
  refine Gz.call_q f26 rfl ?_
  unfold b26
  walk_at "gz_st"
  refine ⟨_, _, rfl, rfl, ?_⟩
  obtain ⟨_, hx, u1, d1, rfl, a1, a2, S1⟩ := c19 (n + 1) k (by omega) d hd 4 (by omega) (by omega)
  obtain ⟨_, hy, u2, d2, rfl, a3, a4, S2⟩ := c19 (n + 1) (k + 1) (by omega) d1 S1 4 (by omega) (by omega)
  obtain ⟨_, hz, u3, d3, rfl, a5, a6, S3⟩ := c19 (n + 1) (k + 1 + 1) (by omega) d2 S2 (6 / (l.length : Int)) q1.1 (by omega)
  obtain ⟨_, hw, u4, d4, rfl, a7, a8, S4⟩ := c19 (n + 1) (k + 1 + 1 + 1) (by omega) d3 S3 (6 / (r.length : Int)) q2.1 (by omega)
  have e1 := sixI hl1 hl6 a5 a6
  have e2 := sixI hr1 hr6 a7 a8
  walk_at "gz_st"
  apply Gz.wc (h3 := hx)
  (focus exact rfl)
  (focus exact rfl)
  (walk_at "gz_nr")
  walk_at "gz_st"
  apply Gz.wc (h3 := hy)
  (focus exact rfl)
  (focus exact rfl)
  (walk_at "gz_nr")
  walk_at "gz_st"
  refine Gz.op_q rfl (Gz.fdiv_q (by omega) (by omega)) ?_
  walk_at "gz_st"
  apply Gz.wc (h3 := hz)
  (focus exact rfl)
  (focus exact rfl)
  (walk_at "gz_nr")
  walk_at "gz_st"
  refine Gz.op_q rfl (Gz.mul_q (by omega)) ?_
  walk_at "gz_st"
  refine Gz.op_q rfl (Gz.fdiv_q (by omega) (by omega)) ?_
  walk_at "gz_st"
  apply Gz.wc (h3 := hw)
  (focus exact rfl)
  (focus exact rfl)
  (walk_at "gz_nr")
  walk_at "gz_st"
  refine Gz.op_q rfl (Gz.mul_q (by omega)) ?_
  walk_at "gz_st"
  apply Gz.wc (h3 := (c23 n l m r b (b - u1 - l.length * (1 + u3)) (b - u1) p.l1 p.r1 (by omega) (by omega) (by omega) (by omega)))
  (focus exact rfl)
  (focus exact rfl)
  (walk_at "gz_nr")
  walk_at "gz_st"
  apply Gz.wc (h3 := (c23 n l m r b (b - u1) (b + m.length + u2) p.l1 p.r1 (by omega) (by omega) (by omega) (by omega)))
  (focus exact rfl)
  (focus exact rfl)
  (walk_at "gz_nr")
  walk_at "gz_st"
  apply Gz.wc (h3 := (c23 n l m r b (b + m.length + u2) (b + m.length + u2 + r.length * (1 + u4)) p.l1 p.r1 (by omega) (by omega) (by omega) (by omega)))
  (focus exact rfl)
  (focus exact rfl)
  (walk_at "gz_nr")
  walk_at "gz_st"
  exact ⟨_, _, _, _, d4, rfl, ⟨by rw [win_len]; omega, by rw [win_len]; omega, by rw [win_len]; omega, by rw [win_len]; omega, by rw [win_len]; omega, win_good p _ _, win_good p _ _, win_good p _ _, by omega, by omega⟩, S4⟩
end K40
set_option Elab.async false
set_option linter.all false
set_option maxRecDepth 100000
set_option maxHeartbeats 400000
namespace K40
open Gal Gz PySem L2
theorem cut_hi {s : List Nat} {v : Int} (h0 : 0 ≤ v) : cutD s none (some v) = s.take v.toNat := by
  unfold cutD HT.sIx
  simp only [if_neg (show ¬ v < 0 by omega)]
  rw [List.drop_zero, Nat.sub_zero]
  rcases Nat.le_total v.toNat s.length with h | h
  · rw [Nat.min_eq_left h]
  · rw [Nat.min_eq_right h, List.take_length, List.take_of_length_le h]
theorem cut_lo {s : List Nat} {v : Int} (h0 : 0 ≤ v) : cutD s (some v) none = s.drop v.toNat := by
  unfold cutD HT.sIx
  simp only [if_neg (show ¬ v < 0 by omega)]
  rcases Nat.le_total v.toNat s.length with h | h
  · rw [Nat.min_eq_left h, List.take_of_length_le (by simp)]
  · rw [Nat.min_eq_right h, List.drop_length, List.drop_of_length_le h, List.take_nil]
theorem add_s {a b : List Nat} (h : a.length + b.length ≤ LIM) : opD .add [.str a, .str b] = some (false, .str (a ++ b)) := by
  simp only [opD, op2D, addD]
  exact if_pos h
theorem c27 (n k : Nat) (hk : k ≤ 900) (d : D) (hd : Sr k d) (cols t : List Nat) (h2 : 2 ≤ cols.length) (h9 : cols.length ≤ 9) (ht : t.length ≤ 100) (hg : goodT cols t = true) :
    CQ (callF P 1000 (n + 2) 27 [.ow d, .va (.str cols), .va (.str t)]) (fun x => ∃ t' d', x = .rt false (.str t') [.ow d', .va (.str cols), .va (.str t)] ∧ t'.length = t.length ∧ goodT cols t' = true ∧ Sr (k + 2) d') := by
  refine Gz.call_q f27 rfl ?_
  unfold b27
  walk_at "gz_st"
  by_cases e : t = []
  · subst e
    refine Gz.ite_t rfl ?_
    walk_at "gz_st"
    exact ⟨[], d, rfl, rfl, hg, hd.mono (by omega)⟩
  · have hp : 1 ≤ t.length := by
      cases t with
      | nil => exact absurd rfl e
      | cons _ _ => simp
    refine Gz.ite_f (by simpa [eqD] using e) ?_
    obtain ⟨_, hx, u1, d1, rfl, a1, a2, S1⟩ := c19 n k (by omega) d hd t.length (by omega) (by omega)
    obtain ⟨_, hy, u2, d2, rfl, a3, a4, S2⟩ := c19 n (k + 1) (by omega) d1 S1 ((cols.length : Int) - 1) (by omega) (by omega)
    walk_at "gz_st"
    apply Gz.wc (h3 := hx)
    (focus exact rfl)
    (focus exact rfl)
    (walk_at "gz_nr")
    walk_at "gz_st"
    apply Gz.wc (h3 := hy)
    (focus exact rfl)
    (focus exact rfl)
    (walk_at "gz_nr")
    walk_at "gz_st"
    refine ⟨_, rfl, rfl, ?_⟩
    walk_at "gz_st"
    obtain ⟨c, hc, hix⟩ := ix_str a1 a2
    refine Gz.op_q rfl hix ?_
    walk_at "gz_st"
    refine ⟨_, _, _, rfl, rfl, rfl, ?_⟩
    walk_at "gz_st"
    refine Gz.op_q rfl (Gz.mod_q (by omega)) ?_
    walk_at "gz_st"
    obtain ⟨c2, hc2, hix2⟩ := ix_str (cols := cols) (v := (findC cols c + (1 + u2)) % (cols.length : Int)) (Int.emod_nonneg _ (by omega)) (Int.emod_lt_of_pos _ (by omega))
    refine Gz.op_q rfl hix2 ?_
    walk_at "gz_st"
    refine ⟨_, rfl, ?_⟩
    walk_at "gz_st"
    rw [cut_hi a1]
    refine Gz.op_q rfl (add_s (by simp; show _ ≤ 16777216; omega)) ?_
    walk_at "gz_st"
    refine ⟨_, rfl, ?_⟩
    walk_at "gz_st"
    rw [cut_lo (by omega)]
    refine Gz.op_q rfl (add_s (by simp; show _ ≤ 16777216; omega)) ?_
    walk_at "gz_st"
    refine ⟨_, d2, rfl, ?_, ?_, S2⟩
    · simp; omega
    · rw [good_iff] at hg ⊢
      intro z hz
      rcases List.mem_append.mp hz with hz | hz
      · rcases List.mem_append.mp hz with hz | hz
        · exact hg z (List.mem_of_mem_take hz)
        · rw [List.mem_singleton.mp hz]; exact hc2
      · exact hg z (List.mem_of_mem_drop hz)
end K40
set_option Elab.async false
set_option linter.all false
set_option maxRecDepth 100000
set_option maxHeartbeats 400000
namespace K40
open Gal Gz PySem L2
def midO (cols : List Nat) (P0 : D) (pick b : Int) (k : Nat) (o : Out) : Prop := ∃ l m r d', o = .nx [.ow d', .va (.str cols), .va P0, .va (.int pick), .va (.str l), .va (.str m), .va (.str r), .va (.int b)] ∧ Pt cols l m r b ∧ Sr k d'
theorem c28 (n k : Nat) (hk : k ≤ 400) (d : D) (hd : Sr k d) {cols l m r : List Nat} {b : Int} (p : Pt cols l m r b) (hm : m.length ≤ 34) (hb1 : -300 ≤ b) (hb2 : b ≤ 300) (h2 : 2 ≤ cols.length) (h9 : cols.length ≤ 9) :
    CQ (callF P 1000 (n + 4) 28 [.ow d, .va (.str cols), .va (pt l m r b)]) (fun x => ∃ l' m' r' b' d', x = .rt false (pt l' m' r' b') [.ow d', .va (.str cols), .va (pt l m r b)] ∧ Pt cols l' m' r' b' ∧ Sr (k + 100) d') := by
  refine Gz.call_q f28 rfl ?_
  unfold b28
  obtain ⟨_, hx, u, d1, rfl, a1, a2, S1⟩ := c19 (n + 2) k (by omega) d hd 8 (by omega) (by omega)
  walk_at "gz_st"
  apply Gz.wc (h3 := hx)
  (focus exact rfl)
  (focus exact rfl)
  (walk_at "gz_nr")
  walk_at "gz_st"
  by_cases e7 : u = 7
  · obtain ⟨_, hy, l', m', r', b', d2, rfl, p', _, _, _, S2⟩ := c25 n (k + 1) (by omega) d1 S1 cols (by omega) (by omega)
    refine Gz.ite_t (by subst e7; rfl) ?_
    walk_at "gz_st"
    apply Gz.wc (h3 := hy)
    (focus exact rfl)
    (focus exact rfl)
    (walk_at "gz_nr")
    walk_at "gz_st"
    exact ⟨l', m', r', b', d2, rfl, p', S2.mono (by omega)⟩
  · refine Gz.ite_f (by simpa [eqD] using e7) ?_
    obtain ⟨_, hy, l1, m1, r1, b1, d2, rfl, p1, S2⟩ := c26 n (k + 1) (by omega) d1 S1 p hm hb1 hb2
    walk_at "gz_st"
    apply Gz.wc (h3 := hy)
    (focus exact rfl)
    (focus exact rfl)
    (walk_at "gz_nr")
    refine ⟨_, [.ow d2, .va (.str cols), .va (pt l m r b), .va (.int u), .va (.str l1), .va (.str m1), .va (.str r1), .va (.int b1)], rfl, rfl, ?_⟩
    refine Gz.seq_nx (Gz.ws_seq (Gz.WS.imp (Z := midO cols (pt l m r b) u b1 (k + 10)) ?_ ?_))
    · have go : WS P (callF P 1000 (n + 3)) 3 1000 (.asg (.nm 5) (.call 27 (.cons (.var 0) (.cons (.var 1) (.cons (.var 5) .nil))))) false [.ow d2, .va (.str cols), .va (pt l m r b), .va (.int u), .va (.str l1), .va (.str m1), .va (.str r1), .va (.int b1)] (midO cols (pt l m r b) u b1 (k + 10)) := by
        obtain ⟨_, hz, t, d3, rfl, t1, t2, S3⟩ := c27 (n + 1) (k + 1 + 4) (by omega) d2 S2 cols m1 h2 h9 (by have := p1.m4; omega) p1.gm
        walk_at "gz_st"
        apply Gz.wc (h3 := hz)
        (focus exact rfl)
        (focus exact rfl)
        (walk_at "gz_nr")
        walk_at "gz_st"
        exact ⟨_, _, _, _, rfl, ⟨p1.l1, p1.l6, by rw [t1]; exact p1.m4, p1.r1, p1.r6, p1.gl, t2, p1.gr, p1.b1, p1.b2⟩, S3.mono (by omega)⟩
      walk_at "gz_st"
      by_cases e3 : u = 3
      · exact Gz.ite_f (by simp [eqD, e3]) (Gz.ite_t (by simp [eqD, e3]) go)
      · refine Gz.ite_t (by simp [eqD, e3]) ?_
        walk_at "gz_st"
        by_cases e4 : u = 4
        · exact Gz.ite_f (by simp [eqD, e4]) (Gz.ite_t (by simp [eqD, e4]) go)
        · refine Gz.ite_t (by simp [eqD, e4]) ?_
          walk_at "gz_st"
          exact ⟨_, _, _, _, rfl, p1, S2.mono (by omega)⟩
    · rintro o ⟨l2, m2, r2, d3, rfl, p2, S3⟩
      refine Gz.seq_nx (Gz.ws_seq (Gz.WS.imp (Z := midO cols (pt l m r b) u b1 (k + 20)) ?_ ?_))
      · walk_at "gz_st"
        by_cases e4 : u = 4
        · obtain ⟨_, hz, t, d4, rfl, t1, t2, S4⟩ := c27 (n + 1) (k + 10) (by omega) d3 S3 cols m2 h2 h9 (by have := p2.m4; omega) p2.gm
          refine Gz.ite_t (by simp [eqD, e4]) ?_
          walk_at "gz_st"
          apply Gz.wc (h3 := hz)
          (focus exact rfl)
          (focus exact rfl)
          (walk_at "gz_nr")
          walk_at "gz_st"
          exact ⟨_, _, _, _, rfl, ⟨p2.l1, p2.l6, by rw [t1]; exact p2.m4, p2.r1, p2.r6, p2.gl, t2, p2.gr, p2.b1, p2.b2⟩, S4.mono (by omega)⟩
        · refine Gz.ite_f (by simp [eqD, e4]) ?_
          walk_at "gz_st"
          exact ⟨_, _, _, _, rfl, p2, S3.mono (by omega)⟩
      · rintro o ⟨l3, m3, r3, d4, rfl, p3, S4⟩
        refine Gz.seq_nx (Gz.ws_seq (Gz.WS.imp (Z := midO cols (pt l m r b) u b1 (k + 30)) ?_ ?_))
        · walk_at "gz_st"
          by_cases e5 : u = 5
          · obtain ⟨_, hz, t, d5, rfl, t1, t2, S5⟩ := c27 (n + 1) (k + 20) (by omega) d4 S4 cols l3 h2 h9 (by have := p3.l6; omega) p3.gl
            refine Gz.ite_t (by simp [eqD, e5]) ?_
            walk_at "gz_st"
            apply Gz.wc (h3 := hz)
            (focus exact rfl)
            (focus exact rfl)
            (walk_at "gz_nr")
            walk_at "gz_st"
            exact ⟨_, _, _, _, rfl, ⟨by rw [t1]; exact p3.l1, by rw [t1]; exact p3.l6, p3.m4, p3.r1, p3.r6, t2, p3.gm, p3.gr, p3.b1, p3.b2⟩, S5.mono (by omega)⟩
          · refine Gz.ite_f (by simp [eqD, e5]) ?_
            walk_at "gz_st"
            exact ⟨_, _, _, _, rfl, p3, S4.mono (by omega)⟩
        · rintro o ⟨l4, m4, r4, d5, rfl, p4, S5⟩
          refine Gz.seq_nx (Gz.ws_seq (Gz.WS.imp (Z := midO cols (pt l m r b) u b1 (k + 40)) ?_ ?_))
          · walk_at "gz_st"
            by_cases e6 : u = 6
            · obtain ⟨_, hz, t, d6, rfl, t1, t2, S6⟩ := c27 (n + 1) (k + 30) (by omega) d5 S5 cols r4 h2 h9 (by have := p4.r6; omega) p4.gr
              refine Gz.ite_t (by simp [eqD, e6]) ?_
              walk_at "gz_st"
              apply Gz.wc (h3 := hz)
              (focus exact rfl)
              (focus exact rfl)
              (walk_at "gz_nr")
              walk_at "gz_st"
              exact ⟨_, _, _, _, rfl, ⟨p4.l1, p4.l6, p4.m4, by rw [t1]; exact p4.r1, by rw [t1]; exact p4.r6, p4.gl, p4.gm, t2, p4.b1, p4.b2⟩, S6.mono (by omega)⟩
            · refine Gz.ite_f (by simp [eqD, e6]) ?_
              walk_at "gz_st"
              exact ⟨_, _, _, _, rfl, p4, S5.mono (by omega)⟩
          · rintro o ⟨l5, m5, r5, d6, rfl, p5, S6⟩
            refine Gz.seq_nx ?_
            walk_at "gz_st"
            exact ⟨_, _, _, _, _, rfl, p5, S6.mono (by omega)⟩
end K40
set_option Elab.async false
set_option linter.all false
set_option maxRecDepth 100000
set_option maxHeartbeats 400000
namespace K40
open Gal Gz PySem L2
theorem add_l {a b : List D} (h : a.length + b.length ≤ LIM) : opD .add [.lst a, .lst b] = some (true, .lst (a ++ b)) := by
  simp only [opD, op2D, addD]
  exact if_pos h
theorem put_fr {np i : Nat} {d : D} {e e' : Gal.Env} {s : Sl} (h : e[i]? = some s) (q : Fr s) (he : e.set i (.va d) = e') : putT np (.nm i) d e = some e' := by
  subst he
  show putTs np [i] [d] e = _
  unfold putTs
  rw [h]
  rcases q with rfl | ⟨x, rfl⟩ <;> rfl
theorem c30 (n : Nat) (sc : D) {cols l m r : List Nat} {b : Int} (p : Pt cols l m r b) :
    callF P 1000 (n + 2) 30 [.ow (endl sc l m r b), .va (pt l m r b)] = some (.rt false (.bl true) [.ow (endl sc l m r b), .va (pt l m r b)]) := by
  have b1 := p.b1; have b2 := p.b2; have m4 := p.m4
  refine Gz.cq_eq (Gz.call_q f30 rfl ?_)
  unfold b30
  walk_at "gz_st"
  refine ⟨_, _, rfl, ⟨by omega, by omega, by omega, by omega, by omega⟩, ?_⟩
  walk_at "gz_st"
  refine Gz.op_q rfl (add_l (by simp [rangeF]; show _ ≤ 16777216; omega)) ?_
  walk_at "gz_st"
  generalize hL : (rangeF (b - 8) 1 (b + ↑m.length + 8 - (b - 8)).toNat ++ [D.int (-1000), D.int (-999), D.int 998, D.int 1000]) = L
  have hI : ∀ x ∈ L, ∃ i : Int, x = .int i := by
    subst hL
    intro x hx
    rcases List.mem_append.mp hx with hx | hx
    · obtain ⟨i, _, rfl⟩ := List.mem_map.mp hx
      exact ⟨_, rfl⟩
    · simp at hx
      rcases hx with rfl | rfl | rfl | rfl <;> exact ⟨_, rfl⟩
  obtain ⟨o, ho, s3, s4, rfl⟩ := forL_inv (put := putT 2 (.nm 3)) (body := evS P (callF P 1000 (n + 1)) 2 1000 (.seq (.asg (.nm 4) (.meth 10 (.var 0) (.cons (.var 3) .nil))) (.ite (.bool false (.cons (.not (.isi .str (.var 4))) (.cons (.op .ne (.cons (.var 4) (.cons (.call 22 (.cons (.var 1) (.cons (.var 3) .nil))) .nil))) .nil))) (.ret (.con (.bl false))) (.nop))) false)
    (fun xs e => (∀ x ∈ xs, ∃ i : Int, x = .int i) ∧ ∃ s3 s4, Fr s3 ∧ Fr s4 ∧ e = [.ow (endl sc l m r b), .va (pt l m r b), .lk (.lst L), s3, s4]) (fun o => ∃ s3 s4, o = .nx [.ow (endl sc l m r b), .va (pt l m r b), .lk (.lst L), s3, s4])
    (fun x xs e ⟨hx, s3, s4, h3, h4, he⟩ => by
      subst he
      obtain ⟨i, rfl⟩ := hx x (List.mem_cons_self ..)
      refine ⟨[.ow (endl sc l m r b), .va (pt l m r b), .lk (.lst L), .va (.int i), s4], ?_⟩
      have z : WS P (callF P 1000 (n + 1)) 2 1000 (.seq (.asg (.nm 4) (.meth 10 (.var 0) (.cons (.var 3) .nil))) (.ite (.bool false (.cons (.not (.isi .str (.var 4))) (.cons (.op .ne (.cons (.var 4) (.cons (.call 22 (.cons (.var 1) (.cons (.var 3) .nil))) .nil))) .nil))) (.ret (.con (.bl false))) (.nop))) false [.ow (endl sc l m r b), .va (pt l m r b), .lk (.lst L), .va (.int i), s4] (fun o => o = .nx [.ow (endl sc l m r b), .va (pt l m r b), .lk (.lst L), .va (.int i), .va (.str [colC l m r b i])]) := by
        rcases h4 with rfl | ⟨d4, rfl⟩
        all_goals
          walk_at "gz_st"
          refine ⟨_, _, _, rfl, rfl, ?_⟩
          walk_at "gz_st"
          apply Gz.wc (h3 := (c11 n sc l m r b i p.l1 p.r1))
          (focus exact rfl)
          (focus exact rfl)
          (walk_at "gz_nr")
          walk_at "gz_st"
          apply Gz.wc (h3 := (c22 n l m r b i p.l1 p.r1))
          (focus exact rfl)
          (focus exact rfl)
          (walk_at "gz_nr")
          walk_at "gz_st"
          refine Gz.ite_t (by simp [eqD]) ?_
          walk_at "gz_st"
          rfl
      obtain ⟨o, h1, rfl⟩ := z
      refine ⟨_, put_fr rfl h3 rfl, h1, fun y hy => hx y (List.mem_cons_of_mem _ hy), _, _, .inr ⟨_, rfl⟩, .inr ⟨_, rfl⟩, rfl⟩) (fun e ⟨_, s3, s4, _, _, he⟩ => ⟨s3, s4, by rw [he]⟩) L [.ow (endl sc l m r b), .va (pt l m r b), .lk (.lst L), .un, .un] ⟨hI, .un, .un, .inl rfl, .inl rfl, rfl⟩
  refine ⟨_, _, _, rfl, ho, ?_⟩
  refine Gz.seq_nx (e := [.ow (endl sc l m r b), .va (pt l m r b), .ow (.lst L), s3, s4]) ?_
  walk_at "gz_st"
  rfl
end K40
set_option Elab.async false
set_option linter.all false
set_option maxRecDepth 100000
set_option maxHeartbeats 400000
namespace K40
open Gal Gz PySem L2
def PairOk (x : D) : Prop := ∃ lo hi : Int, x = .tup [.int lo, .int hi] ∧ -100000 < lo ∧ lo < 100000 ∧ -100000 < hi ∧ hi < 100000
def body31a : S := .seq (.asg (.nm 5) (.op .sub (.cons (.op .add (.cons (.op .ix (.cons (.var 2) (.cons (.con (.int 3)) .nil))) (.cons (.call 19 (.cons (.var 0) (.cons (.con (.int 50)) .nil))) .nil))) (.cons (.con (.int 30)) .nil))))
    (.app 3 (.tup (.cons (.var 5) (.cons (.op .sub (.cons (.op .add (.cons (.var 5) (.cons (.call 19 (.cons (.var 0) (.cons (.con (.int 51)) .nil))) .nil))) (.cons (.con (.int 5)) .nil))) .nil))))
def body31b : S := .seq (.asg (.nm 7) (.meth 11 (.var 1) (.cons (.var 5) (.cons (.var 6) .nil))))
    (.ite (.bool false (.cons (.not (.isi .str (.var 7))) (.cons (.op .ne (.cons (.var 7) (.cons (.call 23 (.cons (.var 2) (.cons (.var 5) (.cons (.var 6) .nil)))) .nil))) .nil))) (.ret (.con (.bl false))) (.nop))
theorem c31 (n k : Nat) (hk : k ≤ 1000) (d : D) (hd : Sr k d) (sc : D) {cols l m r : List Nat} {b : Int} (p : Pt cols l m r b) :
    CQ (callF P 1000 (n + 3) 31 [.ow d, .ow (endl sc l m r b), .va (pt l m r b)]) (fun x => ∃ d', x = .rt false (.bl true) [.ow d', .ow (endl sc l m r b), .va (pt l m r b)] ∧ Sr (k + 6) d') := by
  have b1 := p.b1; have b2 := p.b2
  refine Gz.call_q f31 rfl ?_
  unfold b31
  walk_at "gz_st"
  generalize hL : ([D.tup [D.int (-1000), D.int (-961)], D.tup [D.int 961, D.int 1000], D.tup [D.int b, D.int b], D.tup [D.int (b + 3), D.int (b - 4)]] : List D) = L
  have hI : (∀ x ∈ L, PairOk x) ∧ L.length = 4 := by
    subst hL
    refine ⟨fun x hx => ?_, rfl⟩
    simp at hx
    rcases hx with rfl | rfl | rfl | rfl <;> exact ⟨_, _, rfl, by omega, by omega, by omega, by omega⟩
  obtain ⟨o, ho, d2, L2, s4, s5, rfl, h4, h5, S2, g2⟩ := forL_inv (put := putT 3 (.nm 4)) (body := evS P (callF P 1000 (n + 2)) 3 1000 body31a false)
    (fun xs e => ∃ d' L' s4 s5, e = [.ow d', .ow (endl sc l m r b), .va (pt l m r b), .ow (.lst L'), s4, s5, .un, .un] ∧ Fr s4 ∧ Fr s5 ∧ Sr (k + 2 * (3 - xs.length)) d' ∧ (∀ x ∈ L', PairOk x) ∧ L'.length ≤ 100 - xs.length ∧ xs.length ≤ 3)
    (fun o => ∃ d' L' s4 s5, o = .nx [.ow d', .ow (endl sc l m r b), .va (pt l m r b), .ow (.lst L'), s4, s5, .un, .un] ∧ Fr s4 ∧ Fr s5 ∧ Sr (k + 6) d' ∧ (∀ x ∈ L', PairOk x))
    (fun x xs e ⟨d', L', s4, s5, he, h4, h5, S', g', hl', hx3⟩ => by
      subst he
      simp only [List.length_cons] at S' hl' hx3
      refine ⟨[.ow d', .ow (endl sc l m r b), .va (pt l m r b), .ow (.lst L'), .va x, s5, .un, .un], ?_⟩
      obtain ⟨_, hx, u1, d2, rfl, a1, a2, S1⟩ := c19 (n + 1) (k + 2 * (3 - (xs.length + 1))) (by omega) d' S' 50 (by omega) (by omega)
      obtain ⟨_, hy, u2, d3, rfl, a3, a4, S2⟩ := c19 (n + 1) (k + 2 * (3 - (xs.length + 1)) + 1) (by omega) d2 S1 51 (by omega) (by omega)
      have z : WS P (callF P 1000 (n + 2)) 3 1000 body31a false [.ow d', .ow (endl sc l m r b), .va (pt l m r b), .ow (.lst L'), .va x, s5, .un, .un] (fun o => o = .nx [.ow d3, .ow (endl sc l m r b), .va (pt l m r b), .ow (.lst (L' ++ [.tup [.int (b + u1 - 30), .int (b + u1 - 30 + u2 - 5)]])), .va x, .va (.int (b + u1 - 30)), .un, .un]) := by
        unfold body31a
        rcases h5 with rfl | ⟨d5, rfl⟩
        all_goals
          walk_at "gz_st"
          apply Gz.wc (h3 := hx)
          (focus exact rfl)
          (focus exact rfl)
          (walk_at "gz_nr")
          walk_at "gz_st"
          refine Gz.ws_app rfl ?_
          walk_at "gz_st"
          apply Gz.wc (h3 := hy)
          (focus exact rfl)
          (focus exact rfl)
          (walk_at "gz_nr")
          walk_at "gz_st"
          refine ⟨_, _, _, rfl, rfl, by show _ < 16777216; omega, rfl⟩
      obtain ⟨o, h1, rfl⟩ := z
      refine ⟨_, put_fr rfl h4 rfl, h1, _, _, _, _, rfl, .inr ⟨_, rfl⟩, .inr ⟨_, rfl⟩, S2.mono (by omega), ?_, ?_, by omega⟩
      · intro y hy
        rcases List.mem_append.mp hy with hy | hy
        · exact g' y hy
        · rw [List.mem_singleton.mp hy]
          exact ⟨_, _, rfl, by omega, by omega, by omega, by omega⟩
      · rw [List.length_append]; simp; omega) (fun e ⟨d', L', s4, s5, he, h4, h5, S', g', _, _⟩ => ⟨d', L', s4, s5, by rw [he], h4, h5, S', g'⟩) (rangeF 0 1 3) [.ow d, .ow (endl sc l m r b), .va (pt l m r b), .ow (.lst L), .un, .un, .un, .un] ⟨d, L, .un, .un, rfl, .inl rfl, .inl rfl, hd, hI.1, by rw [hI.2]; decide, by decide⟩
  refine ⟨_, _, _, Gz.walk_1 (by omega) rfl, ho, ?_⟩
  refine Gz.seq_nx (e := [.ow d2, .ow (endl sc l m r b), .va (pt l m r b), .ow (.lst L2), s4, s5, .un, .un]) ?_
  walk_at "gz_st"
  obtain ⟨o, ho, t5, t6, t7, rfl⟩ := forL_inv (put := putT 3 (.tp [5, 6])) (body := evS P (callF P 1000 (n + 2)) 3 1000 body31b false)
    (fun xs e => (∀ x ∈ xs, PairOk x) ∧ ∃ s5 s6 s7, Fr s5 ∧ Fr s6 ∧ Fr s7 ∧ e = [.ow d2, .ow (endl sc l m r b), .va (pt l m r b), .lk (.lst L2), s4, s5, s6, s7])
    (fun o => ∃ s5 s6 s7, o = .nx [.ow d2, .ow (endl sc l m r b), .va (pt l m r b), .lk (.lst L2), s4, s5, s6, s7])
    (fun x xs e ⟨hx, s5, s6, s7, h5, h6, h7, he⟩ => by
      subst he
      obtain ⟨lo, hi, rfl, l1, l2, l3, l4⟩ := hx x (List.mem_cons_self ..)
      refine ⟨[.ow d2, .ow (endl sc l m r b), .va (pt l m r b), .lk (.lst L2), s4, .va (.int lo), .va (.int hi), s7], ?_⟩
      have z : WS P (callF P 1000 (n + 2)) 3 1000 body31b false [.ow d2, .ow (endl sc l m r b), .va (pt l m r b), .lk (.lst L2), s4, .va (.int lo), .va (.int hi), s7] (fun o => o = .nx [.ow d2, .ow (endl sc l m r b), .va (pt l m r b), .lk (.lst L2), s4, .va (.int lo), .va (.int hi), .va (.str (winC l m r b lo hi))]) := by
        unfold body31b
        rcases h7 with rfl | ⟨d7, rfl⟩
        all_goals
          walk_at "gz_st"
          refine ⟨_, _, _, rfl, rfl, ?_⟩
          walk_at "gz_st"
          apply Gz.wc (h3 := (c12 n sc l m r b lo hi p.l1 p.r1 l1 l2 l3 l4))
          (focus exact rfl)
          (focus exact rfl)
          (walk_at "gz_nr")
          walk_at "gz_st"
          apply Gz.wc (h3 := (c23 n l m r b lo hi p.l1 p.r1 l1 l2 l3 l4))
          (focus exact rfl)
          (focus exact rfl)
          (walk_at "gz_nr")
          walk_at "gz_st"
          refine Gz.ite_t (by simp [eqD]) ?_
          walk_at "gz_st"
          rfl
      obtain ⟨o, h1, rfl⟩ := z
      refine ⟨_, ?_, h1, fun y hy => hx y (List.mem_cons_of_mem _ hy), _, _, _, .inr ⟨_, rfl⟩, .inr ⟨_, rfl⟩, .inr ⟨_, rfl⟩, rfl⟩
      rcases h5 with rfl | ⟨x5, rfl⟩ <;> rcases h6 with rfl | ⟨x6, rfl⟩ <;> rfl) (fun e ⟨_, s5, s6, s7, _, _, _, he⟩ => ⟨s5, s6, s7, by rw [he]⟩) L2 [.ow d2, .ow (endl sc l m r b), .va (pt l m r b), .lk (.lst L2), s4, s5, .un, .un] ⟨g2, s5, .un, .un, h5, .inl rfl, .inl rfl, rfl⟩
  refine ⟨_, _, _, rfl, ho, ?_⟩
  refine Gz.seq_nx (e := [.ow d2, .ow (endl sc l m r b), .va (pt l m r b), .ow (.lst L2), s4, t5, t6, t7]) ?_
  walk_at "gz_st"
  exact ⟨d2, rfl, S2⟩
end K40
set_option Elab.async false
set_option linter.all false
set_option maxRecDepth 100000
set_option maxHeartbeats 400000
namespace K40
open Gal Gz PySem L2
/-! ### what the two readings tell -/
theorem lo_comm (b b' : Int) : loM b' b = loM b b' := by unfold loM; split <;> split <;> omega
theorem hi_comm (m m' : List Nat) (b b' : Int) : hiM m' m b' b = hiM m m' b b' := by unfold hiM; split <;> split <;> omega
theorem bef_comm (l l' : List Nat) (b b' : Int) : befM l' l b' b = befM l l' b b' := by unfold befM; rw [lo_comm, Int.mul_comm]
theorem beh_comm (m r m' r' : List Nat) (b b' : Int) : behM m' r' m r b' b = behM m r m' r' b b' := by unfold behM; rw [hi_comm, Int.mul_comm]
theorem beqL (a b : List Nat) : (a == b) = (b == a) := by
  rw [Bool.eq_iff_iff, beq_iff_eq, beq_iff_eq]
  exact eq_comm
theorem same_comm (l m r : List Nat) (b : Int) (l' m' r' : List Nat) (b' : Int) : sameB l' m' r' b' l m r b = sameB l m r b l' m' r' b' := by
  unfold sameB
  rw [bef_comm, lo_comm, beh_comm, hi_comm, beqL, beqL (winC l' m' r' b' (hiM m m' b b') _)]
theorem eq_comm' (l m r : List Nat) (b : Int) (l' m' r' : List Nat) (b' : Int) : eqB l' m' r' b' l m r b = eqB l m r b l' m' r' b' := by
  unfold eqB
  rw [same_comm, lo_comm, hi_comm, beqL]
theorem gap_comm (l m r : List Nat) (b : Int) (l' m' r' : List Nat) (b' : Int) : gapL l' m' r' b' l m r b = gapL l m r b l' m' r' b' := by
  unfold gapL
  rw [lo_comm, hi_comm]
  congr 1
  funext i
  by_cases h : colC l m r b (loM b b' + (i : Int) * 1) = colC l' m' r' b' (loM b b' + (i : Int) * 1)
  · rw [if_pos h, if_pos h.symm]
  · rw [if_neg h, if_neg (fun z => h z.symm)]
theorem eq_gap (l m r : List Nat) (b : Int) (l' m' r' : List Nat) (b' : Int) : eqB l m r b l' m' r' b' = (sameB l m r b l' m' r' b' && (gapL l m r b l' m' r' b').isEmpty) := by
  unfold eqB
  congr 1
  rw [Bool.eq_iff_iff, beq_iff_eq, List.isEmpty_iff]
  unfold gapL winC
  rw [List.filterMap_eq_nil_iff, List.map_inj_left]
  constructor
  · intro h i hi
    rw [if_pos (h i hi)]
  · intro h i hi
    have := h i hi
    by_cases q : colC l m r b (loM b b' + (i : Int) * 1) = colC l' m' r' b' (loM b b' + (i : Int) * 1)
    · exact q
    · rw [if_neg q] at this; cases this
theorem eq_self (l m r : List Nat) (b : Int) : eqB l m r b l m r b = true := by
  unfold eqB sameB
  simp
theorem okEq_ints (k : Nat) (gs : List Int) : okEq (k + 2) (.lst (gs.map D.int)) = true := by
  show (gs.map D.int).all (okEq (k + 1)) = true
  rw [List.all_map, List.all_eq_true]
  intro x _
  rfl
theorem eq_nil (gs : List Int) : opD .eq [.lst (gs.map D.int), .lst []] = some (false, .bl gs.isEmpty) := by
  simp only [opD, op2D, eqqD]
  rw [show okEq 60 (.lst (gs.map D.int)) = true from okEq_ints 58 gs]
  cases gs <;> rfl
theorem ix_int {gs : List Int} {k : Nat} (h : k < gs.length) : opD .ix [.lst (gs.map D.int), .int (0 + (k : Int) * 1)] = some (false, .int (gs[k])) := by
  show (atI (gs.map D.int) _).map _ = _
  unfold atI ixN
  rw [List.length_map, if_pos (by omega), if_pos (by omega)]
  rw [show ((0 : Int) + (k : Int) * 1).toNat = k by omega]
  show ((gs.map D.int)[k]?).map _ = _
  rw [List.getElem?_map, List.getElem?_eq_getElem h]
  rfl
end K40
set_option Elab.async false
set_option linter.all false
set_option maxRecDepth 100000
set_option maxHeartbeats 400000
namespace K40
open Gal Gz PySem L2
def body32a : S := .ite (.bool false (.cons (.not (.isi .bool (.var 3))) (.cons (.op .ne (.cons (.var 3) (.cons (.op .eq (.cons (.var 2) (.cons (.lst .nil) .nil))) .nil))) .nil))) (.ret (.con (.bl false))) (.nop)
def body32k : S := .ite (.bool false (.cons (.not (.isi .int (.op .ix (.cons (.var 5) (.cons (.var 6) .nil))))) (.cons (.isi .bool (.op .ix (.cons (.var 5) (.cons (.var 6) .nil)))) (.cons (.op .ne (.cons (.op .ix (.cons (.var 5) (.cons (.var 6) .nil))) (.cons (.op .ix (.cons (.var 2) (.cons (.var 6) .nil))) .nil))) .nil)))) (.ret (.con (.bl false))) (.nop)
def body32b : S := .seq (.asg (.nm 5) (.call 17 (.cons (.var 0) (.cons (.var 1) .nil))))
    (.seq (.ite (.op .eq (.cons (.var 4) (.cons (.con (.int 1)) .nil))) (.asg (.nm 5) (.call 17 (.cons (.var 1) (.cons (.var 0) .nil)))) (.nop))
    (.ite (.op .is_ (.cons (.var 2) (.cons (.con .non) .nil))) (.ite (.op .isnot (.cons (.var 5) (.cons (.con .non) .nil))) (.ret (.con (.bl false))) (.nop)) (.seq (.ite (.bool false (.cons (.not (.isi .list (.var 5))) (.cons (.op .ne (.cons (.op .len (.cons (.var 5) .nil)) (.cons (.op .len (.cons (.var 2) .nil)) .nil))) .nil))) (.ret (.con (.bl false))) (.nop))
    (.seq (.for_ (.nm 6) .range1 (.cons (.op .len (.cons (.var 2) .nil)) .nil) body32k)
    (.app 5 (.con (.int 0)))))))
def Ow5 (s : Sl) : Prop := s = .un ∨ (∃ d, s = .va d) ∨ ∃ d, s = .ow d
/-- the first loop -/
theorem l32a (F : Gal.Callee) (A B : D) (sg : Sl) (gd : D) (q : Bool) (hg : sg = .va gd ∨ sg = .ow gd) (he : opD .eq [gd, .lst []] = some (false, .bl q)) (s4 s5 s6 : Sl) :
    ∃ s3, forL (putT 3 (.nm 3)) (evS P F 3 1000 body32a false) [.bl q, .bl q] [.ow A, .ow B, sg, .un, s4, s5, s6] = some (.nx [.ow A, .ow B, sg, s3, s4, s5, s6]) := by
  obtain ⟨o, ho, s3, rfl⟩ := forL_inv (put := putT 3 (.nm 3)) (body := evS P F 3 1000 body32a false)
    (fun xs e => (∀ x ∈ xs, x = .bl q) ∧ ∃ s3, Fr s3 ∧ e = [.ow A, .ow B, sg, s3, s4, s5, s6]) (fun o => ∃ s3, o = .nx [.ow A, .ow B, sg, s3, s4, s5, s6])
    (fun x xs e ⟨hx, s3, h3, hE⟩ => by
      subst hE
      have := hx x (List.mem_cons_self ..)
      subst this
      refine ⟨[.ow A, .ow B, sg, .va (.bl q), s4, s5, s6], ?_⟩
      have z : WS P F 3 1000 body32a false [.ow A, .ow B, sg, .va (.bl q), s4, s5, s6] (fun o => o = .nx [.ow A, .ow B, sg, .va (.bl q), s4, s5, s6]) := by
        unfold body32a
        rcases hg with rfl | rfl
        all_goals
          walk_at "gz_st"
          refine Gz.op_q rfl he ?_
          walk_at "gz_st"
          refine Gz.ite_t (by simp [eqD]) ?_
          walk_at "gz_st"
          rfl
      obtain ⟨o, h1, rfl⟩ := z
      exact ⟨_, put_fr rfl h3 rfl, h1, fun y hy => hx y (List.mem_cons_of_mem _ hy), _, .inr ⟨_, rfl⟩, rfl⟩) (fun e ⟨_, s3, _, hE⟩ => ⟨s3, by rw [hE]⟩) [.bl q, .bl q] [.ow A, .ow B, sg, .un, s4, s5, s6] ⟨by simp, .un, .inl rfl, rfl⟩
  exact ⟨s3, ho⟩
/-- the innermost loop -/
theorem l32k (F : Gal.Callee) (A B : D) (gs : List Int) (s3 s4 s6 : Sl) (h6 : Fr s6) :
    ∃ s6', Fr s6' ∧ forL (putT 3 (.nm 6)) (evS P F 3 1000 body32k false) (rangeF 0 1 gs.length) [.ow A, .ow B, .ow (.lst (gs.map D.int)), s3, s4, .ow (.lst (gs.map D.int)), s6] = some (.nx [.ow A, .ow B, .ow (.lst (gs.map D.int)), s3, s4, .ow (.lst (gs.map D.int)), s6']) := by
  obtain ⟨o, ho, s6', h6', rfl⟩ := forL_inv (put := putT 3 (.nm 6)) (body := evS P F 3 1000 body32k false)
    (fun xs e => (∀ x ∈ xs, ∃ k : Nat, k < gs.length ∧ x = .int (0 + (k : Int) * 1)) ∧ ∃ s6, Fr s6 ∧ e = [.ow A, .ow B, .ow (.lst (gs.map D.int)), s3, s4, .ow (.lst (gs.map D.int)), s6]) (fun o => ∃ s6, Fr s6 ∧ o = .nx [.ow A, .ow B, .ow (.lst (gs.map D.int)), s3, s4, .ow (.lst (gs.map D.int)), s6])
    (fun x xs e ⟨hx, s6, h6, hE⟩ => by
      subst hE
      obtain ⟨k, hk, rfl⟩ := hx x (List.mem_cons_self ..)
      refine ⟨[.ow A, .ow B, .ow (.lst (gs.map D.int)), s3, s4, .ow (.lst (gs.map D.int)), .va (.int (0 + (k : Int) * 1))], ?_⟩
      have z : WS P F 3 1000 body32k false [.ow A, .ow B, .ow (.lst (gs.map D.int)), s3, s4, .ow (.lst (gs.map D.int)), .va (.int (0 + (k : Int) * 1))] (fun o => o = .nx [.ow A, .ow B, .ow (.lst (gs.map D.int)), s3, s4, .ow (.lst (gs.map D.int)), .va (.int (0 + (k : Int) * 1))]) := by
        unfold body32k
        walk_at "gz_st"
        refine Gz.op_q rfl (ix_int hk) ?_
        walk_at "gz_st"
        refine Gz.op_q rfl (ix_int hk) ?_
        walk_at "gz_st"
        refine Gz.op_q rfl (ix_int hk) ?_
        walk_at "gz_st"
        refine Gz.op_q rfl (ix_int hk) ?_
        walk_at "gz_st"
        refine Gz.ite_t (by simp [eqD]) ?_
        walk_at "gz_st"
        rfl
      obtain ⟨o, h1, rfl⟩ := z
      exact ⟨_, put_fr rfl h6 rfl, h1, fun y hy => hx y (List.mem_cons_of_mem _ hy), _, .inr ⟨_, rfl⟩, rfl⟩) (fun e ⟨_, s6, h6, hE⟩ => ⟨s6, h6, by rw [hE]⟩) (rangeF 0 1 gs.length) [.ow A, .ow B, .ow (.lst (gs.map D.int)), s3, s4, .ow (.lst (gs.map D.int)), s6] ⟨fun x hx => by
        obtain ⟨i, hi, rfl⟩ := List.mem_map.mp hx
        exact ⟨i, List.mem_range.mp hi, rfl⟩, s6, h6, rfl⟩
  exact ⟨s6', h6', ho⟩
end K40
set_option Elab.async false
set_option linter.all false
set_option maxRecDepth 100000
set_option maxHeartbeats 400000
namespace K40
open Gal Gz PySem L2
theorem l32L (F : Gal.Callee) (A B : D) (gs : List Int) (hlen : gs.length ≤ 10000) (h1 : F 17 [.ow A, .ow B] = some (.rt true (.lst (gs.map D.int)) [.ow A, .ow B])) (h2 : F 17 [.ow B, .ow A] = some (.rt true (.lst (gs.map D.int)) [.ow B, .ow A])) (s3 : Sl) :
    ∃ s4 s5 s6, forL (putT 3 (.nm 4)) (evS P F 3 1000 body32b false) (rangeF 0 1 3) [.ow A, .ow B, .ow (.lst (gs.map D.int)), s3, .un, .un, .un] = some (.nx [.ow A, .ow B, .ow (.lst (gs.map D.int)), s3, s4, s5, s6]) := by
  obtain ⟨o, ho, s4, s5, s6, rfl⟩ := forL_inv (put := putT 3 (.nm 4)) (body := evS P F 3 1000 body32b false)
    (fun xs e => (∀ x ∈ xs, ∃ i : Int, x = .int i) ∧ ∃ s4 s5 s6, Fr s4 ∧ Ow5 s5 ∧ Fr s6 ∧ e = [.ow A, .ow B, .ow (.lst (gs.map D.int)), s3, s4, s5, s6]) (fun o => ∃ s4 s5 s6, o = .nx [.ow A, .ow B, .ow (.lst (gs.map D.int)), s3, s4, s5, s6])
    (fun x xs e ⟨hx, s4, s5, s6, h4, h5, h6, hE⟩ => by
      subst hE
      obtain ⟨i, rfl⟩ := hx x (List.mem_cons_self ..)
      refine ⟨[.ow A, .ow B, .ow (.lst (gs.map D.int)), s3, .va (.int i), s5, s6], ?_⟩
      have z : WS P F 3 1000 body32b false [.ow A, .ow B, .ow (.lst (gs.map D.int)), s3, .va (.int i), s5, s6] (fun o => ∃ s5 s6, Ow5 s5 ∧ Fr s6 ∧ o = .nx [.ow A, .ow B, .ow (.lst (gs.map D.int)), s3, .va (.int i), s5, s6]) := by
        unfold body32b
        refine Gz.ws_seq (Gz.WS.imp (Z := fun o => o = .nx [.ow A, .ow B, .ow (.lst (gs.map D.int)), s3, .va (.int i), .ow (.lst (gs.map D.int)), s6]) ?_ ?_)
        · rcases h5 with rfl | ⟨d5, rfl⟩ | ⟨d5, rfl⟩
          all_goals
            walk_at "gz_st"
            apply Gz.wc (h3 := h1)
            (focus exact rfl)
            (focus exact rfl)
            (walk_at "gz_nr")
            walk_at "gz_st"
            rfl
        · rintro o rfl
          refine Gz.seq_nx (Gz.ws_seq (Gz.WS.imp (Z := fun o => o = .nx [.ow A, .ow B, .ow (.lst (gs.map D.int)), s3, .va (.int i), .ow (.lst (gs.map D.int)), s6]) ?_ ?_))
          · walk_at "gz_st"
            by_cases e1 : i = 1
            · refine Gz.ite_t (by simp [eqD, e1]) ?_
              walk_at "gz_st"
              apply Gz.wc (h3 := h2)
              (focus exact rfl)
              (focus exact rfl)
              (walk_at "gz_nr")
              walk_at "gz_st"
              rfl
            · refine Gz.ite_f (by simp [eqD, e1]) ?_
              walk_at "gz_st"
              rfl
          · rintro o rfl
            refine Gz.seq_nx ?_
            walk_at "gz_st"
            refine Gz.ite_t (by simp [eqD]) ?_
            walk_at "gz_st"
            obtain ⟨s6', h6', hf⟩ := l32k F A B gs s3 (.va (.int i)) s6 h6
            refine ⟨_, _, _, Gz.walk_1 (by simp; omega) (by simp), hf, ?_⟩
            refine Gz.seq_nx (e := [.ow A, .ow B, .ow (.lst (gs.map D.int)), s3, .va (.int i), .ow (.lst (gs.map D.int)), s6']) ?_
            refine Gz.ws_app rfl ?_
            walk_at "gz_st"
            exact ⟨_, _, _, rfl, rfl, by rw [List.length_map]; show _ < 16777216; omega, _, _, .inr (.inr ⟨_, rfl⟩), h6', rfl⟩
      obtain ⟨o, h1, s5, s6, h5, h6, rfl⟩ := z
      exact ⟨_, put_fr rfl h4 rfl, h1, fun y hy => hx y (List.mem_cons_of_mem _ hy), _, _, _, .inr ⟨_, rfl⟩, h5, h6, rfl⟩) (fun e ⟨_, s4, s5, s6, _, _, _, hE⟩ => ⟨s4, s5, s6, by rw [hE]⟩) (rangeF 0 1 3) [.ow A, .ow B, .ow (.lst (gs.map D.int)), s3, .un, .un, .un] ⟨fun x hx => by
        obtain ⟨i, hi, rfl⟩ := List.mem_map.mp hx
        exact ⟨_, rfl⟩, .un, .un, .un, .inl rfl, .inl rfl, .inl rfl, rfl⟩
  exact ⟨s4, s5, s6, ho⟩
theorem l32N (F : Gal.Callee) (A B : D) (h1 : F 17 [.ow A, .ow B] = some (.rt false .non [.ow A, .ow B])) (h2 : F 17 [.ow B, .ow A] = some (.rt false .non [.ow B, .ow A])) (s3 : Sl) :
    ∃ s4 s5 s6, forL (putT 3 (.nm 4)) (evS P F 3 1000 body32b false) (rangeF 0 1 3) [.ow A, .ow B, .va .non, s3, .un, .un, .un] = some (.nx [.ow A, .ow B, .va .non, s3, s4, s5, s6]) := by
  obtain ⟨o, ho, s4, s5, s6, rfl⟩ := forL_inv (put := putT 3 (.nm 4)) (body := evS P F 3 1000 body32b false)
    (fun xs e => (∀ x ∈ xs, ∃ i : Int, x = .int i) ∧ ∃ s4 s5 s6, Fr s4 ∧ Ow5 s5 ∧ Fr s6 ∧ e = [.ow A, .ow B, .va .non, s3, s4, s5, s6]) (fun o => ∃ s4 s5 s6, o = .nx [.ow A, .ow B, .va .non, s3, s4, s5, s6])
    (fun x xs e ⟨hx, s4, s5, s6, h4, h5, h6, hE⟩ => by
      subst hE
      obtain ⟨i, rfl⟩ := hx x (List.mem_cons_self ..)
      refine ⟨[.ow A, .ow B, .va .non, s3, .va (.int i), s5, s6], ?_⟩
      have z : WS P F 3 1000 body32b false [.ow A, .ow B, .va .non, s3, .va (.int i), s5, s6] (fun o => ∃ s5 s6, Ow5 s5 ∧ Fr s6 ∧ o = .nx [.ow A, .ow B, .va .non, s3, .va (.int i), s5, s6]) := by
        unfold body32b
        refine Gz.ws_seq (Gz.WS.imp (Z := fun o => o = .nx [.ow A, .ow B, .va .non, s3, .va (.int i), .va .non, s6]) ?_ ?_)
        · rcases h5 with rfl | ⟨d5, rfl⟩ | ⟨d5, rfl⟩
          all_goals
            walk_at "gz_st"
            apply Gz.wc (h3 := h1)
            (focus exact rfl)
            (focus exact rfl)
            (walk_at "gz_nr")
            walk_at "gz_st"
            rfl
        · rintro o rfl
          refine Gz.seq_nx (Gz.ws_seq (Gz.WS.imp (Z := fun o => o = .nx [.ow A, .ow B, .va .non, s3, .va (.int i), .va .non, s6]) ?_ ?_))
          · walk_at "gz_st"
            by_cases e1 : i = 1
            · refine Gz.ite_t (by simp [eqD, e1]) ?_
              walk_at "gz_st"
              apply Gz.wc (h3 := h2)
              (focus exact rfl)
              (focus exact rfl)
              (walk_at "gz_nr")
              walk_at "gz_st"
              rfl
            · refine Gz.ite_f (by simp [eqD, e1]) ?_
              walk_at "gz_st"
              rfl
          · rintro o rfl
            refine Gz.seq_nx ?_
            walk_at "gz_st"
            exact ⟨_, _, .inr (.inl ⟨_, rfl⟩), h6, rfl⟩
      obtain ⟨o, h1, s5, s6, h5, h6, rfl⟩ := z
      exact ⟨_, put_fr rfl h4 rfl, h1, fun y hy => hx y (List.mem_cons_of_mem _ hy), _, _, _, .inr ⟨_, rfl⟩, h5, h6, rfl⟩) (fun e ⟨_, s4, s5, s6, _, _, _, hE⟩ => ⟨s4, s5, s6, by rw [hE]⟩) (rangeF 0 1 3) [.ow A, .ow B, .va .non, s3, .un, .un, .un] ⟨fun x hx => by
        obtain ⟨i, hi, rfl⟩ := List.mem_map.mp hx
        exact ⟨_, rfl⟩, .un, .un, .un, .inl rfl, .inl rfl, .inl rfl, rfl⟩
  exact ⟨s4, s5, s6, ho⟩
end K40
set_option Elab.async false
set_option linter.all false
set_option maxRecDepth 100000
set_option maxHeartbeats 400000
namespace K40
open Gal Gz PySem L2
def gapS (l m r : List Nat) (b : Int) (l' m' r' : List Nat) (b' : Int) : Sl := if sameB l m r b l' m' r' b' = true then .ow (.lst ((gapL l m r b l' m' r' b').map D.int)) else .va .non
theorem c32 (n : Nat) (rr cc : Int) {cols l m r l' m' r' : List Nat} {b b' : Int} (p : Pt cols l m r b) (p' : Pt cols l' m' r' b') :
    callF P 1000 (n + 5) 32 [.ow (endl (sch rr cc cols) l m r b), .ow (endl (sch rr cc cols) l' m' r' b'), gapS l m r b l' m' r' b'] = some (.rt false (.bl true) [.ow (endl (sch rr cc cols) l m r b), .ow (endl (sch rr cc cols) l' m' r' b'), gapS l m r b l' m' r' b']) := by
  have C1 := c14 n rr cc p p'
  have C2 := c14 n rr cc p' p
  have G1 := c17 n rr cc p p'
  have G2 := c17 n rr cc p' p
  obtain ⟨B1, B2, B3, B4⟩ := bds p p'
  have hlen := gap_len l m r b l' m' r' b'
  rw [eq_comm'] at C2
  unfold gapR at G1 G2
  rw [same_comm, gap_comm] at G2
  unfold gapS
  rw [eq_gap] at C1 C2
  cases h : sameB l m r b l' m' r' b' with
  | false =>
    rw [h, if_neg (by simp)] at G1 G2
    rw [h, Bool.false_and] at C1 C2
    rw [if_neg (by simp)]
    obtain ⟨s3, h3⟩ := l32a (callF P 1000 (n + 4)) (endl (sch rr cc cols) l m r b) (endl (sch rr cc cols) l' m' r' b') (.va .non) .non false (.inl rfl) rfl .un .un .un
    obtain ⟨s4, s5, s6, h4⟩ := l32N (callF P 1000 (n + 4)) (endl (sch rr cc cols) l m r b) (endl (sch rr cc cols) l' m' r' b') G1 G2 s3
    refine Gz.cq_eq (Gz.call_q f32 rfl ?_)
    unfold b32
    walk_at "gz_st"
    apply Gz.op_c (h8 := C1)
    (focus exact rfl)
    (focus exact rfl)
    (focus exact rfl)
    (focus exact rfl)
    (focus exact rfl)
    (focus exact rfl)
    (walk_at "gz_nr")
    (focus exact rfl)
    walk_at "gz_st"
    apply Gz.op_c (h8 := C2)
    (focus exact rfl)
    (focus exact rfl)
    (focus exact rfl)
    (focus exact rfl)
    (focus exact rfl)
    (focus exact rfl)
    (walk_at "gz_nr")
    (focus exact rfl)
    walk_at "gz_st"
    refine ⟨_, _, _, rfl, h3, ?_⟩
    refine Gz.seq_nx (e := [.ow (endl (sch rr cc cols) l m r b), .ow (endl (sch rr cc cols) l' m' r' b'), .va .non, s3, .un, .un, .un]) ?_
    walk_at "gz_st"
    refine ⟨_, _, _, Gz.walk_1 (by omega) rfl, h4, ?_⟩
    refine Gz.seq_nx (e := [.ow (endl (sch rr cc cols) l m r b), .ow (endl (sch rr cc cols) l' m' r' b'), .va .non, s3, s4, s5, s6]) ?_
    walk_at "gz_st"
    rfl
  | true =>
    rw [h, if_pos rfl] at G1 G2
    rw [h, Bool.true_and] at C1 C2
    rw [if_pos rfl]
    generalize gapL l m r b l' m' r' b' = gs at *
    obtain ⟨s3, h3⟩ := l32a (callF P 1000 (n + 4)) (endl (sch rr cc cols) l m r b) (endl (sch rr cc cols) l' m' r' b') (.ow (.lst (gs.map D.int))) (.lst (gs.map D.int)) gs.isEmpty (.inr rfl) (eq_nil gs) .un .un .un
    obtain ⟨s4, s5, s6, h4⟩ := l32L (callF P 1000 (n + 4)) (endl (sch rr cc cols) l m r b) (endl (sch rr cc cols) l' m' r' b') gs (by omega) G1 G2 s3
    refine Gz.cq_eq (Gz.call_q f32 rfl ?_)
    unfold b32
    walk_at "gz_st"
    apply Gz.op_c (h8 := C1)
    (focus exact rfl)
    (focus exact rfl)
    (focus exact rfl)
    (focus exact rfl)
    (focus exact rfl)
    (focus exact rfl)
    (walk_at "gz_nr")
    (focus exact rfl)
    walk_at "gz_st"
    apply Gz.op_c (h8 := C2)
    (focus exact rfl)
    (focus exact rfl)
    (focus exact rfl)
    (focus exact rfl)
    (focus exact rfl)
    (focus exact rfl)
    (walk_at "gz_nr")
    (focus exact rfl)
    walk_at "gz_st"
    refine ⟨_, _, _, rfl, h3, ?_⟩
    refine Gz.seq_nx (e := [.ow (endl (sch rr cc cols) l m r b), .ow (endl (sch rr cc cols) l' m' r' b'), .ow (.lst (gs.map D.int)), s3, .un, .un, .un]) ?_
    walk_at "gz_st"
    refine ⟨_, _, _, Gz.walk_1 (by omega) rfl, h4, ?_⟩
    refine Gz.seq_nx (e := [.ow (endl (sch rr cc cols) l m r b), .ow (endl (sch rr cc cols) l' m' r' b'), .ow (.lst (gs.map D.int)), s3, s4, s5, s6]) ?_
    walk_at "gz_st"
    rfl
end K40
set_option Elab.async false
set_option linter.all false
set_option maxRecDepth 100000
set_option maxHeartbeats 400000
namespace K40
open Gal Gz PySem L2
theorem c33 (n k : Nat) (hk : k ≤ 1000) (d : D) (hd : Sr k d) (rr cc : Int) {cols l m r : List Nat} {b : Int} (p : Pt cols l m r b) (hb1 : -300 ≤ b) (hb2 : b ≤ 300) :
    CQ (callF P 1000 (n + 6) 33 [.ow d, .va (sch rr cc cols), .ow (endl (sch rr cc cols) l m r b), .va (pt l m r b)]) (fun x => ∃ d', x = .rt false (.bl true) [.ow d', .va (sch rr cc cols), .ow (endl (sch rr cc cols) l m r b), .va (pt l m r b)] ∧ Sr (k + 3) d') := by
  refine Gz.call_q f33 rfl ?_
  unfold b33
  refine Gz.ws_seq ?_
  obtain ⟨_, hx, w, d1, rfl, a1, a2, S1⟩ := c19 (n + 4) k (by omega) d hd 13 (by omega) (by omega)
  walk_at "gz_st"
  apply Gz.wc (h3 := hx)
  (focus exact rfl)
  (focus exact rfl)
  (walk_at "gz_nr")
  (repeat (first | (with_reducible refine Gz.wl_cons ?_) | (with_reducible refine Gz.we_con ?_) | (with_reducible refine Gz.wl_nil ?_)))
  refine Gz.op_q rfl rfl ?_
  walk_at "gz_av"
  refine Gz.ws_seq (Gz.WS.imp (Z := fun o => ∃ (y : Int) (d' : D), o = .nx [.ow d', .va (sch rr cc cols), .ow (endl (sch rr cc cols) l m r b), .va (pt l m r b), .va (.int y), .un, .un] ∧ -300 ≤ y ∧ y ≤ 300 ∧ Sr (k + 3) d') ?_ ?_)
  · obtain ⟨_, hx, u, d4, rfl, a5, a6, S4⟩ := c19 (n + 4) (k + 1) (by omega) d1 S1 5 (by omega) (by omega)
    walk_at "gz_st"
    apply Gz.wc (h3 := hx)
    (focus exact rfl)
    (focus exact rfl)
    (walk_at "gz_nr")
    walk_at "gz_st"
    by_cases e : u = 1
    · refine Gz.ite_t (by subst e; rfl) ?_
      obtain ⟨_, hx, q, d5, rfl, a7, a8, S5⟩ := c19 (n + 4) (k + 1 + 1) (by omega) d4 S4 601 (by omega) (by omega)
      walk_at "gz_st"
      apply Gz.wc (h3 := hx)
      (focus exact rfl)
      (focus exact rfl)
      (walk_at "gz_nr")
      walk_at "gz_st"
      exact ⟨_, d5, rfl, by omega, by omega, S5.mono (by omega)⟩
    · refine Gz.ite_f (by simpa [eqD] using e) ?_
      walk_at "gz_st"
      exact ⟨_, d4, rfl, by omega, by omega, S4.mono (by omega)⟩
  · rintro o ⟨y, d2, rfl, y1, y2, S2⟩
    refine Gz.seq_nx ?_
    have p0 : Pt cols l m r (b - y) := ⟨p.l1, p.l6, p.m4, p.r1, p.r6, p.gl, p.gm, p.gr, by omega, by omega⟩
    have M1 := c13 (n + 1) rr cc p y
    have M2 := c13 (n + 1) rr cc p0 (-y)
    have M3 := c13 (n + 1) rr cc p 0
    rw [show b - y - -y = b by omega] at M2
    rw [show b - (0 : Int) = b by omega] at M3
    have E0 := c14 (n + 1) rr cc p0 p0
    have E1 := c14 (n + 1) rr cc p p
    rw [eq_self] at E0 E1
    have G := c29 (n + 2) p p0
    have H := c32 n rr cc p p0
    walk_at "gz_st"
    refine ⟨_, _, _, rfl, rfl, ?_⟩
    walk_at "gz_st"
    apply Gz.wc (h3 := M1)
    (focus exact rfl)
    (focus exact rfl)
    (walk_at "gz_nr")
    walk_at "gz_st"
    apply Gz.op_c (h8 := (c6 (n + 4) rr cc cols))
    (focus exact rfl)
    (focus exact rfl)
    (focus exact rfl)
    (focus exact rfl)
    (focus exact rfl)
    (focus exact rfl)
    (walk_at "gz_nr")
    (focus exact rfl)
    walk_at "gz_st"
    apply Gz.wc (h3 := (c30 (n + 3) (sch rr cc cols) p0))
    (focus exact rfl)
    (focus exact rfl)
    (walk_at "gz_nr")
    walk_at "gz_st"
    apply Gz.wc (h3 := (c24 (n + 1) rr cc p0 _ (.inl rfl)))
    (focus exact rfl)
    (focus exact rfl)
    (walk_at "gz_nr")
    walk_at "gz_st"
    apply Gz.op_c (h8 := E0)
    (focus exact rfl)
    (focus exact rfl)
    (focus exact rfl)
    (focus exact rfl)
    (focus exact rfl)
    (focus exact rfl)
    (walk_at "gz_nr")
    (focus exact rfl)
    walk_at "gz_st"
    refine ⟨_, _, _, rfl, rfl, ?_⟩
    walk_at "gz_st"
    apply Gz.wc (h3 := M2)
    (focus exact rfl)
    (focus exact rfl)
    (walk_at "gz_nr")
    walk_at "gz_st"
    apply Gz.op_c (h8 := E1)
    (focus exact rfl)
    (focus exact rfl)
    (focus exact rfl)
    (focus exact rfl)
    (focus exact rfl)
    (focus exact rfl)
    (walk_at "gz_nr")
    (focus exact rfl)
    walk_at "gz_st"
    refine ⟨_, _, _, rfl, rfl, ?_⟩
    walk_at "gz_st"
    apply Gz.wc (h3 := M3)
    (focus exact rfl)
    (focus exact rfl)
    (walk_at "gz_nr")
    walk_at "gz_st"
    apply Gz.op_c (h8 := E1)
    (focus exact rfl)
    (focus exact rfl)
    (focus exact rfl)
    (focus exact rfl)
    (focus exact rfl)
    (focus exact rfl)
    (walk_at "gz_nr")
    (focus exact rfl)
    walk_at "gz_st"
    cases h : sameB l m r b l m r (b - y) with
    | false =>
      rw [gapR, h, if_neg (by simp)] at G
      rw [gapS, h, if_neg (by simp)] at H
      apply Gz.wc (h3 := G)
      (focus exact rfl)
      (focus exact rfl)
      (walk_at "gz_nr")
      walk_at "gz_st"
      apply Gz.wc (h3 := H)
      (focus exact rfl)
      (focus exact rfl)
      (walk_at "gz_nr")
      walk_at "gz_st"
      exact ⟨d2, rfl, S2⟩
    | true =>
      rw [gapR, h, if_pos rfl] at G
      rw [gapS, h, if_pos rfl] at H
      apply Gz.wc (h3 := G)
      (focus exact rfl)
      (focus exact rfl)
      (walk_at "gz_nr")
      walk_at "gz_st"
      apply Gz.wc (h3 := H)
      (focus exact rfl)
      (focus exact rfl)
      (walk_at "gz_nr")
      walk_at "gz_st"
      exact ⟨d2, rfl, S2⟩
end K40
set_option Elab.async false
set_option linter.all false
set_option maxRecDepth 100000
set_option maxHeartbeats 400000
namespace K40
open Gal Gz PySem L2
theorem mul_s {a : List Nat} (h : a.length ≤ 100) : opD .mul [.str a, .int 7] = some (false, .str (repS 7 a)) := by
  simp only [opD, op2D, mulD]
  rw [if_pos ⟨by decide, by decide, by show a.length * 7 ≤ 16777216; omega⟩]
  rfl
theorem rep_len (a : List Nat) : (repS 7 a).length = 7 * a.length := by
  unfold repS
  simp
  omega
theorem may_long {cols t : List Nat} (h : t.length = 7) : mayB cols t = false := by
  unfold mayB
  simp [h]
theorem may_nil {cols : List Nat} : mayB cols [] = false := by
  unfold mayB
  simp
theorem may_bad {cols t : List Nat} (h : goodT cols t = false) : mayB cols t = false := by
  unfold mayB
  simp [h]
theorem sign_q {r c : Int} {cols : List Nat} (h : Shape r c cols) : ∃ s, opD .ix [.str [97, 98, 99, 100, 101, 102, 103, 104, 105, 106], .int (cols.length : Int)] = some (false, .str [s]) ∧ ∀ x ∈ [s] ++ [122, 65, 48, 32, 46, 45], x ∉ cols := by
  rcases h with ⟨_, _, rfl⟩ | ⟨_, _, rfl⟩ | ⟨_, _, rfl⟩ | ⟨_, _, rfl⟩ | ⟨_, _, rfl⟩
  · exact ⟨99, rfl, by decide⟩
  · exact ⟨100, rfl, by decide⟩
  · exact ⟨101, rfl, by decide⟩
  · exact ⟨105, rfl, by decide⟩
  · exact ⟨106, rfl, by decide⟩
theorem c34 (n k : Nat) (hk : k ≤ 1000) (d : D) (hd : Sr k d) {rr cc : Int} {cols : List Nat} (hS : Shape rr cc cols) (t : List Nat) (ht : t.length ≤ 40) (ends : Bool) (he : ends = true → 1 ≤ t.length) :
    CQ (callF P 1000 (n + 2) 34 [.ow d, .va (.str cols), .va (.str t), .va (.bl ends)]) (fun x => ∃ t' d', x = .rt false (.str t') [.ow d', .va (.str cols), .va (.str t), .va (.bl ends)] ∧ t'.length ≤ 100 ∧ (ends = true → mayB cols t' = false) ∧ (ends = false → goodT cols t' = false) ∧ Sr (k + 3) d') := by
  refine Gz.call_q f34 rfl ?_
  unfold b34
  refine Gz.ws_seq (Gz.WS.imp (Z := fun o => (∃ d', o = .nx [.ow d', .va (.str cols), .va (.str t), .va (.bl ends), .un, .un] ∧ Sr (k + 1) d') ∨ (∃ t' d', o = .rt false (.str t') [.ow d', .va (.str cols), .va (.str t), .va (.bl ends), .un, .un] ∧ t'.length ≤ 100 ∧ ends = true ∧ mayB cols t' = false ∧ Sr (k + 3) d')) ?_ ?_)
  · cases ends with
    | false =>
      walk_at "gz_st"
      exact .inl ⟨d, rfl, hd.mono (by omega)⟩
    | true =>
      have h1 := he rfl
      obtain ⟨_, hx, u, d1, rfl, a1, a2, S1⟩ := c19 n k (by omega) d hd 3 (by omega) (by omega)
      walk_at "gz_st"
      apply Gz.wc (h3 := hx)
      (focus exact rfl)
      (focus exact rfl)
      (walk_at "gz_nr")
      walk_at "gz_st"
      by_cases e : u = 0
      · obtain ⟨_, hy, v, d2, rfl, a3, a4, S2⟩ := c19 n (k + 1) (by omega) d1 S1 2 (by omega) (by omega)
        refine Gz.ite_t (by subst e; rfl) ?_
        walk_at "gz_st"
        refine Gz.op_q rfl (mul_s (by omega)) ?_
        walk_at "gz_st"
        refine ⟨_, rfl, ?_⟩
        walk_at "gz_st"
        apply Gz.wc (h3 := hy)
        (focus exact rfl)
        (focus exact rfl)
        (walk_at "gz_nr")
        walk_at "gz_st"
        have hv : v = 0 ∨ v = 1 := by omega
        rcases hv with rfl | rfl
        · walk_at "gz_st"
          exact .inr ⟨[], d2, rfl, by simp, rfl, may_nil, S2.mono (by omega)⟩
        · walk_at "gz_st"
          refine .inr ⟨_, d2, rfl, ?_, rfl, may_long ?_, S2.mono (by omega)⟩
          · rw [cut_hi (by omega), List.length_take]; exact Nat.le_trans (Nat.min_le_left ..) (by decide)
          · rw [cut_hi (by omega), List.length_take, rep_len]
            show min 7 _ = 7
            omega
      · refine Gz.ite_f (by simpa [eqD] using e) ?_
        refine Gz.ite_f (by simpa [eqD] using e) ?_
        walk_at "gz_st"
        exact .inl ⟨d1, rfl, S1⟩
  · rintro o (⟨d1, rfl, S1⟩ | ⟨t', d', rfl, hl, hE, hm, S'⟩)
    · refine Gz.seq_nx ?_
      obtain ⟨sg, hs, hno⟩ := sign_q hS
      obtain ⟨_, hy, v, d2, rfl, a3, a4, S2⟩ := c19 n (k + 1) (by omega) d1 S1 7 (by omega) (by omega)
      obtain ⟨_, hz, at_, d3, rfl, a5, a6, S3⟩ := c19 n (k + 1 + 1) (by omega) d2 S2 ((t.length : Int) + 1) (by omega) (by omega)
      obtain ⟨c, hc, hix⟩ := ix_str (cols := [sg] ++ [122, 65, 48, 32, 46, 45]) (v := v) a3 (by simpa using a4)
      have hbad : goodT cols (t.take at_.toNat ++ [c] ++ t.drop at_.toNat) = false := by
        rw [Bool.eq_false_iff]
        intro hg
        rw [good_iff] at hg
        exact hno c hc (hg c (by simp))
      walk_at "gz_st"
      refine Gz.op_q rfl hs ?_
      walk_at "gz_st"
      apply Gz.wc (h3 := hy)
      (focus exact rfl)
      (focus exact rfl)
      (walk_at "gz_nr")
      walk_at "gz_st"
      refine Gz.op_q rfl hix ?_
      walk_at "gz_st"
      apply Gz.wc (h3 := hz)
      (focus exact rfl)
      (focus exact rfl)
      (walk_at "gz_nr")
      walk_at "gz_st"
      refine ⟨_, rfl, ?_⟩
      walk_at "gz_st"
      rw [cut_hi a5]
      refine Gz.op_q rfl (add_s (by simp; show _ ≤ 16777216; omega)) ?_
      walk_at "gz_st"
      refine ⟨_, rfl, ?_⟩
      walk_at "gz_st"
      rw [cut_lo a5]
      refine Gz.op_q rfl (add_s (by simp; show _ ≤ 16777216; omega)) ?_
      walk_at "gz_st"
      exact ⟨_, d3, rfl, by simp; omega, fun _ => may_bad hbad, fun _ => hbad, S3.mono (by omega)⟩
    · exact ⟨t', d', rfl, hl, fun _ => hm, fun z => absurd (hE.symm.trans z) (by simp), S'⟩
end K40
set_option Elab.async false
set_option linter.all false
set_option maxRecDepth 100000
set_option maxHeartbeats 400000
namespace K40
open Gal Gz PySem L2
def nmL : List Nat := [108, 101, 102, 116]
def nmM : List Nat := [109, 105, 100, 100, 108, 101]
def nmR : List Nat := [114, 105, 103, 104, 116]
/-- the first bad part -/
def badP (cols l m r : List Nat) : Option (List Nat) := if mayB cols l = false then some nmL else if goodT cols m = false then some nmM else if mayB cols r = false then some nmR else none
theorem c10x (n : Nat) (rr cc : Int) (cols l m r : List Nat) (b : Int) (kl : l.length ≤ LIM) (km : m.length ≤ LIM) (kr : r.length ≤ LIM) (nm : List Nat) (h : badP cols l m r = some nm) :
    callF P 1000 (n + 3) 10 [.ow (.obj 8 []), .va (sch rr cc cols), .va (.str l), .va (.str m), .va (.str r), .va (.int b)] = some (.ex 6 [(13, .str nm)] [.ow (.obj 8 []), .va (sch rr cc cols), .va (.str l), .va (.str m), .va (.str r), .va (.int b)]) := by
  have C1 := c9 n rr cc cols l kl _ (.inl rfl)
  have C2 := c3 (n + 1) rr cc cols m km _ (.inl rfl)
  have C3 := c9 n rr cc cols r kr _ (.inl rfl)
  unfold badP at h
  refine Gz.cq_eq (Gz.call_q f10 rfl ?_)
  unfold b10
  cases hl : mayB cols l with
  | false =>
    rw [hl] at C1
    rw [if_pos hl] at h
    cases h
    walk_at "gz_st"
    apply Gz.wc (h3 := C1)
    (focus exact rfl)
    (focus exact rfl)
    (walk_at "gz_nr")
    walk_at "gz_st"
    exact ⟨_, _, rfl, rfl, rfl⟩
  | true =>
    rw [hl] at C1
    rw [if_neg (by simp [hl])] at h
    walk_at "gz_st"
    apply Gz.wc (h3 := C1)
    (focus exact rfl)
    (focus exact rfl)
    (walk_at "gz_nr")
    walk_at "gz_st"
    refine ⟨_, _, _, rfl, rfl, ?_⟩
    walk_at "gz_st"
    apply Gz.wc (h3 := C2)
    (focus exact rfl)
    (focus exact rfl)
    (walk_at "gz_nr")
    cases hm : goodT cols m with
    | false =>
      rw [if_pos hm] at h
      cases h
      walk_at "gz_st"
      exact ⟨_, _, rfl, rfl, rfl⟩
    | true =>
      rw [if_neg (by simp [hm])] at h
      walk_at "gz_st"
      apply Gz.wc (h3 := C3)
      (focus exact rfl)
      (focus exact rfl)
      (walk_at "gz_nr")
      cases hr : mayB cols r with
      | false =>
        rw [if_pos hr] at h
        cases h
        walk_at "gz_st"
        exact ⟨_, _, rfl, rfl, rfl⟩
      | true =>
        rw [if_neg (by simp [hr])] at h
        cases h
theorem c35 (n : Nat) (rr cc : Int) (cols l m r : List Nat) (b : Int) (kl : l.length ≤ 100) (km : m.length ≤ 100) (kr : r.length ≤ 100) :
    callF P 1000 (n + 4) 35 [.va (sch rr cc cols), .va (pt l m r b)] = some (.rt false (.tup (match badP cols l m r with
      | some nm => [.str nm]
      | none => [])) [.va (sch rr cc cols), .va (pt l m r b)]) := by
  refine Gz.cq_eq (Gz.call_q f35 rfl ?_)
  unfold b35
  cases h : badP cols l m r with
  | some nm =>
    refine Gz.ws_seq (Gz.ws_try ?_)
    walk_at "gz_st"
    apply Gz.wmx (h3 := c10x n rr cc cols l m r b (len_le kl (by omega)) (len_le km (by omega)) (len_le kr (by omega)) nm h)
    (focus exact rfl)
    (focus exact rfl)
    (focus exact rfl)
    (focus (first | (simp only [Gal.putA, Gal.putTs, List.getElem?_cons_succ, List.getElem?_cons_zero, List.set_cons_succ, List.set_cons_zero, Nat.reduceLT, Nat.reduceAdd, Gal.given, Gal.frz, List.append_nil, List.cons_append, List.nil_append, List.replicate_succ, List.replicate_zero, Nat.reduceSub, reduceIte, ↓reduceIte, Bool.false_eq_true, if_true, if_false, Gal.backE, Gal.unhold, Gal.hold, List.foldl, List.getD_cons_succ, List.getD_cons_zero] <;> exact rfl) | exact rfl))
    refine ⟨rfl, rfl, rfl, ?_⟩
    refine Gz.ws_seq (Gz.ws_ite (Gz.wt_bool (Gz.wk_cons (Gz.wt_of rfl (Gz.we_exiV rfl rfl ?_)))))
    refine ⟨_, _, rfl, rfl, ?_⟩
    walk_at "gz_st"
    refine Gz.we_exiC rfl rfl rfl ?_
    walk_at "gz_st"
    refine Gz.we_exiC rfl rfl rfl ?_
    walk_at "gz_st"
    refine Gz.we_exf rfl rfl rfl ?_
    walk_at "gz_st"
    exact ⟨trivial, rfl, rfl⟩
  | none =>
    have hl : mayB cols l = true := by
      unfold badP at h
      cases q : mayB cols l with
      | true => rfl
      | false => rw [if_pos q] at h; cases h
    have hm : goodT cols m = true := by
      unfold badP at h
      rw [if_neg (by simp [hl])] at h
      cases q : goodT cols m with
      | true => rfl
      | false => rw [if_pos q] at h; cases h
    have hr : mayB cols r = true := by
      unfold badP at h
      rw [if_neg (by simp [hl]), if_neg (by simp [hm])] at h
      cases q : mayB cols r with
      | true => rfl
      | false => rw [if_pos q] at h; cases h
    refine Gz.ws_seq (Gz.ws_try ?_)
    walk_at "gz_st"
    apply Gz.wm (h3 := (c10 n rr cc cols l m r b hl hm hr (len_le kl (by omega)) (len_le km (by omega)) (len_le kr (by omega)) _ (.inl rfl)))
    (focus exact rfl)
    (focus exact rfl)
    (focus exact rfl)
    (walk_at "gz_nr")
    walk_at "gz_st"
    rfl
end K40
set_option Elab.async false
set_option linter.all false
set_option maxRecDepth 100000
set_option maxHeartbeats 400000
namespace K40
open Gal Gz PySem L2
def dueD (o : Option (List Nat)) : List D := match o with
  | some nm => [.str nm]
  | none => []
theorem bad_none {cols l m r : List Nat} {b : Int} (p : Pt cols l m r b) : badP cols l m r = none := by
  unfold badP
  rw [may_t p.gl p.l1 p.l6, p.gm, may_t p.gr p.r1 p.r6]
  rfl
theorem bad_r {cols l m r : List Nat} {b : Int} (p : Pt cols l m r b) {r' : List Nat} (h : mayB cols r' = false) : badP cols l m r' = some nmR := by
  unfold badP
  rw [may_t p.gl p.l1 p.l6, p.gm, h]
  rfl
theorem bad_m {cols l m r : List Nat} {b : Int} (p : Pt cols l m r b) {m' r' : List Nat} (h : goodT cols m' = false) : badP cols l m' r' = some nmM := by
  unfold badP
  rw [may_t p.gl p.l1 p.l6, h]
  rfl
theorem bad_l {cols l' m' r' : List Nat} (h : mayB cols l' = false) : badP cols l' m' r' = some nmL := by
  unfold badP
  rw [h]
  rfl
theorem okEq_due (o : Option (List Nat)) (k : Nat) : okEq (k + 2) (.tup (dueD o)) = true := by cases o <;> rfl
theorem eq_due (o : Option (List Nat)) : opD .eq [.tup (dueD o), .tup (dueD o)] = some (false, .bl true) := by
  simp only [opD, op2D, eqqD]
  rw [okEq_due o 58]
  cases o with
  | none => rfl
  | some nm => simp [dueD, eqD, eqDs, b_]
def midR (cols : List Nat) (sc P0 : D) (mk b : Int) (j k : Nat) (l m : List Nat) (o : Out) : Prop := ∃ l' m' r' d', o = .nx [.ow d', .va sc, .va (.str cols), .va P0, .va (.int mk), .va (.tup (dueD (badP cols l' m' r'))), .va (.str l'), .va (.str m'), .va (.str r'), .va (.int b)] ∧ l'.length ≤ 100 ∧ m'.length ≤ 100 ∧ r'.length ≤ 100 ∧ (j ≤ 2 → l' = l) ∧ (j ≤ 1 → m' = m) ∧ Sr k d'
theorem c36 (n k : Nat) (hk : k ≤ 900) (d : D) (hd : Sr k d) {rr cc : Int} {cols : List Nat} (hS : Shape rr cc cols) {l m r : List Nat} {b : Int} (p : Pt cols l m r b) :
    CQ (callF P 1000 (n + 5) 36 [.ow d, .va (sch rr cc cols), .va (.str cols), .va (pt l m r b)]) (fun x => ∃ d', x = .rt false (.bl true) [.ow d', .va (sch rr cc cols), .va (.str cols), .va (pt l m r b)] ∧ Sr (k + 20) d') := by
  have l1 := p.l1; have l6 := p.l6; have m4 := p.m4; have r1 := p.r1; have r6 := p.r6
  refine Gz.call_q f36 rfl ?_
  unfold b36
  walk_at "gz_st"
  refine ⟨_, [.ow d, .va (sch rr cc cols), .va (.str cols), .va (pt l m r b), .un, .un, .va (.str l), .va (.str m), .va (.str r), .va (.int b)], rfl, rfl, ?_⟩
  obtain ⟨_, hx, mk, d1, rfl, a1, a2, S1⟩ := c19 (n + 3) k (by omega) d hd 8 (by omega) (by omega)
  walk_at "gz_st"
  apply Gz.wc (h3 := hx)
  (focus exact rfl)
  (focus exact rfl)
  (walk_at "gz_nr")
  walk_at "gz_av"
  refine Gz.ws_seq ?_
  refine Gz.ws_asg (Gz.we_tup (Gz.wl_nil ?_))
  refine ⟨[], _, rfl, by decide, ?_⟩
  walk_at "gz_av"
  refine Gz.ws_seq (Gz.WS.imp (Z := midR cols (sch rr cc cols) (pt l m r b) mk b 1 (k + 4) l m) ?_ ?_)
  · walk_at "gz_st"
    refine Gz.op_q rfl (Gz.fdiv_q (by omega) (by omega)) ?_
    walk_at "gz_st"
    split
    · obtain ⟨_, hy, t, d2, rfl, t1, t2, _, S2⟩ := c34 (n + 2) (k + 1) (by omega) d1 S1 hS r (by omega) true (fun _ => r1)
      walk_at "gz_st"
      apply Gz.wc (h3 := hy)
      (focus exact rfl)
      (focus exact rfl)
      (walk_at "gz_nr")
      walk_at "gz_st"
      exact ⟨l, m, t, d2, by rw [bad_r p (t2 rfl)]; rfl, by omega, by omega, t1, fun _ => rfl, fun _ => rfl, S2⟩
    · walk_at "gz_st"
      exact ⟨l, m, r, d1, by rw [bad_none p]; rfl, by omega, by omega, by omega, fun _ => rfl, fun _ => rfl, S1.mono (by omega)⟩
  · rintro o ⟨l', m', r', d2, rfl, q1, q2, q3, el, em, S2⟩
    have el := el (by omega)
    have em := em (by omega)
    subst el em
    refine Gz.seq_nx (Gz.ws_seq (Gz.WS.imp (Z := midR cols (sch rr cc cols) (pt l' m' r b) mk b 2 (k + 8) l' m') ?_ ?_))
    · walk_at "gz_st"
      refine Gz.op_q rfl (Gz.fdiv_q (by omega) (by omega)) ?_
      walk_at "gz_st"
      split
      · obtain ⟨_, hy, t, d3, rfl, t1, _, t2, S3⟩ := c34 (n + 2) (k + 4) (by omega) d2 S2 hS m' (by omega) false (fun z => by cases z)
        walk_at "gz_st"
        apply Gz.wc (h3 := hy)
        (focus exact rfl)
        (focus exact rfl)
        (walk_at "gz_nr")
        walk_at "gz_st"
        exact ⟨l', t, r', d3, by rw [bad_m p (t2 rfl)]; rfl, by omega, t1, by omega, fun _ => rfl, fun z => absurd z (by omega), S3.mono (by omega)⟩
      · walk_at "gz_st"
        exact ⟨l', m', r', d2, rfl, by omega, by omega, by omega, fun _ => rfl, fun _ => rfl, S2.mono (by omega)⟩
    · rintro o ⟨l2, m2, r2, d3, rfl, q1, q2, q3, el, _, S3⟩
      have el := el (by omega)
      subst el
      refine Gz.seq_nx (Gz.ws_seq (Gz.WS.imp (Z := midR cols (sch rr cc cols) (pt l2 m' r b) mk b 3 (k + 20) l2 m') ?_ ?_))
      · walk_at "gz_st"
        split
        · obtain ⟨_, hy, t, d4, rfl, t1, t2, _, S4⟩ := c34 (n + 2) (k + 8) (by omega) d3 S3 hS l2 (by omega) true (fun _ => l1)
          walk_at "gz_st"
          apply Gz.wc (h3 := hy)
          (focus exact rfl)
          (focus exact rfl)
          (walk_at "gz_nr")
          walk_at "gz_st"
          exact ⟨t, m2, r2, d4, by rw [bad_l (t2 rfl)]; rfl, t1, by omega, by omega, fun z => absurd z (by omega), fun z => absurd z (by omega), S4.mono (by omega)⟩
        · walk_at "gz_st"
          exact ⟨l2, m2, r2, d3, rfl, by omega, by omega, by omega, fun _ => rfl, fun z => absurd z (by omega), S3.mono (by omega)⟩
      · rintro o ⟨l3, m3, r3, d4, rfl, q1, q2, q3, _, _, S4⟩
        refine Gz.seq_nx ?_
        walk_at "gz_st"
        apply Gz.wc (h3 := (c35 n rr cc cols l3 m3 r3 b q1 q2 q3))
        (focus exact rfl)
        (focus exact rfl)
        (walk_at "gz_nr")
        walk_at "gz_st"
        refine Gz.op_q rfl (eq_due (badP cols l3 m3 r3)) ?_
        walk_at "gz_st"
        exact ⟨d4, rfl, S4⟩
end K40
set_option Elab.async false
set_option linter.all false
set_option maxRecDepth 100000
set_option maxHeartbeats 400000
namespace K40
open Gal Gz PySem L2
theorem c38 (n : Nat) {r c : Int} {cols : List Nat} (hS : Shape r c cols) : callF P 1000 (n + 12) 38 [.va (sch r c cols), .va (.str cols)] = some (.rt false (.bl true) [.va (sch r c cols), .va (.str cols)]) := by
  rcases hS with ⟨rfl, rfl, rfl⟩ | ⟨rfl, rfl, rfl⟩ | ⟨rfl, rfl, rfl⟩ | ⟨rfl, rfl, rfl⟩ | ⟨rfl, rfl, rfl⟩
  · kernel_rfl
  · kernel_rfl
  · kernel_rfl
  · kernel_rfl
  · kernel_rfl
theorem c1 (n : Nat) {r c : Int} {cols : List Nat} (hS : Shape r c cols) : callF P 1000 (n + 3) 1 [.ow (.obj 7 []), .va (.int r), .va (.int c)] = some (.rt false .non [.ow (sch r c cols), .va (.int r), .va (.int c)]) := by
  rcases hS with ⟨rfl, rfl, rfl⟩ | ⟨rfl, rfl, rfl⟩ | ⟨rfl, rfl, rfl⟩ | ⟨rfl, rfl, rfl⟩ | ⟨rfl, rfl, rfl⟩
  · kernel_rfl
  · kernel_rfl
  · kernel_rfl
  · kernel_rfl
  · kernel_rfl
end K40
set_option Elab.async false
set_option linter.all false
set_option maxRecDepth 100000
set_option maxHeartbeats 0
namespace K40
open Gal Gz PySem L2
theorem gap_r (l m r : List Nat) (b : Int) (l' m' r' : List Nat) (b' : Int) : ∃ o gd, (∀ outs, gapR l m r b l' m' r' b' outs = .rt o gd outs) ∧ gapS l m r b l' m' r' b' = (if o = true then Sl.ow gd else .va gd) := by
  cases h : sameB l m r b l' m' r' b' with
  | false => exact ⟨false, .non, fun outs => by rw [gapR, h, if_neg (by simp)], by rw [gapS, h, if_neg (by simp)]; rfl⟩
  | true => exact ⟨true, _, fun outs => by rw [gapR, h, if_pos rfl], by rw [gapS, h, if_pos rfl]; rfl⟩
theorem c39 (n : Nat) (ns : List Int) : CQ (callF P 1000 (n + 21) 39 [.va (.scr ns)]) (fun x => ∃ own outs, x = .rt own (.bl true) outs) := by
  refine Gz.call_q f39 rfl ?_
  unfold b39
  obtain ⟨_, h0, d0, rfl, S0⟩ := c18 (n + 19) ns
  obtain ⟨_, h1, rr, cc, cols, d1, rfl, hS, S1⟩ := c21 (n + 18) 0 (by omega) d0 S0
  obtain ⟨k2, k9⟩ := hS.len
  obtain ⟨_, h2, l, m, r, b, d2, rfl, p, m34, b1, b2, S2⟩ := c25 (n + 17) 1 (by omega) d1 S1 cols (by omega) (by omega)
  obtain ⟨_, h3, d3, rfl, S3⟩ := c31 (n + 17) 61 (by omega) d2 S2 (sch rr cc cols) p
  obtain ⟨_, h4, d4, rfl, S4⟩ := c33 (n + 14) 67 (by omega) d3 S3 rr cc p b1 b2
  obtain ⟨_, h5, l', m', r', b', d5, rfl, p', S5⟩ := c28 (n + 16) 70 (by omega) d4 S4 p m34 b1 b2 k2 k9
  obtain ⟨_, h6, d6, rfl, S6⟩ := c36 (n + 15) 170 (by omega) d5 S5 hS p
  have p0 : Pt cols l m r 0 := ⟨p.l1, p.l6, p.m4, p.r1, p.r6, p.gl, p.gm, p.gr, by omega, by omega⟩
  have A1 := c24 (n + 16) rr cc p _ (.inr rfl)
  have A2 := c24 (n + 16) rr cc p' _ (.inl rfl)
  have E := c30 (n + 18) (sch rr cc cols) p
  have M := c10 (n + 17) rr cc cols l m r 0 (may_t p.gl p.l1 p.l6) p.gm (may_t p.gr p.r1 p.r6) (len_le p.l6 (by omega)) (len_le p.m4 (by omega)) (len_le p.r6 (by omega)) _ (.inl rfl)
  have G1 := c29 (n + 17) p p0
  have G2 := c29 (n + 17) p p'
  have H1 := c32 (n + 15) rr cc p p0
  have H2 := c32 (n + 15) rr cc p p'
  obtain ⟨o1, g1, e1, q1⟩ := gap_r l m r b l m r 0
  obtain ⟨o2, g2, e2, q2⟩ := gap_r l m r b l' m' r' b'
  rw [e1] at G1
  rw [e2] at G2
  rw [q1] at H1
  rw [q2] at H2
  walk_at "gz_st"
  apply Gz.wc (h3 := h0)
  (focus exact rfl)
  (focus exact rfl)
  (walk_at "gz_nr")
  walk_at "gz_st"
  apply Gz.wc (h3 := h1)
  (focus exact rfl)
  (focus exact rfl)
  (walk_at "gz_nr")
  refine ⟨_, [.va (.scr ns), .ow d1, .un, .un, .un, .un, .un, .va (.int rr), .va (.int cc), .va (.str cols)], rfl, rfl, ?_⟩
  walk_at "gz_st"
  apply Gz.wm (h3 := (c1 (n + 17) hS))
  (focus exact rfl)
  (focus exact rfl)
  (focus exact rfl)
  (walk_at "gz_nr")
  walk_at "gz_st"
  apply Gz.wc (h3 := h2)
  (focus exact rfl)
  (focus exact rfl)
  (walk_at "gz_nr")
  walk_at "gz_st"
  apply Gz.wc (h3 := A1)
  (focus exact rfl)
  (focus exact rfl)
  (walk_at "gz_nr")
  walk_at "gz_st"
  apply Gz.op_c (h8 := (c6 (n + 19) rr cc cols))
  (focus exact rfl)
  (focus exact rfl)
  (focus exact rfl)
  (focus exact rfl)
  (focus exact rfl)
  (focus exact rfl)
  (walk_at "gz_nr")
  (focus exact rfl)
  walk_at "gz_st"
  apply Gz.wc (h3 := E)
  (focus exact rfl)
  (focus exact rfl)
  (walk_at "gz_nr")
  walk_at "gz_st"
  apply Gz.wc (h3 := h3)
  (focus exact rfl)
  (focus exact rfl)
  (walk_at "gz_nr")
  walk_at "gz_st"
  apply Gz.wm (h3 := M)
  (focus exact rfl)
  (focus exact rfl)
  (focus exact rfl)
  (walk_at "gz_nr")
  walk_at "gz_st"
  apply Gz.wc (h3 := G1)
  (focus exact rfl)
  (focus exact rfl)
  (walk_at "gz_nr")
  walk_at "gz_st"
  apply Gz.wc (h3 := H1)
  (focus exact rfl)
  (focus exact rfl)
  (walk_at "gz_nr")
  walk_at "gz_st"
  apply Gz.wc (h3 := h4)
  (focus exact rfl)
  (focus exact rfl)
  (walk_at "gz_nr")
  walk_at "gz_st"
  apply Gz.wc (h3 := h5)
  (focus exact rfl)
  (focus exact rfl)
  (walk_at "gz_nr")
  walk_at "gz_st"
  apply Gz.wc (h3 := A2)
  (focus exact rfl)
  (focus exact rfl)
  (walk_at "gz_nr")
  walk_at "gz_st"
  apply Gz.wc (h3 := G2)
  (focus exact rfl)
  (focus exact rfl)
  (walk_at "gz_nr")
  walk_at "gz_st"
  apply Gz.wc (h3 := H2)
  (focus exact rfl)
  (focus exact rfl)
  (walk_at "gz_nr")
  walk_at "gz_st"
  apply Gz.wc (h3 := h6)
  (focus exact rfl)
  (focus exact rfl)
  (walk_at "gz_nr")
  walk_at "gz_st"
  apply Gz.wc (h3 := (c38 (n + 8) hS))
  (focus exact rfl)
  (focus exact rfl)
  (walk_at "gz_nr")
  walk_at "gz_st"
  apply Gz.wc (h3 := E)
  (focus exact rfl)
  (focus exact rfl)
  (walk_at "gz_nr")
  walk_at "gz_st"
  exact ⟨_, _, rfl⟩
theorem pure_fact (ns : List Int) : ∃ own outs, callF P 1000 21 39 [.va (.scr ns)] = some (.rt own (.bl true) outs) := by
  obtain ⟨_, h, own, outs, rfl⟩ := c39 0 ns
  exact ⟨own, outs, h⟩
end K40
set_option Elab.async false
set_option linter.all false
set_option maxRecDepth 100000
set_option maxHeartbeats 0
namespace K40
open Gal PySem L2
theorem fact (ns : List Int) (h : ns.length ≤ 63) : ∃ own outs, callF T.P 1000 21 39 [.va (.scr ns)] = some (.rt own (.bl true) outs) := pure_fact ns
end K40
open PySem PySem.W PySem.Calls PyProof.Rows
theorem PySem.Challenge.cw_galloon_k40_endless_strips_and_moves_holds : PySem.Challenge.rw_galloon_k40_endless_strips_and_moves.Holds := by
  w_on; o_law
  refine HandSHeadRun.head_any (r := OpenLaw.row PySem.Challenge.rw_galloon_k40_endless_strips_and_moves) (q := view (OpenLaw.row PySem.Challenge.rw_galloon_k40_endless_strips_and_moves).prog [44]) (H := K40.hk) (ob := K40.ob) (M := 20000) (loose := K40.loose) (d := HandSHeadRun.topDef (OpenLaw.row PySem.Challenge.rw_galloon_k40_endless_strips_and_moves).prog 44) (kwd := []) K40.ob_eq
    (by kernel_rfl) (fun s => by kernel_rfl) K40.run (by kernel_rfl) (by kernel_rfl) (by kernel_rfl) (by rfl) (by first | assumption | decide +kernel) (by decide +kernel) ⟨rfl, rfl, rfl, rfl, rfl, by decide +kernel⟩ ?hw ?hc
  case hw => w_witness2
  case hc =>
    refine L2.walk_ofE (l := PySem.Challenge.rw_galloon_k40_endless_strips_and_moves) (n := 63) (k := 64) (x := "_law_script") (CX := L2.CX0) rfl (by decide) (by kernel_rfl) ⟨rfl, by decide, by decide⟩ ?F (fun _ _ _ _ z => z)
    intro w mg fa h Y G hmg0
    have hmg : mg ("law" : PySem.Str) = some (.ref fa) := by
      have e : (HandSHeadRun.topDef (OpenLaw.row PySem.Challenge.rw_galloon_k40_endless_strips_and_moves).prog 44).name = ("law" : PySem.Str) := by kernel_rfl
      rw [← e]
      exact hmg0
    exact Gal.law_facts (pg := K40.pg) (most := 63) K40.static (L := 39) (n := 20) (Wn := 1000) (nm := "law") rfl rfl rfl rfl rfl rfl (fun _ _ _ _ _ _ us hl => match us, hl with | [_], _ => rfl) K40.fact Y G hmg
