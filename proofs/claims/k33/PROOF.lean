import PyProof.Rows.All
import Wide.All
import OpenK.AllK
import Wide.FinOn
import KE.KStateDown
import HandS.ForMost
import HandS.Walk
import HandS.Wide
import HandS.TupAny
import HandS.TupMul
import HandS.IsInst
import HandS.Deep
import HandS.Style
import HandS.DictComp
import HandS.Zip
import KE.KDictZip
import KE.KDictPairs
import KE.GoesNew
import HandS.Strs
import HandS.HeadWalk
import HandS.CallRecv
import HandS.Words
import HandS.HeadEnd
import HandS.Defaults
import HandS.Head0
import HandS.Head1
import HandS.Head2
import HandS.HeadHook1
import HandS.HeadHook2
import HandS.HeadHook3
import HandS.HeadHook4
import PySem.Challenge.RW_roomsingly_k33_whole_moves_let
set_option Elab.async false
set_option linter.all false
set_option maxRecDepth 100000
set_option maxHeartbeats 4000000
/-! An interpreter of a part of the language over plain trees of data. -/
namespace VI
open PySem L2

/-- plain data -/
inductive D where
  | non
  | bl (b : Bool)
  | int (i : Int)
  | str (x : Str)
  | tup (l : List D)
  | lst (l : List D)
  | dic (l : List (D × D))
  | ins (c : Nat) (l : List (Str × D))
  | scr (l : List Int)
deriving Inhabited

/-- a slot of a frame: empty, a value that nobody changes any more, an object of the frame's own (its mark: lent by the caller) -/
inductive Sl where
  | no
  | va (d : D)
  | ow (lent : Bool) (d : D)
deriving Inhabited
abbrev Env' := List Sl
/-- what an expression gives: data, a new object, the object in a slot -/
inductive R where
  | dt (d : D)
  | nw (d : D)
  | sl (i : Nat)
deriving Inhabited

inductive Ct where
  | non
  | bl (b : Bool)
  | int (i : Int)
  | str (x : Str)
deriving DecidableEq
def Ct.d : Ct → D
  | .non => .non
  | .bl b => .bl b
  | .int i => .int i
  | .str x => .str x

inductive BO where
  | add | sub | mul | mod | fdiv | pow
deriving DecidableEq
inductive CO where
  | eq | ne | lt | le | gt | ge | isin | notin
deriving DecidableEq
/-- built-in functions -/
inductive Bi where
  | len | all | any | tuple | list | int | abs | max2 | min2 | repr | str | divmod
  | isStr | isInt | isBool | isTuple | isCls (c : Nat)
deriving DecidableEq
/-- methods of built-in types that only read -/
inductive Bm where
  | join | split | partition | index
deriving DecidableEq
/-- methods that change a list -/
inductive Bx where
  | append | popAt | extend
deriving DecidableEq
/-- targets -/
inductive Tg where
  | nm (i : Nat)
  | tu (is : List Nat)

mutual
inductive E where
  | var (i : Nat)
  | cst (c : Ct)
  | tup (es : Es)
  | lst (es : Es)
  | bin (o : BO) (a b : E)
  | cmp (o : CO) (a b : E)
  | chain (o o' : CO) (a b c : E)
  | isN (a : E)
  | notN (a : E)
  | and (a b : E)
  | or (a b : E)
  | not (a : E)
  | neg (a : E)
  | ife (c a b : E)
  | ix (a b : E)
  | sli (a : E) (lo hi : Eo)
  | call (f : Nat) (es : Es)
  | callK (f : Nat) (perm : List Nat) (es : Es)
  | make (c : Nat) (es : Es)
  | makeK (c : Nat) (perm : List Nat) (es : Es)
  | mcall (c : Nat) (m : Str) (f : Nat) (o : E) (es : Es)
  | mcallL (c : Nat) (m : Str) (f : Nat) (i : Nat) (es : Es)
  | mcallK (c : Nat) (m : Str) (f : Nat) (perm : List Nat) (o : E) (es : Es)
  | bi (b : Bi) (es : Es)
  | isi (b : Bi) (e : E)
  | bm (m : Bm) (o : E) (es : Es)
  | bx (m : Bx) (i : Nat) (e : E)
  | fld (o : E) (f : Str)
  | isT (a : E)
  | notT (a : E)
  | dz (a b : E)
  | dc (vs : List Nat) (t : Tg) (it : It) (c : Eo) (k e : E)
  | lc (vs : List Nat) (t : Tg) (it : It) (c : Eo) (e : E)
  | lc2 (vs vs1 : List Nat) (t : Tg) (it : It) (c : Eo) (t1 : Tg) (it1 : It) (c1 : Eo) (e : E)
inductive Eo where
  | no
  | so (e : E)
inductive Es where
  | nil
  | cons (e : E) (es : Es)
inductive It where
  | seq (e : E)
  | rng1 (e : E)
  | rng2 (a b : E)
  | enm (e : E)
  | zip2 (a b : E)
  | zip3 (a b c : E)
end

mutual
inductive S where
  | asg (t : Tg) (e : E)
  | par (is : List Nat) (es : Es)
  | setIx (i : Nat) (ix : E) (e : E)
  | asgT (ts : Ts) (e : E)
  | setF (i : Nat) (f : Str) (e : E)
  | ex (e : E)
  | ret (e : E)
  | retN
  | ite (c : E) (a b : Ss)
  | for_ (t : Tg) (it : It) (b : Ss)
  | whl (c : E) (b : Ss)
  | pass
  | brk
  | cnt
  | bad
inductive Ss where
  | nil
  | cons (s : S) (ss : Ss)
/-- targets that may be places of lists -/
inductive Ts where
  | nil
  | nm (i : Nat) (ts : Ts)
  | ix (i : Nat) (e : E) (ts : Ts)
end

structure Fn where
  name : Str
  glo : Bool
  ps : List Str
  mt : List Bool
  n : Nat
  body : Ss
structure Cl where
  name : Str
  init : Nat
  meths : List (Str × Nat)
structure Pg where
  fns : List Fn
  cls : List Cl
  cs : List (Str × Ct)
  free : List Str
  flds : List Str
  kws : List (Nat × List Str × Nat × List Nat)
  wf : Nat

/-! ### values -/
mutual
def py : D → Option PyData
  | .non => some .none
  | .bl b => some (.bool b)
  | .int i => some (.int i)
  | .str x => some (.str x)
  | .tup l => (pyAll l).map .tuple
  | .lst l => (pyAll l).map .list
  | .dic _ => none
  | .ins _ _ => none
  | .scr _ => none
def pyAll : List D → Option (List PyData)
  | [] => some []
  | d :: l => match py d, pyAll l with
    | some p, some ps => some (p :: ps)
    | _, _ => none
end

def scalD : D → Option V
  | .non => some .non
  | .bl b => some (.bl b)
  | .int i => some (.int i)
  | .str x => some (.str x)
  | _ => none
def txts : List D → Option (List Str)
  | [] => some []
  | .str x :: l => (txts l).map (x :: ·)
  | _ :: _ => none
def bools : List D → Option (List Bool)
  | [] => some []
  | .bl x :: l => (bools l).map (x :: ·)
  | _ :: _ => none
/-- == -/
def eqD (a b : D) : Option Bool :=
  match py a, py b with
  | some p, some q => match p, q with
    | .str x, .str y => some (decide (x = y))
    | p, q => if SeqAt.shaped p = true ∧ SeqAt.shaped q = true then some (PyData.eqv p q) else none
  | _, _ => none
/-- the values among which «in» looks -/
def flats : List D → Option (List V)
  | [] => some []
  | d :: l => match scalD d, flats l with
    | some v, some vs => some (v :: vs)
    | _, _ => none
def eqAny (x : D) : List D → Option Bool
  | [] => some false
  | y :: l => match eqD y x with
    | some true => some true
    | some false => eqAny x l
    | none => none
def inD (x y : D) : Option Bool :=
  match y with
  | .str z => match x with
    | .str c => some (!(Builtin.Str.occurrences z c 0 z.length 1).isEmpty)
    | _ => none
  | .tup l => match scalD x, flats l with
    | some v, some vs => some (inV v vs)
    | _, _ => none
  | .lst l => match scalD x, flats l with
    | some v, some vs => some (inV v vs)
    | _, _ => match py x, pyAll l with
      | some p, some ps => if SeqAt.shaped p = true ∧ SeqAt.shaped (.list ps) = true then some (ps.any fun z => PyData.eqv z p) else none
      | _, _ => none
  | _ => none
def cmpD (o : CO) (a b : D) : Option Bool :=
  match o with
  | .eq => eqD a b
  | .ne => (eqD a b).map (!·)
  | .isin => inD a b
  | .notin => (inD a b).map (!·)
  | .lt => match a, b with | .int i, .int j => some (decide (i < j)) | _, _ => none
  | .le => match a, b with | .int i, .int j => some (decide (i ≤ j)) | _, _ => none
  | .gt => match a, b with | .int i, .int j => some (decide (j < i)) | _, _ => none
  | .ge => match a, b with | .int i, .int j => some (decide (j ≤ i)) | _, _ => none
instance (i j : Int) : Decidable (CMul i j) := by unfold CMul; exact inferInstance
instance (i j : Int) : Decidable (CDiv i j) := by unfold CDiv; exact inferInstance
instance (i j : Int) : Decidable (CPow i j) := by unfold CPow; exact inferInstance
def binD (o : BO) (a b : D) : Option R :=
  match o, a, b with
  | .add, .int i, .int j => some (.dt (.int (i + j)))
  | .add, .str x, .str y => if x.length + y.length ≤ sizeLine then some (.dt (.str (x ++ y))) else none
  | .add, .tup l, .tup m => if l.length + m.length ≤ sizeLine then some (.dt (.tup (l ++ m))) else none
  | .add, .lst l, .lst m => if l.length + m.length ≤ sizeLine then some (.nw (.lst (l ++ m))) else none
  | .sub, .int i, .int j => some (.dt (.int (i - j)))
  | .mul, .int i, .int j => if CMul i j then some (.dt (.int (i * j))) else none
  | .mul, .lst l, .int k => if -(2 ^ 63) ≤ k ∧ k < 2 ^ 63 ∧ l.length * k.toNat ≤ sizeLine then some (.nw (.lst (List.replicate k.toNat l).flatten)) else none
  | .mod, .int i, .int j => if 0 < j then some (.dt (.int (i % j))) else none
  | .fdiv, .int i, .int j => if CDiv i j then some (.dt (.int (i / j))) else none
  | .pow, .int i, .int j => if CPow i j then some (.dt (.int (i ^ j.toNat))) else none
  | _, _, _ => none
def cutD (l : List D) (lo hi : Option Int) : List D := (l.drop (HT.sIx l.length 0 lo)).take (HT.sIx l.length l.length hi - HT.sIx l.length 0 lo)
def dLook (x : Str) : List (D × D) → Option D
  | [] => none
  | (.str y, d) :: l => if y = x then some d else dLook x l
  | _ :: l => dLook x l
def ixD (a b : D) : Option D :=
  match a, b with
  | .tup l, .int i => atI l i
  | .lst l, .int i => atI l i
  | .scr l, .int i => (atI l i).map .int
  | .dic kvs, k => match k with
    | .str x => dLook x kvs
    | _ => none
  | _, _ => none
def sliD (a : D) (lo hi : Option Int) : Option R :=
  match a with
  | .tup l => some (.dt (.tup (cutD l lo hi)))
  | .lst l => some (.nw (.lst (cutD l lo hi)))
  | .scr l => some (.nw (.lst (cutD (l.map .int) lo hi)))
  | .str z => if z.length ≤ sizeLine then some (.dt (.str (cutS z lo hi))) else none
  | _ => none
def tyD : D → Nat
  | .non => 0
  | .bl _ => 1
  | .int _ => 2
  | .str _ => 3
  | .tup _ => 4
  | .lst _ => 5
  | .dic _ => 6
  | .scr _ => 5
  | .ins c _ => 7 + c
def isI (n : Nat) (b : Bi) (d : D) : Option Bool :=
  match d with
  | .ins c _ => match b with
    | .isCls k => if c < n ∧ k < n then some (c == k) else none
    | .isStr => if c < n then some false else none
    | .isTuple => if c < n then some false else none
    | .isInt => if c < n then some false else none
    | .isBool => if c < n then some false else none
    | _ => none
  | d => match b with
    | .isStr => some (tyD d == 3)
    | .isTuple => some (tyD d == 4)
    | .isBool => some (tyD d == 1)
    | .isInt => some (tyD d == 2 || tyD d == 1)
    | .isCls k => if k < n then some false else none
    | _ => none
def biLen : List D → Option R
  | [.tup l] => some (.dt (.int l.length))
  | [.lst l] => some (.dt (.int l.length))
  | [.scr l] => some (.dt (.int l.length))
  | [.dic l] => some (.dt (.int l.length))
  | [.str z] => if z.length ≤ sizeLine then some (.dt (.int z.length)) else none
  | _ => none
def biAll : List D → Option R
  | [.lst l] => (bools l).map fun bs => .dt (.bl (bs.all id))
  | _ => none
def biAny : List D → Option R
  | [.lst l] => (bools l).map fun bs => .dt (.bl (bs.any id))
  | _ => none
def biTuple : List D → Option R
  | [.lst l] => some (.dt (.tup l))
  | [.tup l] => some (.dt (.tup l))
  | _ => none
def biList : List D → Option R
  | [.lst l] => some (.nw (.lst l))
  | [.tup l] => some (.nw (.lst l))
  | _ => none
def biInt : List D → Option R
  | [.int i] => some (.dt (.int i))
  | [.bl b] => some (.dt (.int (if b then 1 else 0)))
  | _ => none
def biAbs : List D → Option R
  | [.int i] => some (.dt (.int (if i < 0 then -i else i)))
  | _ => none
def biMax2 : List D → Option R
  | [.int i, .int j] => some (.dt (.int (if j > i then j else i)))
  | _ => none
def biMin2 : List D → Option R
  | [.int i, .int j] => some (.dt (.int (if j < i then j else i)))
  | _ => none
def biDivmod : List D → Option R
  | [.int i, .int j] => if CDiv i j then some (.dt (.tup [.int (i / j), .int (i % j)])) else none
  | _ => none
def biRepr : List D → Option R
  | [d] => match py d with
    | some (.list ps) => if (PyData.list ps).showable = true ∧ (PyData.list ps).shown.length ≤ sizeLine ∧ (PyData.list ps).depth ≤ 64 then some (.dt (.str (PyData.list ps).shown)) else none
    | some (.tuple ps) => if (PyData.tuple ps).showable = true ∧ (PyData.tuple ps).shown.length ≤ sizeLine ∧ (PyData.tuple ps).depth ≤ 64 then some (.dt (.str (PyData.tuple ps).shown)) else none
    | _ => none
  | _ => none
def biD (b : Bi) (l : List D) : Option R :=
  match b with
  | .len => biLen l
  | .all => biAll l
  | .any => biAny l
  | .tuple => biTuple l
  | .list => biList l
  | .int => biInt l
  | .abs => biAbs l
  | .max2 => biMax2 l
  | .min2 => biMin2 l
  | .divmod => biDivmod l
  | .repr => biRepr l
  | _ => none
def bmJoin : D → List D → Option R
  | .str z, [.lst l] => (txts l).bind fun ys => if (ys.map (·.length)).sum + ys.length * z.length ≤ 16777216 then some (.dt (.str (Txt.join z ys))) else none
  | .str z, [.tup l] => (txts l).bind fun ys => if (ys.map (·.length)).sum + ys.length * z.length ≤ 16777216 then some (.dt (.str (Txt.join z ys))) else none
  | _, _ => none
def bmSplit : D → List D → Option R
  | .str a, [.str b] => if (b.length == 0) = false ∧ a.length + 2 ≤ sizeLine then some (.nw (.lst ((Txt.split a b).map .str))) else none
  | _, _ => none
def bmPartition : D → List D → Option R
  | .str a, [.str b] => if (b.length == 0) = false ∧ a.length ≤ sizeLine then
      some (.dt (.tup [.str (Txt.partition a b).1, .str (Txt.partition a b).2.1, .str (Txt.partition a b).2.2])) else none
  | _, _ => none
def bmIndex : D → List D → Option R
  | .tup l, [.str x] => (txts l).bind fun ys => if x ∈ ys then some (.dt (.int (ys.idxOf x : Nat))) else none
  | _, _ => none
def bmD (m : Bm) (o : D) (l : List D) : Option R :=
  match m with
  | .join => bmJoin o l
  | .split => bmSplit o l
  | .partition => bmPartition o l
  | .index => bmIndex o l

/-! ### the parts of the interpreter -/
/-- what an operand is now -/
def opD (env : Env') : R → Option D
  | .dt d => some d
  | .nw d => some d
  | .sl i => match env[i]? with
    | some (.ow _ d) => some d
    | _ => none
/-- a value that is kept: nobody changes it any more -/
def frz (r : R) (env : Env') : Option (D × Env') :=
  match r with
  | .dt d => some (d, env)
  | .nw d => some (d, env)
  | .sl i => match env[i]? with
    | some (.ow _ d) => some (d, env.set i (.va d))
    | _ => none
/-- a value that goes to a name: a new object stays one's own -/
def keepR (r : R) (env : Env') : Option (R × Env') :=
  match r with
  | .dt d => some (.dt d, env)
  | .nw d => some (.nw d, env)
  | .sl i => match env[i]? with
    | some (.ow _ d) => some (.dt d, env.set i (.va d))
    | _ => none
/-- a new object that is only read -/
def pz : Option (R × Env') → Option (R × Env')
  | some (.nw d, env) => some (.dt d, env)
  | x => x
def free (i : Nat) (env : Env') : Bool :=
  match env[i]? with
  | some (.ow true _) => false
  | some _ => true
  | none => false
def putSl (i : Nat) (r : R) (env : Env') : Option Env' :=
  if free i env = true then match r with
    | .dt d => some (env.set i (.va d))
    | .nw d => some (env.set i (.ow false d))
    | .sl _ => none
  else none
def putAll : List Nat → List D → Env' → Option Env'
  | [], [], env => some env
  | i :: is, d :: ds, env => match putSl i (.dt d) env with
    | some env1 => putAll is ds env1
    | none => none
  | _, _, _ => none
def parPut : List Nat → List R → Env' → Option Env'
  | [], [], env => some env
  | i :: is, r :: rs, env => match putSl i r env with
    | some env1 => parPut is rs env1
    | none => none
  | _, _, _ => none
def putTg (t : Tg) (d : D) (env : Env') : Option Env' :=
  match t with
  | .nm i => putSl i (.dt d) env
  | .tu is => match d with
    | .tup ds => putAll is ds env
    | _ => none
/-- the comprehension's own names: none within at first, as they were behind it -/
def wipeE (env : Env') : List Nat → Env'
  | [] => env
  | v :: vs => (wipeE env vs).set v .no
def backE (old env : Env') : List Nat → Env'
  | [] => env
  | v :: vs => (backE old env vs).set v (old.getD v .no)
def plainAt (env : Env') (vs : List Nat) : Bool := vs.all fun v => match env[v]? with
  | some (.ow _ _) => false
  | _ => true
/-! expressions -/
def frzM (m : Env' → Option (R × Env')) : Env' → Option (R × Env') := fun env => match m env with
  | some (r, env0) => match frz r env0 with
    | some (d, env1) => some (.dt d, env1)
    | none => none
  | none => none
def boolM (m : Env' → Option (R × Env')) : Env' → Option (Bool × Env') := fun env => match m env with
  | some (.dt (.bl b), env1) => some (b, env1)
  | _ => none
def varM (i : Nat) : Env' → Option (R × Env') := fun env => match env[i]? with
  | some (.va d) => some (.dt d, env)
  | some (.ow _ _) => some (.sl i, env)
  | _ => none
def nilD : Env' → Option (List D × Env') := fun env => some ([], env)
def nilR : Env' → Option (List R × Env') := fun env => some ([], env)
def consV (m : Env' → Option (R × Env')) (ms : Env' → Option (List D × Env')) : Env' → Option (List D × Env') := fun env => match m env with
  | some (r, env0) => match frz r env0 with
    | some (d, env1) => match ms env1 with
      | some (ds, env2) => some (d :: ds, env2)
      | none => none
    | none => none
  | none => none
def consP (m : Env' → Option (R × Env')) (ms : Env' → Option (List R × Env')) : Env' → Option (List R × Env') := fun env => match pz (m env) with
  | some (r, env1) => match ms env1 with
    | some (rs, env2) => some (r :: rs, env2)
    | none => none
  | none => none
/-- results that are kept: what is in a slot is frozen -/
def keepM (m : Env' → Option (R × Env')) : Env' → Option (R × Env') := fun env => match m env with
  | some (r, env0) => keepR r env0
  | none => none
/-- results that are lent -/
def lendM (m : Env' → Option (R × Env')) : Env' → Option (R × Env') := fun env => match m env with
  | some (.dt _, _) => none
  | x => x
def consR (m : Env' → Option (R × Env')) (ms : Env' → Option (List R × Env')) : Env' → Option (List R × Env') := fun env => match m env with
  | some (r, env1) => match ms env1 with
    | some (rs, env2) => some (r :: rs, env2)
    | none => none
  | none => none
def op2 (f : D → D → Option R) (ma mb : Env' → Option (R × Env')) : Env' → Option (R × Env') := fun env => match pz (ma env) with
  | some (x, env1) => match pz (mb env1) with
    | some (y, env2) => match opD env2 x, opD env2 y with
      | some d, some e => (f d e).map fun r => (r, env2)
      | _, _ => none
    | none => none
  | none => none
def cmpR (o : CO) (d e : D) : Option R := (cmpD o d e).map fun b => .dt (.bl b)
def ixR (d e : D) : Option R := (ixD d e).map .dt
def andM (ma mb : Env' → Option (R × Env')) : Env' → Option (R × Env') := fun env => match ma env with
  | some (.dt (.bl true), env1) => mb env1
  | some (.dt (.bl false), env1) => some (.dt (.bl false), env1)
  | _ => none
def orM (ma mb : Env' → Option (R × Env')) : Env' → Option (R × Env') := fun env => match ma env with
  | some (.dt (.bl true), env1) => some (.dt (.bl true), env1)
  | some (.dt (.bl false), env1) => mb env1
  | _ => none
def notM (ma : Env' → Option (R × Env')) : Env' → Option (R × Env') := fun env => match ma env with
  | some (.dt (.bl b), env1) => some (.dt (.bl (!b)), env1)
  | _ => none
def negM (ma : Env' → Option (R × Env')) : Env' → Option (R × Env') := fun env => match ma env with
  | some (.dt (.int i), env1) => some (.dt (.int (-i)), env1)
  | _ => none
def ifeM (mc ma mb : Env' → Option (R × Env')) : Env' → Option (R × Env') := fun env => match mc env with
  | some (.dt (.bl true), env1) => ma env1
  | some (.dt (.bl false), env1) => mb env1
  | _ => none
def isNM (ma : Env' → Option (R × Env')) : Env' → Option (R × Env') := fun env => match pz (ma env) with
  | some (.dt .non, env1) => some (.dt (.bl true), env1)
  | some (.dt _, env1) => some (.dt (.bl false), env1)
  | _ => none
def notNM (ma : Env' → Option (R × Env')) : Env' → Option (R × Env') := fun env => match pz (ma env) with
  | some (.dt .non, env1) => some (.dt (.bl false), env1)
  | some (.dt _, env1) => some (.dt (.bl true), env1)
  | _ => none
def isTM (ma : Env' → Option (R × Env')) : Env' → Option (R × Env') := fun env => match ma env with
  | some (.dt (.bl b), env1) => some (.dt (.bl b), env1)
  | _ => none
def notTM (ma : Env' → Option (R × Env')) : Env' → Option (R × Env') := fun env => match ma env with
  | some (.dt (.bl b), env1) => some (.dt (.bl (!b)), env1)
  | _ => none
/-- dict(zip(a, b)) of two tuples, the keys unlike texts -/
def dzM (ms : Env' → Option (List D × Env')) : Env' → Option (R × Env') := fun env => match ms env with
  | some ([.tup l, .tup m], env1) => match txts l with
    | some ys => if ys.Nodup ∧ ys.length ≤ sizeLine then some (.nw (.dic ((ys.zip m).map fun p => (.str p.1, p.2))), env1) else none
    | none => none
  | _ => none
def chainM (o o' : CO) (ma mb mc : Env' → Option (R × Env')) : Env' → Option (R × Env') := fun env => match pz (ma env) with
  | some (x, env1) => match pz (mb env1) with
    | some (y, env2) => match opD env2 x, opD env2 y with
      | some d, some e => match cmpD o d e with
        | some true => match pz (mc env2) with
          | some (z, env3) => match opD env3 y, opD env3 z with
            | some e, some g => (cmpD o' e g).map fun r => (.dt (.bl r), env3)
            | _, _ => none
          | none => none
        | some false => some (.dt (.bl false), env2)
        | none => none
      | _, _ => none
    | none => none
  | none => none
def noO : Env' → Option (Option Int × Env') := fun env => some (none, env)
def soM (m : Env' → Option (R × Env')) : Env' → Option (Option Int × Env') := fun env => match m env with
  | some (.dt (.int i), env1) => some (some i, env1)
  | _ => none
def sliM (m : Env' → Option (R × Env')) (ml mh : Env' → Option (Option Int × Env')) : Env' → Option (R × Env') := fun env => match pz (m env) with
  | some (x, env1) => match ml env1 with
    | some (l, env2) => match mh env2 with
      | some (h, env3) => match opD env3 x with
        | some d => (sliD d l h).map fun r => (r, env3)
        | none => none
      | none => none
    | none => none
  | none => none
def biM (f : List D → Option R) (ms : Env' → Option (List R × Env')) : Env' → Option (R × Env') := fun env => match ms env with
  | some (rs, env1) => match rs.mapM (opD env1) with
    | some ds => (f ds).map fun r => (r, env1)
    | none => none
  | none => none
/-- isinstance -/
def isM (n : Nat) (b : Bi) (m : Env' → Option (R × Env')) : Env' → Option (R × Env') := fun env => match pz (m env) with
  | some (r, env1) => match opD env1 r with
    | some d => (isI n b d).map fun b => (.dt (.bl b), env1)
    | none => none
  | none => none
/-- the receiver is data -/
def dataM (m : Env' → Option (R × Env')) : Env' → Option (R × Env') := fun env => match pz (m env) with
  | some (.dt d, env1) => some (.dt d, env1)
  | _ => none
def bmM (f : D → List D → Option R) (m : Env' → Option (R × Env')) (ms : Env' → Option (List R × Env')) : Env' → Option (R × Env') := fun env => match pz (m env) with
  | some (x, env1) => match ms env1 with
    | some (rs, env2) => match opD env2 x, rs.mapM (opD env2) with
      | some d, some ds => (f d ds).map fun r => (r, env2)
      | _, _ => none
    | none => none
  | none => none
def tupM (ms : Env' → Option (List D × Env')) : Env' → Option (R × Env') := fun env => match ms env with
  | some (ds, env1) => if ds.length ≤ sizeLine then some (.dt (.tup ds), env1) else none
  | none => none
def lstM (ms : Env' → Option (List D × Env')) : Env' → Option (R × Env') := fun env => match ms env with
  | some (ds, env1) => if ds.length ≤ sizeLine then some (.nw (.lst ds), env1) else none
  | none => none
def fldM (f : Str) (m : Env' → Option (R × Env')) : Env' → Option (R × Env') := fun env => match pz (m env) with
  | some (r, env1) => match opD env1 r with
    | some (.ins c fs) => match fs.lookup f with
      | some d => some (.dt d, env1)
      | none => none
    | _ => none
  | none => none
def isOw (env : Env') (i : Nat) : Bool := match env[i]? with
  | some (.ow _ (.lst _)) => true
  | _ => false
def appendM (i : Nat) (m : Env' → Option (R × Env')) : Env' → Option (R × Env') := fun env => if isOw env i = true then match frzM m env with
  | some (.dt d, env1) => match env1[i]? with
    | some (.ow b (.lst l)) => if l.length < sizeLine then some (.dt .non, env1.set i (.ow b (.lst (l ++ [d])))) else none
    | _ => none
  | _ => none
  else none
def popM (i : Nat) (m : Env' → Option (R × Env')) : Env' → Option (R × Env') := fun env => if isOw env i = true then match pz (m env) with
  | some (.dt (.int k), env1) => match env1[i]? with
    | some (.ow b (.lst l)) => if -(2 ^ 63) ≤ k ∧ k < 2 ^ 63 then match seqIndex? k l.length with
        | some j => match l[j]? with
          | some y => some (.dt y, env1.set i (.ow b (.lst (l.eraseIdx j))))
          | none => none
        | none => none
      else none
    | _ => none
  | _ => none
  else none
def extendM (i : Nat) (m : Env' → Option (R × Env')) : Env' → Option (R × Env') := fun env => if isOw env i = true then match pz (m env) with
  | some (.dt (.lst l2), env1) => match env1[i]? with
    | some (.ow b (.lst l)) => if l.length + l2.length ≤ sizeLine then some (.dt .non, env1.set i (.ow b (.lst (l ++ l2)))) else none
    | _ => none
  | _ => none
  else none
/-! calls -/
/-- the arguments as the callee's slots -/
def argSl (env : Env') : List R → List Bool → Option (List Sl)
  | [], [] => some []
  | r :: rs, m :: ms => match argSl env rs ms with
    | some ss => match m, r with
      | false, .dt d => some (.va d :: ss)
      | true, .nw d => some (.ow true d :: ss)
      | true, .sl i => match env[i]? with
        | some (.ow _ d) => some (.ow true d :: ss)
        | _ => none
      | _, _ => none
    | none => none
  | _, _ => none
/-- behind a call: what the callee left of what was lent -/
def lentBack : List R → List Sl → Env' → Option Env'
  | [], [], env => some env
  | .sl i :: rs, .ow true d :: ss, env => match env[i]? with
    | some (.ow b _) => lentBack rs ss (env.set i (.ow b d))
    | _ => none
  | .nw _ :: rs, .ow true _ :: ss, env => lentBack rs ss env
  | .dt _ :: rs, _ :: ss, env => lentBack rs ss env
  | _, _, _ => none
def slotsOf : List R → List Nat
  | [] => []
  | .sl i :: rs => i :: slotsOf rs
  | _ :: rs => slotsOf rs
def callF (cf : List Sl → Option (R × List Sl)) (mt : List Bool) (rs : List R) (env : Env') : Option (R × Env') :=
  if (slotsOf rs).Nodup then match argSl env rs mt with
    | some ss => match cf ss with
      | some (r, ss') => match r with
        | .sl _ => none
        | r => (lentBack rs ss' env).map fun env' => (r, env')
      | none => none
    | none => none
  else none
def callM (cf : List Sl → Option (R × List Sl)) (mt : List Bool) (ms : Env' → Option (List R × Env')) : Env' → Option (R × Env') := fun env => match ms env with
  | some (rs, env1) => callF cf mt rs env1
  | none => none
def makeM (c : Nat) (cf : List Sl → Option (R × List Sl)) (ms : Env' → Option (List D × Env')) : Env' → Option (R × Env') := fun env => match ms env with
  | some (ds, env1) => match cf (.ow true (.ins c []) :: ds.map .va) with
    | some (.dt .non, .ow true d :: _) => some (.nw d, env1)
    | _ => none
  | none => none
/-- an instance of a class, whose attributes leave a method's name free -/
def insM (c : Nat) (mm : Str) (m : Env' → Option (R × Env')) : Env' → Option (R × Env') := fun env => match m env with
  | some (r, env1) => match opD env1 r with
    | some (.ins c' fs) => if c' = c ∧ fs.lookup mm = none then some (r, env1) else none
    | _ => none
  | none => none
def permute (perm : List Nat) (ds : List D) : Option (List D) := perm.mapM fun i => ds[i]?
def permM (perm : List Nat) (ms : Env' → Option (List D × Env')) : Env' → Option (List D × Env') := fun env => match ms env with
  | some (ds, env1) => (permute perm ds).map fun es => (es, env1)
  | none => none
def dataR (ms : Env' → Option (List D × Env')) : Env' → Option (List R × Env') := fun env => match ms env with
  | some (ds, env1) => some (ds.map .dt, env1)
  | none => none
/-! what is walked -/
def seqD : D → Option (List D)
  | .tup l => some l
  | .lst l => some l
  | .str z => some (z.cps.toList.map fun c => .str ⟨#[c]⟩)
  | .scr l => some (l.map .int)
  | _ => none
def seqM (m : Env' → Option (R × Env')) : Env' → Option (List D × Env') := fun env => match frzM m env with
  | some (.dt d, env1) => (seqD d).map fun l => (l, env1)
  | _ => none
def rng1M (m : Env' → Option (R × Env')) : Env' → Option (List D × Env') := fun env => match m env with
  | some (.dt (.int n), env1) => if -(2 ^ 62) ≤ n ∧ n < 2 ^ 62 then some ((List.range n.toNat).map fun (k : Nat) => .int (0 + (k : Int)), env1) else none
  | _ => none
def rng2M (ma mb : Env' → Option (R × Env')) : Env' → Option (List D × Env') := fun env => match ma env with
  | some (.dt (.int lo), env1) => match mb env1 with
    | some (.dt (.int hi), env2) => if -(2 ^ 62) ≤ lo ∧ lo < 2 ^ 62 ∧ -(2 ^ 62) ≤ hi ∧ hi < 2 ^ 62 then some ((List.range (hi - lo).toNat).map fun (k : Nat) => .int (lo + (k : Int)), env2) else none
    | _ => none
  | _ => none
def enmD : D → Option (List D)
  | .tup l => some (l.zipIdx.map fun p => .tup [.int (p.2 : Nat), p.1])
  | .lst l => some (l.zipIdx.map fun p => .tup [.int (p.2 : Nat), p.1])
  | _ => none
def enmM (m : Env' → Option (R × Env')) : Env' → Option (List D × Env') := fun env => match frzM m env with
  | some (.dt d, env1) => (enmD d).map fun l => (l, env1)
  | _ => none
def zipD : D → D → Option (List D)
  | .tup l, .tup m => some ((l.zip m).map fun p => .tup [p.1, p.2])
  | .lst l, .lst m => some ((l.zip m).map fun p => .tup [p.1, p.2])
  | _, _ => none
def zipM (ms : Env' → Option (List D × Env')) : Env' → Option (List D × Env') := fun env => match ms env with
  | some ([x, y], env1) => (zipD x y).map fun l => (l, env1)
  | _ => none
/-! comprehensions -/
def trueM : Env' → Option (Bool × Env') := fun env => some (true, env)
def lcL (t : Tg) (vs : List Nat) (c : Env' → Option (Bool × Env')) (e : Env' → Option (R × Env')) : List D → List D → Env' → Option (List D × Env')
  | [], acc, env => some (acc, env)
  | x :: xs, acc, env => match putTg t x (wipeE env vs) with
    | some env1 => match c env1 with
      | some (true, env2) => match frzM e env2 with
        | some (.dt d, env3) => if acc.length < sizeLine then lcL t vs c e xs (acc ++ [d]) env3 else none
        | _ => none
      | some (false, env2) => lcL t vs c e xs acc env2
      | none => none
    | none => none
def lcM (vs : List Nat) (t : Tg) (it : Env' → Option (List D × Env')) (c : Env' → Option (Bool × Env')) (e : Env' → Option (R × Env')) : Env' → Option (R × Env') := fun env => match it env with
  | some (xs, env1) => if plainAt env1 vs = true then match lcL t vs c e xs [] env1 with
      | some (ds, env2) => some (.nw (.lst ds), backE env1 env2 vs)
      | none => none
    else none
  | none => none
def keyB (x : Str) (p : D × D) : Bool := match p.1 with
  | .str y => decide (y = x)
  | _ => false
def dPut (l : List (D × D)) (x : Str) (d : D) : List (D × D) :=
  if l.any (keyB x) = true then l.map (fun p => if keyB x p = true then (p.1, d) else p) else l ++ [(.str x, d)]
def dcL (t : Tg) (vs : List Nat) (c : Env' → Option (Bool × Env')) (k e : Env' → Option (R × Env')) : List D → List (D × D) → Env' → Option (List (D × D) × Env')
  | [], acc, env => some (acc, env)
  | x :: xs, acc, env => match putTg t x (wipeE env vs) with
    | some env1 => match c env1 with
      | some (true, env2) => match frzM k env2 with
        | some (.dt (.str y), env3) => match frzM e env3 with
          | some (.dt d, env4) => if acc.length < sizeLine then dcL t vs c k e xs (dPut acc y d) env4 else none
          | _ => none
        | _ => none
      | some (false, env2) => dcL t vs c k e xs acc env2
      | none => none
    | none => none
def dcM (vs : List Nat) (t : Tg) (it : Env' → Option (List D × Env')) (c : Env' → Option (Bool × Env')) (k e : Env' → Option (R × Env')) : Env' → Option (R × Env') := fun env => match it env with
  | some (xs, env1) => if plainAt env1 vs = true then match dcL t vs c k e xs [] env1 with
      | some (ds, env2) => some (.nw (.dic ds), backE env1 env2 vs)
      | none => none
    else none
  | none => none
/-! statements -/
inductive Fl where
  | next | brk | cnt
  | ret (r : R)
abbrev Ms := Env' → Option (Fl × Env')
def forL (t : Tg) (b : Env' → Option (Fl × Env')) : List D → Env' → Option (Fl × Env')
  | [], env => some (.next, env)
  | x :: xs, env => match putTg t x env with
    | some env1 => match b env1 with
      | some (.next, env2) => forL t b xs env2
      | some (.cnt, env2) => forL t b xs env2
      | some (.brk, env2) => some (.next, env2)
      | some (.ret r, env2) => some (.ret r, env2)
      | none => none
    | none => none
def forM (t : Tg) (it : Env' → Option (List D × Env')) (b : Env' → Option (Fl × Env')) : Env' → Option (Fl × Env') := fun env => match it env with
  | some (xs, env1) => forL t b xs env1
  | none => none
def whlL (c : Env' → Option (Bool × Env')) (b : Env' → Option (Fl × Env')) : Nat → Env' → Option (Fl × Env')
  | 0, _ => none
  | n + 1, env => match c env with
    | some (false, env1) => some (.next, env1)
    | some (true, env1) => match b env1 with
      | some (.next, env2) => whlL c b n env2
      | some (.cnt, env2) => whlL c b n env2
      | some (.brk, env2) => some (.next, env2)
      | some (.ret r, env2) => some (.ret r, env2)
      | none => none
    | none => none
def asgM (i : Nat) (m : Env' → Option (R × Env')) : Env' → Option (Fl × Env') := fun env => match keepM m env with
  | some (r, env1) => (putSl i r env1).map fun env2 => (.next, env2)
  | none => none
def asgTuM (is : List Nat) (m : Env' → Option (R × Env')) : Env' → Option (Fl × Env') := fun env => match frzM m env with
  | some (.dt (.tup ds), env1) => (putAll is ds env1).map fun env2 => (.next, env2)
  | _ => none
def parM (is : List Nat) (ms : Env' → Option (List R × Env')) : Env' → Option (Fl × Env') := fun env => match ms env with
  | some (rs, env1) => (parPut is rs env1).map fun env2 => (.next, env2)
  | none => none
def setAt (i : Nat) (k : Int) (d : D) (env : Env') : Option Env' := match env[i]? with
  | some (.ow b (.lst l)) => match ixN l.length k with
    | some j => some (env.set i (.ow b (.lst (l.set j d))))
    | none => none
  | _ => none
def setIxM (i : Nat) (mix m : Env' → Option (R × Env')) : Env' → Option (Fl × Env') := fun env => match frzM m env with
  | some (.dt d, env1) => if isOw env1 i = true then match pz (mix env1) with
    | some (.dt (.int k), env2) => (setAt i k d env2).map fun env3 => (.next, env3)
    | _ => none
    else none
  | _ => none
def setFM (i : Nat) (f : Str) (m : Env' → Option (R × Env')) : Env' → Option (Fl × Env') := fun env => match frzM m env with
  | some (.dt d, env1) => match env1[i]? with
    | some (.ow b (.ins c fs)) => if fs.length < 1000 ∧ fs.lookup f = none then some (.next, env1.set i (.ow b (.ins c (fs ++ [(f, d)])))) else none
    | _ => none
  | _ => none
def exM (m : Env' → Option (R × Env')) : Env' → Option (Fl × Env') := fun env => match m env with
  | some (_, env1) => some (.next, env1)
  | none => none
def retM (m : Env' → Option (R × Env')) : Env' → Option (Fl × Env') := fun env => match m env with
  | some (.dt d, env1) => some (.ret (.dt d), env1)
  | some (.nw d, env1) => some (.ret (.nw d), env1)
  | some (.sl i, env1) => match env1[i]? with
    | some (.ow false d) => some (.ret (.nw d), env1.set i .no)
    | _ => none
  | none => none
def retNM : Env' → Option (Fl × Env') := fun env => some (.ret (.dt .non), env)
def iteM (c : Env' → Option (R × Env')) (a b : Env' → Option (Fl × Env')) : Env' → Option (Fl × Env') := fun env => match boolM c env with
  | some (true, env1) => a env1
  | some (false, env1) => b env1
  | none => none
def nextM : Env' → Option (Fl × Env') := fun env => some (.next, env)
def brkM : Env' → Option (Fl × Env') := fun env => some (.brk, env)
def cntM : Env' → Option (Fl × Env') := fun env => some (.cnt, env)
def badM : Env' → Option (Fl × Env') := fun _ => none
def badE : Env' → Option (R × Env') := fun _ => none
def badI : Env' → Option (List D × Env') := fun _ => none
def consM (a b : Env' → Option (Fl × Env')) : Env' → Option (Fl × Env') := fun env => match a env with
  | some (.next, env1) => b env1
  | x => x
/-- targets that may be places: in their order -/
abbrev Mt := List D → Env' → Option Env'
def tNilM : List D → Env' → Option Env' := fun ds env => match ds with
  | [] => some env
  | _ => none
def tNmM (i : Nat) (k : List D → Env' → Option Env') : List D → Env' → Option Env' := fun ds env => match ds with
  | d :: ds => match putSl i (.dt d) env with
    | some env1 => k ds env1
    | none => none
  | [] => none
def tIxM (i : Nat) (mix : Env' → Option (R × Env')) (k : List D → Env' → Option Env') : List D → Env' → Option Env' := fun ds env => match ds with
  | d :: ds => if isOw env i = true then match pz (mix env) with
    | some (.dt (.int j), env1) => match setAt i j d env1 with
      | some env2 => k ds env2
      | none => none
    | _ => none
    else none
  | [] => none
def asgTM (k : List D → Env' → Option Env') (m : Env' → Option (R × Env')) : Env' → Option (Fl × Env') := fun env => match frzM m env with
  | some (.dt (.tup ds), env1) => (k ds env1).map fun env2 => (.next, env2)
  | _ => none

/-! ### the interpreter -/
section
variable (P : Pg) (cf : Nat → List Sl → Option (R × List Sl))
def mtOf (f : Nat) : List Bool := match P.fns[f]? with
  | some fn => fn.mt
  | none => []
def initOf (c : Nat) : Nat := match P.cls[c]? with
  | some cl => cl.init
  | none => P.fns.length
mutual
def evE : E → Env' → Option (R × Env')
  | .var i => varM i
  | .cst c => fun env => some (.dt c.d, env)
  | .tup es => tupM (evV es)
  | .lst es => lstM (evV es)
  | .bin o a b => op2 (binD o) (evE a) (evE b)
  | .cmp o a b => op2 (cmpR o) (evE a) (evE b)
  | .chain o o' a b c => chainM o o' (evE a) (evE b) (evE c)
  | .isN a => isNM (evE a)
  | .notN a => notNM (evE a)
  | .and a b => andM (evE a) (evE b)
  | .or a b => orM (evE a) (evE b)
  | .not a => notM (evE a)
  | .neg a => negM (evE a)
  | .ife c a b => ifeM (evE c) (evE a) (evE b)
  | .ix a b => op2 ixR (evE a) (evE b)
  | .sli a lo hi => sliM (evE a) (evO lo) (evO hi)
  | .call f es => callM (cf f) (mtOf P f) (evA es (mtOf P f))
  | .callK f perm es => callM (cf f) (mtOf P f) (dataR (permM perm (evV es)))
  | .make c es => makeM c (cf (initOf P c)) (evV es)
  | .makeK c perm es => makeM c (cf (initOf P c)) (permM perm (evV es))
  | .mcall c m f o es => callM (cf f) (mtOf P f) (consR (insM c m (frzM (evE o))) (evA es ((mtOf P f).drop 1)))
  | .mcallL c m f i es => callM (cf f) (mtOf P f) (consR (insM c m (varM i)) (evA es ((mtOf P f).drop 1)))
  | .mcallK c m f perm o es => callM (cf f) (mtOf P f) (consR (insM c m (frzM (evE o))) (dataR (permM perm (evV es))))
  | .bi b es => biM (biD b) (evPs es)
  | .isi b e => isM P.cls.length b (evE e)
  | .bm m o es => bmM (bmD m) (dataM (evE o)) (evPs es)
  | .bx m i e => match m with
    | .append => appendM i (evE e)
    | .popAt => popM i (evE e)
    | .extend => extendM i (evE e)
  | .fld o f => fldM f (evE o)
  | .isT a => isTM (evE a)
  | .notT a => notTM (evE a)
  | .dz a b => dzM (consV (evE a) (consV (evE b) nilD))
  | .dc vs t it c k e => dcM vs t (evI it) (evC c) (evE k) (evE e)
  | .lc vs t it c e => lcM vs t (evI it) (evC c) (evE e)
  | .lc2 _ _ _ _ _ _ _ _ _ => badE
def evV : Es → Env' → Option (List D × Env')
  | .nil => nilD
  | .cons e es => consV (evE e) (evV es)
def evPs : Es → Env' → Option (List R × Env')
  | .nil => nilR
  | .cons e es => consP (evE e) (evPs es)
def evR : Es → Env' → Option (List R × Env')
  | .nil => nilR
  | .cons e es => consR (keepM (evE e)) (evR es)
def evA : Es → List Bool → Env' → Option (List R × Env')
  | .nil => fun _ => nilR
  | .cons e es => fun ms => match ms with
    | true :: ms => consR (lendM (evE e)) (evA es ms)
    | _ :: ms => consR (frzM (evE e)) (evA es ms)
    | [] => consR (frzM (evE e)) (evA es [])
def evO : Eo → Env' → Option (Option Int × Env')
  | .no => noO
  | .so e => soM (evE e)
def evC : Eo → Env' → Option (Bool × Env')
  | .no => trueM
  | .so e => boolM (evE e)
def evI : It → Env' → Option (List D × Env')
  | .seq e => seqM (evE e)
  | .rng1 e => rng1M (evE e)
  | .rng2 a b => rng2M (evE a) (evE b)
  | .enm e => enmM (evE e)
  | .zip2 a b => zipM (consV (evE a) (consV (evE b) nilD))
  | .zip3 _ _ _ => badI
end
mutual
def exS : S → Env' → Option (Fl × Env')
  | .asg t e => match t with
    | .nm i => asgM i (evE P cf e)
    | .tu is => asgTuM is (evE P cf e)
  | .par is es => parM is (evR P cf es)
  | .setIx i ix e => setIxM i (evE P cf ix) (evE P cf e)
  | .asgT ts e => asgTM (exT ts) (evE P cf e)
  | .setF i f e => setFM i f (evE P cf e)
  | .ex e => exM (evE P cf e)
  | .ret e => retM (evE P cf e)
  | .retN => retNM
  | .ite c a b => iteM (evE P cf c) (exSs a) (exSs b)
  | .for_ t it b => forM t (evI P cf it) (exSs b)
  | .whl c b => whlL (boolM (evE P cf c)) (exSs b) P.wf
  | .pass => nextM
  | .brk => brkM
  | .cnt => cntM
  | .bad => badM
def exSs : Ss → Env' → Option (Fl × Env')
  | .nil => nextM
  | .cons s ss => consM (exS s) (exSs ss)
def exT : Ts → List D → Env' → Option Env'
  | .nil => tNilM
  | .nm i ts => tNmM i (exT ts)
  | .ix i e ts => tIxM i (evE P cf e) (exT ts)
end
end
/-- of the parameters' slots only what was lent goes back -/
def lentAt (env : Env') (i : Nat) : Sl := match env[i]? with
  | some (.ow true d) => .ow true d
  | _ => .no
def cleanE (n : Nat) (env : Env') : List Sl := (List.range n).map (lentAt env)
def endR : Option (Fl × Env') → Nat → Option (R × List Sl)
  | some (.next, env), n => some (.dt .non, cleanE n env)
  | some (.ret r, env), n => some (r, cleanE n env)
  | _, _ => none
def startE (n : Nat) (ss : List Sl) : Env' := ss ++ List.replicate (n - ss.length) .no
def runN (P : Pg) : Nat → Nat → List Sl → Option (R × List Sl)
  | 0, _, _ => none
  | k + 1, f, ss => match P.fns[f]? with
    | some fn => if ss.length = fn.ps.length then endR (exSs P (runN P k) fn.body (startE fn.n ss)) fn.ps.length else none
    | none => none
end VI
namespace VI
open PySem L2

def Ex (F G : Hp) : Prop := ∀ a o, F a = some o → G a = some o
theorem Ex.refl (F : Hp) : Ex F F := fun _ _ h => h
theorem Ex.trans {F G I : Hp} (a : Ex F G) (b : Ex G I) : Ex F I := fun x o h => b x o (a x o h)
theorem Ex.new {F : Hp} {p : Addr} {o : HO} (h : F p = none) : Ex F (upd F p o) := fun a u e => by
  rw [upd_ne (ne_of_none e h)]; exact e
theorem Ex.sqT {K : PySem.W.Frag} {F G : Hp} {a : Addr} {xs : List V} (e : Ex F G) (h : SqT K F a xs) : SqT K G a xs := by
  rcases h with (h | ⟨o, h⟩) | h
  · exact .inl (.inl (e _ _ h))
  · exact .inl (.inr ⟨o, e _ _ h⟩)
  · exact .inr h
theorem Ex.sqL {K : PySem.W.Frag} {F G : Hp} {a : Addr} {xs : List V} (e : Ex F G) (h : SqL K F a xs) : SqL K G a xs := by
  rcases h with (h | ⟨o, h⟩) | h
  · exact .inl (.inl (e _ _ h))
  · exact .inl (.inr ⟨o, e _ _ h⟩)
  · exact .inr h

def TupObj (o : Obj) : Prop := o.cls = .type "tuple" ∧ o.dict = none
/-- a tuple whose record is known -/
def TpT (F : Hp) (a : Addr) (xs : List V) : Prop := ∃ o : Obj, F a = some (.frz o (.tup xs)) ∧ TupObj o
theorem TpT.sq {K : PySem.W.Frag} {F : Hp} {a : Addr} {xs : List V} (h : TpT F a xs) : SqT K F a xs := let ⟨o, h, _⟩ := h; .inl (.inr ⟨o, h⟩)
theorem Ex.tpT {F G : Hp} {a : Addr} {xs : List V} (e : Ex F G) (h : TpT F a xs) : TpT G a xs := let ⟨o, h, t⟩ := h; ⟨o, e _ _ h, t⟩
def keyD : Key → D
  | .inl i => .int i
  | .inr x => .str x

section
variable (K : PySem.W.Frag) (ct : Nat → Addr)
mutual
/-- a value of the layer stands for data, over what is frozen -/
inductive Rp (F : Hp) : V → D → Prop
  | non : Rp F .non .non
  | bl (b : Bool) : Rp F (.bl b) (.bl b)
  | int (i : Int) : Rp F (.int i) (.int i)
  | str (x : Str) : Rp F (.str x) (.str x)
  | tup {a : Addr} {xs : List V} {ds : List D} (h : TpT F a xs) (r : RpA F xs ds) : Rp F (.ref a) (.tup ds)
  | lst {a : Addr} {xs : List V} {ds : List D} (h : F a = some (.lst xs)) (r : RpA F xs ds) : Rp F (.ref a) (.lst ds)
  | dic {a : Addr} {kvs : List (Key × V)} {l : List (D × D)} (h : F a = some (.dK kvs)) (r : RpK F kvs l) : Rp F (.ref a) (.dic l)
  | ins {a dx : Addr} {fs : List (Str × V)} {c : Nat} {l : List (Str × D)} (h : F a = some (.ins (ct c) dx fs)) (h' : F dx = some (.own a)) (r : RpF F fs l) : Rp F (.ref a) (.ins c l)
  | scr {a : Addr} {ns : List Int} (h : SqL K F a (ns.map V.int)) : Rp F (.ref a) (.scr ns)
inductive RpA (F : Hp) : List V → List D → Prop
  | nil : RpA F [] []
  | cons {v : V} {vs : List V} {d : D} {ds : List D} (h : Rp F v d) (r : RpA F vs ds) : RpA F (v :: vs) (d :: ds)
inductive RpK (F : Hp) : List (Key × V) → List (D × D) → Prop
  | nil : RpK F [] []
  | cons {k : Key} {v : V} {kvs : List (Key × V)} {d : D} {l : List (D × D)} (h : Rp F v d) (r : RpK F kvs l) : RpK F ((k, v) :: kvs) ((keyD k, d) :: l)
inductive RpF (F : Hp) : List (Str × V) → List (Str × D) → Prop
  | nil : RpF F [] []
  | cons {f : Str} {v : V} {fs : List (Str × V)} {d : D} {l : List (Str × D)} (h : Rp F v d) (r : RpF F fs l) : RpF F ((f, v) :: fs) ((f, d) :: l)
end
end
section
variable {K : PySem.W.Frag} {ct : Nat → Addr} {F G : Hp}
mutual
theorem Rp.mono (e : Ex F G) : ∀ {v : V} {d : D}, Rp K ct F v d → Rp K ct G v d
  | _, _, .non => .non
  | _, _, .bl b => .bl b
  | _, _, .int i => .int i
  | _, _, .str x => .str x
  | _, _, .tup h r => .tup (e.tpT h) (RpA.mono e r)
  | _, _, .lst h r => .lst (e _ _ h) (RpA.mono e r)
  | _, _, .dic h r => .dic (e _ _ h) (RpK.mono e r)
  | _, _, .ins h h' r => .ins (e _ _ h) (e _ _ h') (RpF.mono e r)
  | _, _, .scr h => .scr (e.sqL h)
theorem RpA.mono (e : Ex F G) : ∀ {vs : List V} {ds : List D}, RpA K ct F vs ds → RpA K ct G vs ds
  | _, _, .nil => .nil
  | _, _, .cons h r => .cons (Rp.mono e h) (RpA.mono e r)
theorem RpK.mono (e : Ex F G) : ∀ {vs : List (Key × V)} {ds : List (D × D)}, RpK K ct F vs ds → RpK K ct G vs ds
  | _, _, .nil => .nil
  | _, _, .cons h r => .cons (Rp.mono e h) (RpK.mono e r)
theorem RpF.mono (e : Ex F G) : ∀ {vs : List (Str × V)} {ds : List (Str × D)}, RpF K ct F vs ds → RpF K ct G vs ds
  | _, _, .nil => .nil
  | _, _, .cons h r => .cons (Rp.mono e h) (RpF.mono e r)
end
theorem RpA.length : ∀ {vs : List V} {ds : List D}, RpA K ct F vs ds → vs.length = ds.length
  | _, _, .nil => rfl
  | _, _, .cons _ r => congrArg (· + 1) (RpA.length r)
theorem RpA.get : ∀ {vs : List V} {ds : List D} {i : Nat} {d : D}, RpA K ct F vs ds → ds[i]? = some d → ∃ v, vs[i]? = some v ∧ Rp K ct F v d
  | _, _, _, _, .nil, e => by simp at e
  | _, _, 0, _, .cons h _, e => by simp at e; subst e; exact ⟨_, rfl, h⟩
  | _, _, i + 1, d, .cons _ r, e => by
    obtain ⟨v, h1, h2⟩ := RpA.get (i := i) (d := d) r (by simpa using e)
    exact ⟨v, by simpa using h1, h2⟩
theorem RpA.get' : ∀ {vs : List V} {ds : List D} {i : Nat} {v : V}, RpA K ct F vs ds → vs[i]? = some v → ∃ d, ds[i]? = some d ∧ Rp K ct F v d
  | _, _, _, _, .nil, e => by simp at e
  | _, _, 0, _, .cons h _, e => by simp at e; subst e; exact ⟨_, rfl, h⟩
  | _, _, i + 1, d, .cons _ r, e => by
    obtain ⟨v, h1, h2⟩ := RpA.get' (i := i) (v := d) r (by simpa using e)
    exact ⟨v, by simpa using h1, h2⟩
theorem RpA.append : ∀ {vs ws : List V} {ds es : List D}, RpA K ct F vs ds → RpA K ct F ws es → RpA K ct F (vs ++ ws) (ds ++ es)
  | _, _, _, _, .nil, r => r
  | _, _, _, _, .cons h t, r => .cons h (RpA.append t r)
theorem RpA.take : ∀ {vs : List V} {ds : List D} (n : Nat), RpA K ct F vs ds → RpA K ct F (vs.take n) (ds.take n)
  | _, _, 0, _ => .nil
  | _, _, _ + 1, .nil => .nil
  | _, _, n + 1, .cons r t => .cons r (RpA.take n t)
theorem RpA.drop : ∀ {vs : List V} {ds : List D} (n : Nat), RpA K ct F vs ds → RpA K ct F (vs.drop n) (ds.drop n)
  | _, _, 0, r => r
  | _, _, _ + 1, .nil => .nil
  | _, _, n + 1, .cons _ t => RpA.drop n t
theorem RpA.set {v : V} {d : D} (h : Rp K ct F v d) : ∀ {vs : List V} {ds : List D} (i : Nat), RpA K ct F vs ds → RpA K ct F (vs.set i v) (ds.set i d)
  | _, _, _, .nil => .nil
  | _, _, 0, .cons _ t => .cons h t
  | _, _, i + 1, .cons q t => .cons q (RpA.set h i t)
theorem RpA.eraseIdx : ∀ {vs : List V} {ds : List D} (i : Nat), RpA K ct F vs ds → RpA K ct F (vs.eraseIdx i) (ds.eraseIdx i)
  | _, _, _, .nil => .nil
  | _, _, 0, .cons _ t => t
  | _, _, i + 1, .cons q t => .cons q (RpA.eraseIdx i t)
theorem RpA.rep {vs : List V} {ds : List D} (r : RpA K ct F vs ds) : ∀ k : Nat, RpA K ct F (List.replicate k vs).flatten (List.replicate k ds).flatten
  | 0 => .nil
  | k + 1 => by
    rw [List.replicate_succ, List.replicate_succ, List.flatten_cons, List.flatten_cons]
    exact RpA.append r (RpA.rep r k)
theorem RpF.look : ∀ {fs : List (Str × V)} {l : List (Str × D)} {f : Str} {d : D}, RpF K ct F fs l → l.lookup f = some d → ∃ v, fs.lookup f = some v ∧ Rp K ct F v d
  | _, _, _, _, .nil, e => by simp at e
  | _, _, f, d, .cons (f := g) h r, e => by
    rw [List.lookup_cons] at e ⊢
    cases q : f == g with
    | true => rw [q] at e; cases e; exact ⟨_, rfl, h⟩
    | false => rw [q] at e; exact RpF.look r e
theorem RpF.lookN : ∀ {fs : List (Str × V)} {l : List (Str × D)} {f : Str}, RpF K ct F fs l → l.lookup f = none → fs.lookup f = none
  | _, _, _, .nil, e => rfl
  | _, _, f, .cons (f := g) h r, e => by
    rw [List.lookup_cons] at e ⊢
    cases q : f == g with
    | true => rw [q] at e; cases e
    | false => rw [q] at e; exact RpF.lookN r e
theorem RpF.length : ∀ {fs : List (Str × V)} {l : List (Str × D)}, RpF K ct F fs l → fs.length = l.length
  | _, _, .nil => rfl
  | _, _, .cons _ r => congrArg (· + 1) (RpF.length r)
theorem RpK.length : ∀ {fs : List (Key × V)} {l : List (D × D)}, RpK K ct F fs l → fs.length = l.length
  | _, _, .nil => rfl
  | _, _, .cons _ r => congrArg (· + 1) (RpK.length r)
theorem keyB_eq (k : Key) (x : Str) (d : D) : keyB x (keyD k, d) = decide (k = .inr x) := by
  cases k with
  | inl i => rfl
  | inr y => simp [keyB, keyD]
theorem RpK.any {x : Str} : ∀ {fs : List (Key × V)} {l : List (D × D)}, RpK K ct F fs l → (fs.any fun kv => decide (kv.1 = Sum.inr x)) = l.any (keyB x)
  | _, _, .nil => rfl
  | _, _, .cons (k := k) (d := d) h r => by rw [List.any_cons, List.any_cons, keyB_eq, RpK.any r]
theorem RpK.app : ∀ {fs : List (Key × V)} {l : List (D × D)} {k : Key} {v : V} {d : D}, RpK K ct F fs l → Rp K ct F v d → RpK K ct F (fs ++ [(k, v)]) (l ++ [(keyD k, d)])
  | _, _, _, _, _, .nil, h => .cons h .nil
  | _, _, _, _, _, .cons q r, h => .cons q (RpK.app r h)
theorem RpK.mapk {x : Str} {v : V} {d : D} (h : Rp K ct F v d) : ∀ {fs : List (Key × V)} {l : List (D × D)}, RpK K ct F fs l → RpK K ct F (fs.map fun kv => if kv.1 = Sum.inr x then (kv.1, v) else kv) (l.map fun p => if keyB x p = true then (p.1, d) else p)
  | _, _, .nil => .nil
  | _, _, .cons (k := k) (d := d') q r => by
    rw [List.map_cons, List.map_cons, keyB_eq]
    by_cases e : k = Sum.inr x
    · rw [if_pos e, if_pos (by simpa using e)]; exact .cons h (RpK.mapk h r)
    · rw [if_neg e, if_neg (by simpa using e)]; exact .cons q (RpK.mapk h r)
theorem RpK.put {x : Str} {v : V} {d : D} {fs : List (Key × V)} {l : List (D × D)} (r : RpK K ct F fs l) (h : Rp K ct F v d) : RpK K ct F (putK fs (Sum.inr x) v) (dPut l x d) := by
  unfold putK dPut
  rw [r.any]
  by_cases e : l.any (keyB x) = true
  · rw [if_pos e, if_pos e]; exact RpK.mapk h r
  · rw [if_neg e, if_neg e]; exact RpK.app r h
theorem RpF.putNew {f : Str} {v : V} {d : D} (h : Rp K ct F v d) : ∀ {fs : List (Str × V)} {l : List (Str × D)}, RpF K ct F fs l → l.lookup f = none → RpF K ct F (putF f v fs) (l ++ [(f, d)])
  | _, _, .nil, _ => .cons h .nil
  | _, _, .cons (f := g) (v := w) (fs := fs) (l := l) q r, e => by
    rw [List.lookup_cons] at e
    have hne : ¬ g = f := by
      intro z; subst z; simp at e
    have hb : (f == g) = false := by simpa using fun z => hne z.symm
    rw [hb] at e
    show RpF K ct F (if g = f then (g, v) :: fs else (g, w) :: putF f v fs) _
    rw [if_neg hne]
    exact .cons q (RpF.putNew h r e)
end

section
variable (K : PySem.W.Frag) (ct : Nat → Addr)
/-- an object of one's own -/
def OwnAt (F H : Hp) (a : Addr) : D → Prop
  | .lst ds => ∃ xs, H a = some (.lst xs) ∧ RpA K ct F xs ds
  | .dic l => ∃ kvs, H a = some (.dK kvs) ∧ RpK K ct F kvs l
  | .ins c l => ∃ dx fs, H a = some (.ins (ct c) dx fs) ∧ F dx = some (.own a) ∧ RpF K ct F fs l
  | _ => False
structure Rel (F H : Hp) (σ : St) (env : Env') : Prop where
  sub : Ex F H
  len : σ.length = env.length
  va : ∀ (i : Nat) (d : D), env[i]? = some (.va d) → ∃ v, σ[i]? = some (some v) ∧ Rp K ct F v d
  ow : ∀ (i : Nat) (b : Bool) (d : D), env[i]? = some (.ow b d) → ∃ a, σ[i]? = some (some (.ref a)) ∧ F a = none ∧ OwnAt K ct F H a d
  dj : ∀ (i j : Nat) (b b' : Bool) (d d' : D) (a : Addr), env[i]? = some (.ow b d) → env[j]? = some (.ow b' d') → σ[i]? = some (some (.ref a)) → σ[j]? = some (some (.ref a)) → i = j
/-- where a run began: what was frozen, the heap, the objects that it may change, the slots -/
structure Fm where
  F : Hp
  H : Hp
  O : Addr → Prop
  L : St
  W : Addr → Prop
def foot (σ : St) (env : Env') (a : Addr) : Prop := ∃ (i : Nat) (b : Bool) (d : D), env[i]? = some (.ow b d) ∧ σ[i]? = some (some (.ref a))
structure Inn (z : Fm) (F H : Hp) (σ : St) (env : Env') : Prop where
  ex : Ex z.F F
  keep : ∀ (a : Addr) (o : HO), z.H a = some o → ¬ z.O a → H a = some o
  nofz : ∀ (a : Addr), z.H a ≠ none → ¬ z.O a → F a = z.F a
  th : ∀ (a : Addr), z.H a ≠ none → H a ≠ none
  fo : ∀ (a : Addr), foot σ env a → z.O a ∨ z.H a = none
  lent : ∀ (i : Nat) (d : D), env[i]? = some (.ow true d) → σ[i]? = z.L[i]?
  tz : ∀ (a : Addr), z.W a → z.H a ≠ none
  own : ∀ (i : Nat) (d : D) (a : Addr), env[i]? = some (.ow false d) → σ[i]? = some (some (.ref a)) → ¬ z.W a
structure RelB (z : Fm) (F H : Hp) (σ : St) (env : Env') : Prop where
  r : Rel K ct F H σ env
  n : Inn z F H σ env
def Res (z : Fm) (F H : Hp) (σ : St) (env : Env') (v : V) : R → Prop
  | .dt d => Rp K ct F v d
  | .nw d => ∃ a, v = .ref a ∧ F a = none ∧ OwnAt K ct F H a d ∧ ¬ foot σ env a ∧ z.H a = none
  | .sl i => σ[i]? = some (some v)
/-- what an operand is at the time -/
def OpAt (F H : Hp) (v : V) (d : D) : Prop := Rp K ct F v d ∨ ∃ a, v = .ref a ∧ F a = none ∧ OwnAt K ct F H a d
end
section
variable {K : PySem.W.Frag} {ct : Nat → Addr} {z : Fm} {F G H : Hp} {σ : St} {env : Env'} {v : V} {d : D} {r : R} {a : Addr}
theorem OwnAt.obj (h : OwnAt K ct F H a d) : ∃ o, H a = some o := by
  cases d <;> first
    | exact h.elim
    | (obtain ⟨_, e, _⟩ := h; exact ⟨_, e⟩)
    | (obtain ⟨_, _, e, _⟩ := h; exact ⟨_, e⟩)
theorem OwnAt.mono (e : Ex F G) (h : OwnAt K ct F H a d) : OwnAt K ct G H a d := by
  cases d with
  | lst ds => obtain ⟨xs, q, r⟩ := h; exact ⟨xs, q, r.mono e⟩
  | dic l => obtain ⟨xs, q, r⟩ := h; exact ⟨xs, q, r.mono e⟩
  | ins c l => obtain ⟨dx, fs, q, q', r⟩ := h; exact ⟨dx, fs, q, e _ _ q', r.mono e⟩
  | _ => exact h.elim
theorem OwnAt.heap {H' : Hp} (e : H' a = H a) (h : OwnAt K ct F H a d) : OwnAt K ct F H' a d := by
  cases d with
  | lst ds => obtain ⟨xs, q, r⟩ := h; exact ⟨xs, e.trans q, r⟩
  | dic l => obtain ⟨xs, q, r⟩ := h; exact ⟨xs, e.trans q, r⟩
  | ins c l => obtain ⟨dx, fs, q, q', r⟩ := h; exact ⟨dx, fs, e.trans q, q', r⟩
  | _ => exact h.elim
/-- an object is frozen -/
theorem OwnAt.freeze (h : OwnAt K ct F H a d) (hF : F a = none) : ∃ o, H a = some o ∧ Rp K ct (upd F a o) (.ref a) d := by
  cases d with
  | lst ds => obtain ⟨xs, q, r⟩ := h; exact ⟨_, q, .lst upd_same (r.mono (Ex.new hF))⟩
  | dic l => obtain ⟨xs, q, r⟩ := h; exact ⟨_, q, .dic upd_same (r.mono (Ex.new hF))⟩
  | ins c l =>
    obtain ⟨dx, fs, q, q', r⟩ := h
    exact ⟨_, q, .ins upd_same (by rw [upd_ne (ne_of_none q' hF)]; exact q') (r.mono (Ex.new hF))⟩
  | _ => exact h.elim
theorem OpAt.of (R0 : RelB K ct z F H σ env) (h : Res K ct z F H σ env v r) (e : opD env r = some d) : OpAt K ct F H v d := by
  cases r with
  | dt d' => cases e; exact .inl h
  | nw d' => cases e; obtain ⟨a, e1, e2, e3, _⟩ := h; exact .inr ⟨a, e1, e2, e3⟩
  | sl i =>
    unfold opD at e
    cases q : env[i]? with
    | none => simp [q] at e
    | some s =>
      cases s with
      | ow b d' =>
        simp only [q, Option.some.injEq] at e
        subst e
        obtain ⟨a, h1, h2, h3⟩ := R0.r.ow i b d' q
        have h' : σ[i]? = some (some v) := h
        rw [h1] at h'
        cases h'
        exact .inr ⟨a, rfl, h2, h3⟩
      | _ => simp [q] at e
end
end VI
namespace VI
open PySem L2
theorem set_at {α : Type} {l : List α} {i j : Nat} {x y : α} (h : (l.set i x)[j]? = some y) : (i = j ∧ x = y) ∨ (i ≠ j ∧ l[j]? = some y) := by
  rw [List.getElem?_set] at h
  by_cases e : i = j
  · rw [if_pos e] at h
    split at h
    · cases h; exact .inl ⟨e, rfl⟩
    · cases h
  · rw [if_neg e] at h; exact .inr ⟨e, h⟩
theorem set_self {α : Type} {l : List α} {i : Nat} {x y : α} (h : l[i]? = some y) : (l.set i x)[i]? = some x :=
  List.getElem?_set_self (List.getElem?_eq_some_iff.mp h).1
theorem set_ne {α : Type} {l : List α} {i j : Nat} {x : α} (h : i ≠ j) : (l.set i x)[j]? = l[j]? := List.getElem?_set_ne h
section
variable {K : PySem.W.Frag} {ct : Nat → Addr} {z : Fm} {F G H H' : Hp} {σ : St} {env : Env'} {v : V} {d d' : D} {r : R} {a : Addr} {i : Nat} {b : Bool}
/-- new objects that nobody asks for -/
theorem RelB.heap (R : RelB K ct z F H σ env) (e : Ex H H') : RelB K ct z F H' σ env where
  r := ⟨R.r.sub.trans e, R.r.len, R.r.va, fun i b d q => by
    obtain ⟨a, h1, h2, h3⟩ := R.r.ow i b d q
    obtain ⟨o, ho⟩ := h3.obj
    exact ⟨a, h1, h2, h3.heap ((e a o ho).trans ho.symm)⟩, R.r.dj⟩
  n := ⟨R.n.ex, fun a o h1 h2 => e a o (R.n.keep a o h1 h2), R.n.nofz, fun a h q => by
    cases w : H a with
    | none => exact R.n.th a h w
    | some o =>
      rw [e a o w] at q
      exact (nomatch q), R.n.fo, R.n.lent, R.n.tz, R.n.own⟩
theorem foot_of (R : RelB K ct z F H σ env) (q : env[i]? = some (.ow b d)) : ∃ a, σ[i]? = some (some (.ref a)) ∧ F a = none ∧ OwnAt K ct F H a d ∧ foot σ env a := by
  obtain ⟨a, h1, h2, h3⟩ := R.r.ow i b d q
  exact ⟨a, h1, h2, h3, i, b, d, q, h1⟩
/-- an object that no slot owns is frozen -/
theorem RelB.fz {o : HO} (R : RelB K ct z F H σ env) (h : H a = some o) (hF : F a = none) (nf : ¬ foot σ env a) (hz : z.H a = none ∨ z.O a) : RelB K ct z (upd F a o) H σ env where
  r := ⟨fun x u q => by
      by_cases e : x = a
      · subst e; rw [upd_same] at q; cases q; exact h
      · rw [upd_ne e] at q; exact R.r.sub x u q, R.r.len, fun i d q => by
      obtain ⟨v, h1, h2⟩ := R.r.va i d q
      exact ⟨v, h1, h2.mono (Ex.new hF)⟩, fun i b d q => by
      obtain ⟨c, h1, h2, h3⟩ := R.r.ow i b d q
      have hne : c ≠ a := fun e => nf (e ▸ ⟨i, b, d, q, h1⟩)
      exact ⟨c, h1, by rw [upd_ne hne]; exact h2, h3.mono (Ex.new hF)⟩, R.r.dj⟩
  n := ⟨R.n.ex.trans (Ex.new hF), R.n.keep, fun c h1 h2 => by
      have hne : c ≠ a := fun e => by
        subst e
        rcases hz with q | q
        · exact h1 q
        · exact h2 q
      rw [upd_ne hne]; exact R.n.nofz c h1 h2, R.n.th, R.n.fo, R.n.lent, R.n.tz, R.n.own⟩
/-- a new object that is only read from now on -/
theorem RelB.frzNew (R : RelB K ct z F H σ env) (h : Res K ct z F H σ env v (.nw d)) : ∃ F', Ex F F' ∧ RelB K ct z F' H σ env ∧ Rp K ct F' v d := by
  obtain ⟨a, rfl, hF, ho, nf, hz⟩ := h
  obtain ⟨o, e, q⟩ := ho.freeze hF
  exact ⟨_, Ex.new hF, R.fz e hF nf (.inl hz), q⟩
/-- a slot's object changes kind: forgotten -/
theorem RelB.forget (R : RelB K ct z F H σ env) (q : env[i]? = some (.ow b d)) : RelB K ct z F H σ (env.set i .no) where
  r := ⟨R.r.sub, by rw [List.length_set]; exact R.r.len, fun j d h => by
      rcases set_at h with ⟨_, e⟩ | ⟨_, h⟩
      · cases e
      · exact R.r.va j d h, fun j b d h => by
      rcases set_at h with ⟨_, e⟩ | ⟨_, h⟩
      · cases e
      · exact R.r.ow j b d h, fun i j b b' d d' a h1 h2 h3 h4 => by
      rcases set_at h1 with ⟨_, e⟩ | ⟨_, h1⟩
      · cases e
      rcases set_at h2 with ⟨_, e⟩ | ⟨_, h2⟩
      · cases e
      exact R.r.dj i j b b' d d' a h1 h2 h3 h4⟩
  n := ⟨R.n.ex, R.n.keep, R.n.nofz, R.n.th, fun a ⟨j, b, d, h, h'⟩ => by
      rcases set_at h with ⟨_, e⟩ | ⟨_, h⟩
      · cases e
      · exact R.n.fo a ⟨j, b, d, h, h'⟩, fun j d h => by
      rcases set_at h with ⟨_, e⟩ | ⟨_, h⟩
      · cases e
      · exact R.n.lent j d h, R.n.tz, fun j d a h h' => by
      rcases set_at h with ⟨_, e⟩ | ⟨_, h⟩
      · cases e
      · exact R.n.own j d a h h'⟩
/-- a slot's object is frozen -/
theorem RelB.frzSlot (R : RelB K ct z F H σ env) (q : env[i]? = some (.ow b d)) : ∃ F' v, Ex F F' ∧ σ[i]? = some (some v) ∧ Rp K ct F' v d ∧ RelB K ct z F' H σ (env.set i (.va d)) := by
  obtain ⟨a, h1, h2, h3, hf⟩ := foot_of R q
  obtain ⟨o, e, hr⟩ := h3.freeze h2
  have nf : ¬ foot σ (env.set i .no) a := fun ⟨j, b', d', h, h'⟩ => by
    rcases set_at h with ⟨_, e⟩ | ⟨hne, h⟩
    · cases e
    · exact hne (R.r.dj i j b b' d d' a q h h1 h')
  have hz : z.H a = none ∨ z.O a := (R.n.fo a hf).symm
  have R1 := (R.forget q).fz e h2 nf hz
  have hl : i < env.length := (List.getElem?_eq_some_iff.mp q).1
  refine ⟨_, .ref a, Ex.new h2, h1, hr, ⟨R1.r.sub, by rw [List.length_set]; exact R.r.len, fun j d2 h => ?_, fun j b2 d2 h => ?_, fun j k b2 b3 d2 d3 c g1 g2 g3 g4 => ?_⟩, ⟨R1.n.ex, R1.n.keep, R1.n.nofz, R1.n.th, fun c ⟨j, b2, d2, h, h'⟩ => ?_, fun j d2 h => ?_, R.n.tz, fun j d2 c h h' => ?_⟩⟩
  · rcases set_at h with ⟨rfl, e⟩ | ⟨hne, h⟩
    · cases e; exact ⟨_, h1, hr⟩
    · exact R1.r.va j d2 (by rw [set_ne hne]; exact h)
  · rcases set_at h with ⟨rfl, e⟩ | ⟨hne, h⟩
    · cases e
    · exact R1.r.ow j b2 d2 (by rw [set_ne hne]; exact h)
  · rcases set_at g1 with ⟨rfl, e⟩ | ⟨n1, g1⟩
    · cases e
    rcases set_at g2 with ⟨rfl, e⟩ | ⟨n2, g2⟩
    · cases e
    exact R.r.dj j k b2 b3 d2 d3 c g1 g2 g3 g4
  · rcases set_at h with ⟨rfl, e⟩ | ⟨hne, h⟩
    · cases e
    · exact R.n.fo c ⟨j, b2, d2, h, h'⟩
  · rcases set_at h with ⟨rfl, e⟩ | ⟨hne, h⟩
    · cases e
    · exact R.n.lent j d2 h
  · rcases set_at h with ⟨rfl, e⟩ | ⟨hne, h⟩
    · cases e
    · exact R.n.own j d2 c h h'
/-- a value is kept -/
theorem RelB.frz (R : RelB K ct z F H σ env) (h : Res K ct z F H σ env v r) {env1 : Env'} (e : frz r env = some (d, env1)) : ∃ F', Ex F F' ∧ RelB K ct z F' H σ env1 ∧ Rp K ct F' v d := by
  cases r with
  | dt d' => cases e; exact ⟨F, Ex.refl F, R, h⟩
  | nw d' => cases e; exact R.frzNew h
  | sl i =>
    unfold VI.frz at e
    cases q : env[i]? with
    | none => simp [q] at e
    | some s =>
      cases s with
      | ow b d' =>
        simp only [q, Option.some.injEq, Prod.mk.injEq] at e
        obtain ⟨rfl, rfl⟩ := e
        obtain ⟨F', w, ex, h1, h2, R1⟩ := R.frzSlot q
        have h' : σ[i]? = some (some v) := h
        rw [h1] at h'
        cases h'
        exact ⟨F', ex, R1, h2⟩
      | _ => simp [q] at e
theorem free_not (h : free i env = true) : ∃ s, env[i]? = some s ∧ ∀ d, s ≠ .ow true d := by
  unfold free at h
  cases q : env[i]? with
  | none => simp [q] at h
  | some s =>
    refine ⟨s, rfl, fun d e => ?_⟩
    subst e
    simp [q] at h
/-- a name gets data -/
theorem RelB.putVa (R : RelB K ct z F H σ env) (hf : free i env = true) (h : Rp K ct F v d) : RelB K ct z F H (σ.set i (some v)) (env.set i (.va d)) := by
  obtain ⟨s, hs, ns⟩ := free_not hf
  have hl : i < env.length := (List.getElem?_eq_some_iff.mp hs).1
  have hlσ : i < σ.length := by rw [R.r.len]; exact hl
  refine ⟨⟨R.r.sub, by rw [List.length_set, List.length_set]; exact R.r.len, fun j d2 g => ?_, fun j b2 d2 g => ?_, fun j k b2 b3 d2 d3 c g1 g2 g3 g4 => ?_⟩, ⟨R.n.ex, R.n.keep, R.n.nofz, R.n.th, fun c ⟨j, b2, d2, g, g'⟩ => ?_, fun j d2 g => ?_, R.n.tz, fun j d2 c g g' => ?_⟩⟩
  · rcases set_at g with ⟨rfl, e⟩ | ⟨hne, g⟩
    · cases e; exact ⟨v, List.getElem?_set_self hlσ, h⟩
    · rw [set_ne hne]; exact R.r.va j d2 g
  · rcases set_at g with ⟨rfl, e⟩ | ⟨hne, g⟩
    · cases e
    · rw [set_ne hne]; exact R.r.ow j b2 d2 g
  · rcases set_at g1 with ⟨rfl, e⟩ | ⟨n1, g1⟩
    · cases e
    rcases set_at g2 with ⟨rfl, e⟩ | ⟨n2, g2⟩
    · cases e
    rw [set_ne n1] at g3
    rw [set_ne n2] at g4
    exact R.r.dj j k b2 b3 d2 d3 c g1 g2 g3 g4
  · rcases set_at g with ⟨rfl, e⟩ | ⟨hne, g⟩
    · cases e
    · rw [set_ne hne] at g'; exact R.n.fo c ⟨j, b2, d2, g, g'⟩
  · rcases set_at g with ⟨rfl, e⟩ | ⟨hne, g⟩
    · cases e
    · rw [set_ne hne]; exact R.n.lent j d2 g
  · rcases set_at g with ⟨rfl, e⟩ | ⟨hne, g⟩
    · cases e
    · rw [set_ne hne] at g'; exact R.n.own j d2 c g g'
/-- a name gets a new object -/
theorem RelB.putOw (R : RelB K ct z F H σ env) (hf : free i env = true) (h : Res K ct z F H σ env v (.nw d)) : RelB K ct z F H (σ.set i (some v)) (env.set i (.ow false d)) := by
  obtain ⟨s, hs, ns⟩ := free_not hf
  obtain ⟨a, rfl, hF, ho, nf, hz⟩ := h
  have hl : i < env.length := (List.getElem?_eq_some_iff.mp hs).1
  have hlσ : i < σ.length := by rw [R.r.len]; exact hl
  have hσ : (σ.set i (some (V.ref a)))[i]? = some (some (V.ref a)) := List.getElem?_set_self hlσ
  refine ⟨⟨R.r.sub, by rw [List.length_set, List.length_set]; exact R.r.len, fun j d2 g => ?_, fun j b2 d2 g => ?_, fun j k b2 b3 d2 d3 c g1 g2 g3 g4 => ?_⟩, ⟨R.n.ex, R.n.keep, R.n.nofz, R.n.th, fun c ⟨j, b2, d2, g, g'⟩ => ?_, fun j d2 g => ?_, R.n.tz, fun j d2 c g g' => ?_⟩⟩
  · rcases set_at g with ⟨rfl, e⟩ | ⟨hne, g⟩
    · cases e
    · rw [set_ne hne]; exact R.r.va j d2 g
  · rcases set_at g with ⟨rfl, e⟩ | ⟨hne, g⟩
    · cases e; exact ⟨a, hσ, hF, ho⟩
    · rw [set_ne hne]; exact R.r.ow j b2 d2 g
  · rcases set_at g1 with ⟨rfl, e⟩ | ⟨n1, g1⟩
    · rcases set_at g2 with ⟨rfl, e⟩ | ⟨n2, g2⟩
      · rfl
      · rw [hσ] at g3; cases g3
        rw [set_ne n2] at g4
        exact (nf ⟨k, b3, d3, g2, g4⟩).elim
    · rw [set_ne n1] at g3
      rcases set_at g2 with ⟨rfl, e⟩ | ⟨n2, g2⟩
      · rw [hσ] at g4; cases g4
        exact (nf ⟨j, b2, d2, g1, g3⟩).elim
      · rw [set_ne n2] at g4
        exact R.r.dj j k b2 b3 d2 d3 c g1 g2 g3 g4
  · rcases set_at g with ⟨rfl, e⟩ | ⟨hne, g⟩
    · rw [hσ] at g'; cases g'; exact .inr hz
    · rw [set_ne hne] at g'; exact R.n.fo c ⟨j, b2, d2, g, g'⟩
  · rcases set_at g with ⟨rfl, e⟩ | ⟨hne, g⟩
    · cases e
    · rw [set_ne hne]; exact R.n.lent j d2 g
  · rcases set_at g with ⟨rfl, e⟩ | ⟨hne, g⟩
    · rw [hσ] at g'; cases g'; exact fun w => R.n.tz _ w hz
    · rw [set_ne hne] at g'; exact R.n.own j d2 c g g'
/-- an object of a slot changes -/
theorem RelB.write (R : RelB K ct z F H σ env) (q : env[i]? = some (.ow b d)) (hσ : σ[i]? = some (some (.ref a))) (kp : ∀ c, c ≠ a → H' c = H c) (ho : OwnAt K ct F H' a d') : RelB K ct z F H' σ (env.set i (.ow b d')) := by
  obtain ⟨a', h1, hF, h3, hf⟩ := foot_of R q
  rw [hσ] at h1; cases h1
  have nz : ∀ c, z.H c ≠ none → ¬ z.O c → c ≠ a := fun c h1 h2 e => by
    subst e
    rcases R.n.fo c hf with w | w
    · exact h2 w
    · exact h1 w
  refine ⟨⟨fun c o g => ?_, by rw [List.length_set]; exact R.r.len, fun j d2 g => ?_, fun j b2 d2 g => ?_, fun j k b2 b3 d2 d3 c g1 g2 g3 g4 => ?_⟩, ⟨R.n.ex, fun c o g1 g2 => ?_, R.n.nofz, fun c g1 g2 => ?_, fun c ⟨j, b2, d2, g, g'⟩ => ?_, fun j d2 g => ?_, R.n.tz, fun j d2 c g g' => ?_⟩⟩
  · have hne : c ≠ a := ne_of_none g hF
    rw [kp c hne]; exact R.r.sub c o g
  · rcases set_at g with ⟨rfl, e⟩ | ⟨hne, g⟩
    · cases e
    · exact R.r.va j d2 g
  · rcases set_at g with ⟨rfl, e⟩ | ⟨hne, g⟩
    · cases e; exact ⟨a, hσ, hF, ho⟩
    · obtain ⟨c, h1, h2, h3'⟩ := R.r.ow j b2 d2 g
      have hca : c ≠ a := fun e => hne (R.r.dj i j b b2 d d2 a q g hσ (e ▸ h1))
      exact ⟨c, h1, h2, h3'.heap (kp c hca)⟩
  · have h1 : ∃ b4 d4, env[j]? = some (.ow b4 d4) := by
      rcases set_at g1 with ⟨rfl, e⟩ | ⟨_, g1⟩
      · exact ⟨b, d, q⟩
      · exact ⟨_, _, g1⟩
    have h2 : ∃ b4 d4, env[k]? = some (.ow b4 d4) := by
      rcases set_at g2 with ⟨rfl, e⟩ | ⟨_, g2⟩
      · exact ⟨b, d, q⟩
      · exact ⟨_, _, g2⟩
    obtain ⟨b4, d4, h1⟩ := h1
    obtain ⟨b5, d5, h2⟩ := h2
    exact R.r.dj j k b4 b5 d4 d5 c h1 h2 g3 g4
  · have hne := nz c (by rw [g1]; simp) g2
    rw [kp c hne]; exact R.n.keep c o g1 g2
  · by_cases hne : c = a
    · subst hne
      obtain ⟨o, w⟩ := ho.obj
      rw [w] at g2; cases g2
    · rw [kp c hne] at g2; exact R.n.th c g1 g2
  · rcases set_at g with ⟨rfl, e⟩ | ⟨hne, g⟩
    · exact R.n.fo c ⟨i, b, d, q, g'⟩
    · exact R.n.fo c ⟨j, b2, d2, g, g'⟩
  · rcases set_at g with ⟨rfl, e⟩ | ⟨hne, g⟩
    · cases e; exact R.n.lent i d q
    · exact R.n.lent j d2 g
  · rcases set_at g with ⟨rfl, e⟩ | ⟨hne, g⟩
    · cases e; exact R.n.own i d c q g'
    · exact R.n.own j d2 c g g'
/-- a frame that begins here -/
def here (L : St) (W : Addr → Prop) (F H : Hp) (σ : St) (env : Env') : Fm := ⟨F, H, foot σ env, L, W⟩
theorem RelB.start (R : RelB K ct z F H σ env) : RelB K ct (here z.L z.W F H σ env) F H σ env :=
  ⟨R.r, Ex.refl F, fun _ _ h _ => h, fun _ _ _ => rfl, fun _ h => h, fun a h => .inl h, R.n.lent, fun a w => R.n.th a (R.n.tz a w), R.n.own⟩
/-- .. and is told in the frame around it -/
theorem RelB.outer {F1 H1 : Hp} {σ1 : St} {env1 : Env'} (R : RelB K ct z F H σ env) (R1 : RelB K ct (here z.L z.W F H σ env) F1 H1 σ1 env1) : RelB K ct z F1 H1 σ1 env1 := by
  have key : ∀ a, z.H a ≠ none → ¬ z.O a → H a ≠ none ∧ ¬ foot σ env a := fun a h1 h2 => by
    cases q : z.H a with
    | none => exact (h1 q).elim
    | some o =>
      refine ⟨by rw [R.n.keep a o q h2]; simp, fun f => ?_⟩
      rcases R.n.fo a f with w | w
      · exact h2 w
      · exact h1 w
  refine ⟨R1.r, R.n.ex.trans R1.n.ex, fun a o h1 h2 => ?_, fun a h1 h2 => ?_, fun a h => R1.n.th a (R.n.th a h), fun a f => ?_, fun j d h => R1.n.lent j d h, R.n.tz, R1.n.own⟩
  · exact R1.n.keep a o (R.n.keep a o h1 h2) (key a (by rw [h1]; simp) h2).2
  · obtain ⟨k1, k2⟩ := key a h1 h2
    exact (R1.n.nofz a k1 k2).trans (R.n.nofz a h1 h2)
  · rcases R1.n.fo a f with w | w
    · exact R.n.fo a w
    · by_cases q : z.H a = none
      · exact .inr q
      · exact (R.n.th a q w).elim
end
end VI
/-! tuples that are made: their record is known -/
namespace VI
open PySem L2
section
variable {X : Cx}
theorem laidTup {pins : List (Addr × Obj)} {σ : St} {H : Hp} {s : Shared} {Q : VK} {its : List Value} {xs : List V} {t' : Nat} (I : L2.Inv X pins σ H s) (r : Vals xs its) (hz : xs.length ≤ sizeLine) (q : ∀ p o, H p = none → TupObj o → Q (.ref p) (upd H p (.frz o (.tup xs)))) :
    EP X pins σ Q (.ref s.heap.objs.size) { s with heap := s.heap.push { cls := .type "tuple", data := .seq its.toArray }, toks := t' } :=
  ⟨.ref s.heap.objs.size, upd H s.heap.objs.size (.frz { cls := .type "tuple", data := .seq its.toArray } (.tup xs)), I.laid (fun b ob q => Heap.get?_push_of_some _ q) (Nat.le_refl _) ⟨Heap.get?_push_size _ rfl, hz, its, r, PyProof.Rows.IsTup.new _ _⟩, rfl, q _ _ (I.hok.fresh (Nat.le_refl _)) ⟨rfl, rfl⟩⟩
def rCatF (K : PySem.W.Frag) : R2 := fun x y H Q => ∃ a b xs ys, x = .ref a ∧ y = .ref b ∧ SqT K H a xs ∧ SqT K H b ys ∧ xs.length + ys.length ≤ sizeLine ∧
  (xs = [] → Q (.ref b) H) ∧ (xs ≠ [] → ys = [] → Q (.ref a) H) ∧ (xs ≠ [] → ys ≠ [] → ∀ p o, H p = none → TupObj o → Q (.ref p) (upd H p (.frz o (.tup (xs ++ ys)))))
theorem op_catF : OpR X (binaryOp .Add) (rCatF X.K) := by
  intro pins s σ H x y v u Q I rx ry h
  obtain ⟨a, b, xs, ys, rfl, rfl, ha, hb, hz, q0, q1, q2⟩ := h
  cases rx
  cases ry
  obtain ⟨its, r1, p1, _⟩ := I.tuple ha
  obtain ⟨its2, r2, p2, _⟩ := I.tuple hb
  by_cases hx : xs = []
  · subst hx
    cases r1
    exact cat_tup0 p1 p2 ⟨.ref b, H, I, rfl, q0 rfl⟩
  · refine HT.cat_tup p1 p2 (fun z => hx (r1.nil_iff.mp z)) (fun z => ⟨.ref a, H, I, rfl, q1 hx (r2.nil_iff.mp z)⟩) (fun z => ?_) (by rw [← r1.length, ← r2.length]; exact hz)
    exact laidTup (t' := s.toks) I (r1.append r2) (by rw [List.length_append]; exact hz) (q2 hx (fun w => z (r2.nil_iff.mpr w)))
def rSlF (K : PySem.W.Frag) : V → Option Int → Option Int → Hp → VK → Prop := fun x lo hi H Q => ∃ a xs, x = .ref a ∧ SqT K H a xs ∧
  (HT.sIx xs.length 0 lo = 0 ∧ HT.sIx xs.length xs.length hi = xs.length → Q (.ref a) H) ∧ (¬ (HT.sIx xs.length 0 lo = 0 ∧ HT.sIx xs.length xs.length hi = xs.length) → ∀ p o, H p = none → TupObj o → Q (.ref p) (upd H p (.frz o (.tup (cutV xs lo hi)))))
theorem sl_tupF : SlR X (rSlF X.K) := by
  intro pins s σ H x v vl vu lo hi sl Q I rx hs pl pu h
  obtain ⟨a, xs, rfl, hx, q1, q2⟩ := h
  cases rx
  obtain ⟨its, r, ht, hz⟩ := I.tuple hx
  have hlen : its.toArray.size = xs.length := by rw [List.size_toArray]; exact r.length.symm
  refine ⟨"tuple", _, PyProof.Rows.slot_tuple_getitem.lookup, ht.typeIs, ?_⟩
  by_cases hw : HT.sIx xs.length 0 lo = 0 ∧ HT.sIx xs.length xs.length hi = xs.length
  · exact getItem_tuple_whole ht hs pl pu (by rw [hlen]; exact hw) ⟨.ref a, H, I, rfl, q1 hw⟩
  · refine HT.getItem_tuple_cut ht hs pl pu (by rw [hlen]; exact hw) ?_ (by rw [hlen]; exact hz)
    rw [hlen]
    exact laidTup (t' := s.toks) I ((r.drop (HT.sIx xs.length 0 lo)).take (HT.sIx xs.length xs.length hi - HT.sIx xs.length 0 lo)) (Nat.le_trans (cutV_length xs lo hi) hz) (q2 hw)
theorem call_tupleF : CallR X (.type "tuple") (fun xs H Q => ∃ p ys, xs = [.ref p] ∧ ((SqL X.K H p ys ∧ ∀ l o, H l = none → TupObj o → Q (.ref l) (upd H l (.frz o (.tup ys)))) ∨ (SqT X.K H p ys ∧ Q (.ref p) H))) := by
  intro pins s σ H xs us Q I r h
  obtain ⟨p, ys, rfl, h⟩ := h
  obtain ⟨u, rfl, rx⟩ := vals1 r
  cases rx
  rcases h with ⟨hq, q⟩ | ⟨hq, q⟩
  · obtain ⟨its, r', pl, hz⟩ := I.list hq
    have hlen := r'.length
    refine call_tuple_list pl.isList (fun h' kp => ?_) (by simp only [List.size_toArray] <;> omega)
    have I1 : L2.Inv X pins σ H { s with heap := h' } := I.kept (t' := s.toks) kp
    exact laidTup (s := { s with heap := h' }) (t' := s.toks) I1 r' hz q
  · obtain ⟨its, r', pl, hz⟩ := I.tuple hq
    exact call_tuple_same pl ⟨.ref p, H, I, rfl, q⟩
theorem call_divmodF : CallR X (.builtin "divmod") (fun xs H Q => ∃ i j, xs = [.int i, .int j] ∧ CDiv i j ∧ ∀ p o, H p = none → TupObj o → Q (.ref p) (upd H p (.frz o (.tup [.int (i / j), .int (i % j)])))) := by
  intro pins s σ H xs us Q I r h
  obtain ⟨i, j, rfl, ⟨h1, h2⟩, q⟩ := h
  obtain ⟨u, w', rfl, ⟨t, rfl⟩, ⟨t', rfl⟩⟩ := vals2 r
  refine PyProof.Rows.divmod_int (by omega) ?_ (.inl (PyProof.noPylong_small (by omega)))
  rw [Int.fdiv_eq_ediv_of_nonneg i (by omega), Int.fmod_eq_emod_of_nonneg i (by omega)]
  exact laidTup (its := [.int (i / j) s.toks, .int (i % j) (s.toks + 1)]) I (.cons (show RelV (.int _) (.int _ _) from ⟨_, rfl⟩) (.cons (show RelV (.int _) (.int _ _) from ⟨_, rfl⟩) .nil)) (by simp only [List.length_cons, List.length_nil]; rw [sizeLine_eq]; decide) q
theorem mt_partF : MtR X "str.partition" (fun x xs H Q => ∃ a b, x = .str a ∧ xs = [.str b] ∧ (b.length == 0) = false ∧ a.length ≤ sizeLine ∧
    ∀ p o, H p = none → TupObj o → Q (.ref p) (upd H p (.frz o (.tup [.str (Txt.partition a b).1, .str (Txt.partition a b).2.1, .str (Txt.partition a b).2.2])))) := by
  intro pins s σ H x xs v us Q I rx rs h
  obtain ⟨a, b, rfl, rfl, hb, hz, h⟩ := h
  obtain ⟨t, rfl⟩ := rx
  cases rs with
  | cons r1 rs =>
    cases rs
    obtain ⟨u, rfl⟩ := r1
    refine call_meets PySem.F.slot_str_partition (typeIs_str _ _ _) PySem.F.entry_str_partition (PySem.F.args_str_partition_2 _ _) (meets_str_partition a b t u hb hz) ?_
    unfold Txt.partition at h
    revert h
    cases Builtin.Str.occurrences a b 0 a.length 1 with
    | nil => intro h; exact laidTup I (.cons (show RelV (.str _) (.str _ _) from ⟨_, rfl⟩) (.cons (show RelV (.str _) (.str _ _) from ⟨_, rfl⟩) (.cons (show RelV (.str _) (.str _ _) from ⟨_, rfl⟩) .nil))) (by show 3 ≤ sizeLine; decide) h
    | cons i r => intro h; exact laidTup I (.cons (show RelV (.str _) (.str _ _) from ⟨_, rfl⟩) (.cons (show RelV (.str _) (.str _ _) from ⟨_, rfl⟩) (.cons (show RelV (.str _) (.str _ _) from ⟨_, rfl⟩) .nil))) (by show 3 ≤ sizeLine; decide) h
def tTupF (t : TA) : TE := fun σ H Q => t σ H fun xs H1 => xs.length ≤ sizeLine ∧ ∀ p o, H1 p = none → TupObj o → Q (.ref p) (upd H1 p (.frz o (.tup xs)))
theorem pe_tupF {x1 : Nat} {es : List Expr} {t : TA} {pos : Pos} (h : PA X es t) : PE X (.Tuple es x1 pos) (tTupF t) := by
  refine ⟨fun pins s σ H Q I hq => ?_⟩
  refine wpAny_Tuple_spliced (thn (h.run pos pins s σ H _ I hq) fun us s1 ⟨xs, H1, I1, r, z, q⟩ => ⟨by rw [← r.length]; exact z, ?_⟩)
  exact laidTup (t' := s1.toks) I1 r z q
end
end VI
namespace VI
open PySem L2
section
variable {K : PySem.W.Frag} {ct : Nat → Addr} {z : Fm} {F G H H' : Hp} {σ : St} {env : Env'} {v : V} {d : D} {r : R} {a : Addr}
theorem OpAt.int {i : Int} (h : OpAt K ct F H v (.int i)) : v = .int i := by
  rcases h with h | ⟨_, _, _, h⟩
  · cases h; rfl
  · exact h.elim
theorem OpAt.bl {i : Bool} (h : OpAt K ct F H v (.bl i)) : v = .bl i := by
  rcases h with h | ⟨_, _, _, h⟩
  · cases h; rfl
  · exact h.elim
theorem OpAt.str {i : Str} (h : OpAt K ct F H v (.str i)) : v = .str i := by
  rcases h with h | ⟨_, _, _, h⟩
  · cases h; rfl
  · exact h.elim
theorem OpAt.non (h : OpAt K ct F H v .non) : v = .non := by
  rcases h with h | ⟨_, _, _, h⟩
  · cases h; rfl
  · exact h.elim
theorem OpAt.tup {l : List D} (h : OpAt K ct F H v (.tup l)) (s : Ex F H) : ∃ a xs, v = .ref a ∧ SqT K H a xs ∧ RpA K ct F xs l := by
  rcases h with h | ⟨_, _, _, h⟩
  · cases h with
    | tup h r => exact ⟨_, _, rfl, (s.tpT h).sq, r⟩
  · exact h.elim
theorem OpAt.lst {l : List D} (h : OpAt K ct F H v (.lst l)) (s : Ex F H) : ∃ a xs, v = .ref a ∧ H a = some (.lst xs) ∧ RpA K ct F xs l := by
  rcases h with h | ⟨a, rfl, _, xs, q, r⟩
  · cases h with
    | lst h r => exact ⟨_, _, rfl, s _ _ h, r⟩
  · exact ⟨a, xs, rfl, q, r⟩
theorem OpAt.scr {l : List Int} (h : OpAt K ct F H v (.scr l)) (s : Ex F H) : ∃ a, v = .ref a ∧ SqL K H a (l.map V.int) := by
  rcases h with h | ⟨_, _, _, h⟩
  · cases h with
    | scr h => exact ⟨_, rfl, s.sqL h⟩
  · exact h.elim
theorem OpAt.ins {c : Nat} {l : List (Str × D)} (h : OpAt K ct F H v (.ins c l)) (s : Ex F H) : ∃ a dx fs, v = .ref a ∧ H a = some (.ins (ct c) dx fs) ∧ RpF K ct F fs l := by
  rcases h with h | ⟨a, rfl, _, dx, fs, q, _, r⟩
  · cases h with
    | ins h h' r => exact ⟨_, _, _, rfl, s _ _ h, r⟩
  · exact ⟨a, dx, fs, rfl, q, r⟩
theorem OpAt.dic {l : List (D × D)} (h : OpAt K ct F H v (.dic l)) (s : Ex F H) : ∃ a kvs, v = .ref a ∧ H a = some (.dK kvs) ∧ RpK K ct F kvs l := by
  rcases h with h | ⟨a, rfl, _, kvs, q, r⟩
  · cases h with
    | dic h r => exact ⟨_, _, rfl, s _ _ h, r⟩
  · exact ⟨a, kvs, rfl, q, r⟩
mutual
theorem Rp.dp (s : Ex F H) : ∀ {v : V} {d : D} {p : PyData}, Rp K ct F v d → py d = some p → Dp K H v p
  | _, _, _, .non, e => by unfold py at e; cases e; exact .non
  | _, _, _, .bl b, e => by unfold py at e; cases e; exact .bl b
  | _, _, _, .int i, e => by unfold py at e; cases e; exact .int i
  | _, _, _, .str x, e => by unfold py at e; cases e; exact .str x
  | _, _, _, .tup (ds := ds) h r, e => by
    unfold py at e
    cases q : pyAll ds with
    | none => rw [q] at e; cases e
    | some ps => rw [q] at e; cases e; exact .tup (s.tpT h).sq (RpA.dp s r q)
  | _, _, _, .lst (ds := ds) h r, e => by
    unfold py at e
    cases q : pyAll ds with
    | none => rw [q] at e; cases e
    | some ps => rw [q] at e; cases e; exact .lst (.inl (.inl (s _ _ h))) (RpA.dp s r q)
  | _, _, _, .dic _ _, e => by unfold py at e; cases e
  | _, _, _, .ins _ _ _, e => by unfold py at e; cases e
  | _, _, _, .scr _, e => by unfold py at e; cases e
theorem RpA.dp (s : Ex F H) : ∀ {vs : List V} {ds : List D} {ps : List PyData}, RpA K ct F vs ds → pyAll ds = some ps → DpAll K H vs ps
  | _, _, _, .nil, e => by unfold pyAll at e; cases e; exact .nil
  | _, _, _, .cons (d := d) (ds := ds) h r, e => by
    unfold pyAll at e
    cases q : py d with
    | none => rw [q] at e; cases e
    | some p =>
      cases q2 : pyAll ds with
      | none => rw [q, q2] at e; cases e
      | some ps =>
        rw [q, q2] at e
        cases e
        exact .cons (Rp.dp s h q) (RpA.dp s r q2)
end
theorem OpAt.dp {p : PyData} (h : OpAt K ct F H v d) (s : Ex F H) (e : py d = some p) : Dp K H v p := by
  rcases h with h | ⟨a, rfl, _, h⟩
  · exact h.dp s e
  · cases d with
    | lst ds =>
      obtain ⟨xs, q, r⟩ := h
      unfold py at e
      cases q2 : pyAll ds with
      | none => rw [q2] at e; cases e
      | some ps => rw [q2] at e; cases e; exact .lst (.inl (.inl q)) (r.dp s q2)
    | dic l => unfold py at e; cases e
    | ins c l => unfold py at e; cases e
    | _ => exact h.elim
theorem Rp.scal {w : V} (h : Rp K ct F v d) (e : scalD d = some w) : v = w ∧ flatV v = true := by
  cases h <;> simp [scalD] at e <;> subst e <;> exact ⟨rfl, rfl⟩
theorem RpA.flats : ∀ {vs : List V} {ds : List D} {ws : List V}, RpA K ct F vs ds → flats ds = some ws → vs = ws ∧ vs.all flatV = true
  | _, _, _, .nil, e => by simp [VI.flats] at e; subst e; exact ⟨rfl, rfl⟩
  | _, _, _, .cons (d := d) (ds := ds) h r, e => by
    unfold VI.flats at e
    cases q : scalD d with
    | none => simp [q] at e
    | some w =>
      cases q2 : VI.flats ds with
      | none => simp [q, q2] at e
      | some ws =>
        simp only [q, q2, Option.some.injEq] at e
        subst e
        obtain ⟨h1, h2⟩ := h.scal q
        obtain ⟨h3, h4⟩ := RpA.flats r q2
        subst h1 h3
        exact ⟨rfl, by simp [h2, h4]⟩
theorem RpA.txts : ∀ {vs : List V} {ds : List D} {ys : List Str}, RpA K ct F vs ds → txts ds = some ys → vs = ys.map V.str
  | _, _, _, .nil, e => by simp [VI.txts] at e; subst e; rfl
  | _, _, _, .cons (d := d) (ds := ds) h r, e => by
    cases d with
    | str x =>
      unfold VI.txts at e
      cases q2 : VI.txts ds with
      | none => simp [q2] at e
      | some ws =>
        simp only [q2, Option.map_some, Option.some.injEq] at e
        subst e
        cases h
        rw [RpA.txts r q2]; rfl
    | _ => simp [VI.txts] at e
theorem RpA.bools : ∀ {vs : List V} {ds : List D} {ys : List Bool}, RpA K ct F vs ds → bools ds = some ys → vs = ys.map V.bl
  | _, _, _, .nil, e => by simp [VI.bools] at e; subst e; rfl
  | _, _, _, .cons (d := d) (ds := ds) h r, e => by
    cases d with
    | bl x =>
      unfold VI.bools at e
      cases q2 : VI.bools ds with
      | none => simp [q2] at e
      | some ws =>
        simp only [q2, Option.map_some, Option.some.injEq] at e
        subst e
        cases h
        rw [RpA.bools r q2]; rfl
    | _ => simp [VI.bools] at e
theorem RpA.ofInts (ns : List Int) : RpA K ct F (ns.map V.int) (ns.map D.int) := by
  induction ns with
  | nil => exact .nil
  | cons n ns ih => exact .cons (.int n) ih
theorem RpA.ofStrs (ns : List Str) : RpA K ct F (ns.map V.str) (ns.map D.str) := by
  induction ns with
  | nil => exact .nil
  | cons n ns ih => exact .cons (.str n) ih
end

/-! ### what an operation gives -/
section
variable (K : PySem.W.Frag) (ct : Nat → Addr)
/-- nothing new; a new object that nobody changes; a new object of one's own -/
inductive Out (F H : Hp) : V → R → Hp → Hp → Prop
  | old {v : V} {d : D} (h : Rp K ct F v d) : Out F H v (.dt d) F H
  | fz {p : Addr} {o : HO} {d : D} (np : H p = none) (h : Rp K ct (upd F p o) (.ref p) d) : Out F H (.ref p) (.dt d) (upd F p o) (upd H p o)
  | ow {p : Addr} {o : HO} {d : D} (np : H p = none) (h : OwnAt K ct F (upd H p o) p d) : Out F H (.ref p) (.nw d) F (upd H p o)
end
section
variable {K : PySem.W.Frag} {ct : Nat → Addr} {z : Fm} {F F' G H H' : Hp} {σ : St} {env : Env'} {v : V} {d : D} {r : R} {a : Addr}
theorem noneF (s : Ex F H) (h : H a = none) : F a = none := by
  cases q : F a with
  | none => rfl
  | some o => rw [s a o q] at h; cases h
theorem RelB.noFoot (R : RelB K ct z F H σ env) (h : H a = none) : ¬ foot σ env a := fun ⟨i, b, d, q, q'⟩ => by
  obtain ⟨c, h1, h2, h3⟩ := R.r.ow i b d q
  rw [q'] at h1; cases h1
  obtain ⟨o, w⟩ := h3.obj
  rw [h] at w; cases w
theorem RelB.noZ (R : RelB K ct z F H σ env) (h : H a = none) : z.H a = none := by
  cases q : z.H a with
  | none => rfl
  | some o => exact (R.n.th a (by rw [q]; simp) h).elim
theorem Out.rel (R : RelB K ct z F H σ env) (o : Out K ct F H v r F' H') : Ex F F' ∧ RelB K ct z F' H' σ env ∧ Res K ct z F' H' σ env v r := by
  cases o with
  | old h => exact ⟨Ex.refl F, R, h⟩
  | fz np h =>
    rename_i p o d
    have nF := noneF R.r.sub np
    have R1 := R.heap (Ex.new (o := o) np)
    exact ⟨Ex.new nF, R1.fz upd_same nF (R.noFoot np) (.inl (R.noZ np)), h⟩
  | ow np h =>
    have nF := noneF R.r.sub np
    exact ⟨Ex.refl F, R.heap (Ex.new np), _, rfl, nF, h, R.noFoot np, R.noZ np⟩
end

/-! ### operations by their data -/
section
variable (K : PySem.W.Frag) (ct : Nat → Addr)
/-- an operation on two operands -/
def r2 (f : D → D → Option R) : R2 := fun x y H Q => ∃ F d e r, Ex F H ∧ OpAt K ct F H x d ∧ OpAt K ct F H y e ∧ f d e = some r ∧ ∀ v F' H', Out K ct F H v r F' H' → Q v H'
def r3 (f : D → Option Int → Option Int → Option R) : V → Option Int → Option Int → Hp → VK → Prop := fun x lo hi H Q =>
  ∃ F d r, Ex F H ∧ OpAt K ct F H x d ∧ f d lo hi = some r ∧ ∀ v F' H', Out K ct F H v r F' H' → Q v H'
/-- operands in a row -/
inductive OpAll (F H : Hp) : List V → List D → Prop
  | nil : OpAll F H [] []
  | cons {v : V} {vs : List V} {d : D} {ds : List D} (h : OpAt K ct F H v d) (r : OpAll F H vs ds) : OpAll F H (v :: vs) (d :: ds)
def rN (f : List D → Option R) : List V → Hp → VK → Prop := fun xs H Q => ∃ F ds r, Ex F H ∧ OpAll K ct F H xs ds ∧ f ds = some r ∧ ∀ v F' H', Out K ct F H v r F' H' → Q v H'
def rM (f : D → List D → Option R) : V → List V → Hp → VK → Prop := fun x xs H Q => ∃ F d ds r, Ex F H ∧ OpAt K ct F H x d ∧ OpAll K ct F H xs ds ∧ f d ds = some r ∧ ∀ v F' H', Out K ct F H v r F' H' → Q v H'
end
section
variable {X : Cx} {ct : Nat → Addr}
def bop : BO → Operator
  | .add => .Add
  | .sub => .Sub
  | .mul => .Mult
  | .mod => .Mod
  | .fdiv => .FloorDiv
  | .pow => .Pow
theorem OpAt.tupR {K : PySem.W.Frag} {F H : Hp} {v : V} {l : List D} (h : OpAt K ct F H v (.tup l)) : Rp K ct F v (.tup l) := by
  rcases h with h | ⟨_, _, _, h⟩
  · exact h
  · exact h.elim
theorem outTup {K : PySem.W.Frag} {F H : Hp} {xs : List V} {l : List D} {p : Addr} {o : Obj} (s : Ex F H) (np : H p = none) (ho : TupObj o) (r : RpA K ct F xs l) : Out K ct F H (.ref p) (.dt (.tup l)) (upd F p (.frz o (.tup xs))) (upd H p (.frz o (.tup xs))) :=
  .fz np (.tup ⟨o, upd_same, ho⟩ (r.mono (Ex.new (noneF s np))))
theorem outLst {K : PySem.W.Frag} {F H : Hp} {xs : List V} {l : List D} {p : Addr} (np : H p = none) (r : RpA K ct F xs l) : Out K ct F H (.ref p) (.nw (.lst l)) F (upd H p (.lst xs)) :=
  .ow np ⟨xs, upd_same, r⟩
theorem op_bin (o : BO) : OpR X (binaryOp (bop o)) (r2 X.K ct (binD o)) := by
  intro pins s σ H x y v u Q I rx ry h
  obtain ⟨F, d, e, r, sb, hx, hy, hf, k⟩ := h
  unfold binD at hf
  split at hf
  · cases hf
    exact op_add pins s σ H x y v u Q I rx ry ⟨_, _, hx.int, hy.int, k _ _ _ (.old (.int _))⟩
  · split at hf
    · rename_i hc
      cases hf
      exact op_add_str pins s σ H x y v u Q I rx ry ⟨_, _, hx.str, hy.str, hc, k _ _ _ (.old (.str _))⟩
    · cases hf
  · rename_i l m
    split at hf
    · rename_i hc
      cases hf
      obtain ⟨a, xs, rfl, h1, r1⟩ := hx.tup sb
      obtain ⟨b, ys, rfl, h2, r2⟩ := hy.tup sb
      have hc' : xs.length + ys.length ≤ sizeLine := by rw [r1.length, r2.length]; exact hc
      refine op_catF pins s σ H _ _ v u Q I rx ry ⟨a, b, xs, ys, rfl, rfl, h1, h2, hc', fun e => ?_, fun _ e => ?_, fun _ _ p o np ho => ?_⟩
      · subst e
        cases r1
        exact k _ _ _ (.old hy.tupR)
      · subst e
        cases r2
        have q := hx.tupR
        refine k _ _ _ (.old ?_)
        rw [List.append_nil]; exact q
      · exact k _ _ _ (outTup sb np ho (r1.append r2))
    · cases hf
  · split at hf
    · rename_i hc
      cases hf
      obtain ⟨a, xs, rfl, h1, r1⟩ := hx.lst sb
      obtain ⟨b, ys, rfl, h2, r2⟩ := hy.lst sb
      have hc' : xs.length + ys.length ≤ sizeLine := by rw [r1.length, r2.length]; exact hc
      exact op_cat pins s σ H _ _ v u Q I rx ry ⟨a, b, xs, ys, rfl, rfl, h1, h2, hc', fun p np => k _ _ _ (outLst np (r1.append r2))⟩
    · cases hf
  · cases hf
    exact op_sub pins s σ H x y v u Q I rx ry ⟨_, _, hx.int, hy.int, k _ _ _ (.old (.int _))⟩
  · split at hf
    · rename_i hc
      cases hf
      exact op_mul pins s σ H x y v u Q I rx ry ⟨_, _, hx.int, hy.int, hc, k _ _ _ (.old (.int _))⟩
    · cases hf
  · split at hf
    · rename_i hc
      cases hf
      obtain ⟨a, xs, rfl, h1, r1⟩ := hx.lst sb
      obtain ⟨c1, c2, c3⟩ := hc
      exact op_rep pins s σ H _ _ v u Q I rx ry ⟨a, _, xs, rfl, hy.int, h1, c1, c2, by rw [r1.length]; exact c3, fun p np => k _ _ _ (outLst np (r1.rep _))⟩
    · cases hf
  · split at hf
    · rename_i hc
      cases hf
      exact op_mod pins s σ H x y v u Q I rx ry ⟨_, _, hx.int, hy.int, hc, k _ _ _ (.old (.int _))⟩
    · cases hf
  · split at hf
    · rename_i hc
      cases hf
      exact op_fdiv pins s σ H x y v u Q I rx ry ⟨_, _, hx.int, hy.int, hc, k _ _ _ (.old (.int _))⟩
    · cases hf
  · split at hf
    · rename_i hc
      cases hf
      exact op_pow pins s σ H x y v u Q I rx ry ⟨_, _, hx.int, hy.int, hc, k _ _ _ (.old (.int _))⟩
    · cases hf
  · cases hf
def cop : CO → CmpOp
  | .eq => .Eq
  | .ne => .NotEq
  | .lt => .Lt
  | .le => .LtE
  | .gt => .Gt
  | .ge => .GtE
  | .isin => .In
  | .notin => .NotIn
theorem eqv_scal {p q : Str} : decide (V.str p = V.str q) = decide (p = q) := by
  by_cases e : p = q
  · subst e; simp
  · rw [decide_eq_false e, decide_eq_false (fun z => e (V.str.inj z))]
theorem op_eqC (hu : X.A.units + 65 < cLine) {f : D → D → Option R} (hf : ∀ d e, f d e = (eqD d e).map fun b => .dt (.bl b)) : OpR X (compareOp .Eq) (r2 X.K ct f) := by
  intro pins s σ H x y v u Q I rx ry h
  obtain ⟨F, d, e, r, sb, hx, hy, h1, k⟩ := h
  rw [hf] at h1
  unfold eqD at h1
  split at h1
  · rename_i p q e1 e2
    split at h1
    · cases h1
      have dx := hx.dp sb e1
      have dy := hy.dp sb e2
      cases dx
      cases dy
      refine op_eq pins s σ H _ _ v u Q I rx ry ⟨rfl, ?_⟩
      rw [eqv_scal]
      exact k _ _ _ (.old (.bl _))
    · split at h1
      · rename_i hs
        cases h1
        exact op_eqD (by omega) pins s σ H x y v u Q I rx ry ⟨_, _, hx.dp sb e1, hy.dp sb e2, hs.1, hs.2, k _ _ _ (.old (.bl _))⟩
      · cases h1
  · cases h1
theorem op_neC (hu : X.A.units + 65 < cLine) {f : D → D → Option R} (hf : ∀ d e, f d e = ((eqD d e).map (!·)).map fun b => .dt (.bl b)) : OpR X (compareOp .NotEq) (r2 X.K ct f) := by
  intro pins s σ H x y v u Q I rx ry h
  obtain ⟨F, d, e, r, sb, hx, hy, h1, k⟩ := h
  rw [hf] at h1
  unfold eqD at h1
  split at h1
  · rename_i p q e1 e2
    split at h1
    · cases h1
      have dx := hx.dp sb e1
      have dy := hy.dp sb e2
      cases dx
      cases dy
      refine op_ne pins s σ H _ _ v u Q I rx ry ⟨rfl, ?_⟩
      rw [eqv_scal]
      exact k _ _ _ (.old (.bl _))
    · split at h1
      · rename_i hs
        cases h1
        exact op_neD (by omega) pins s σ H x y v u Q I rx ry ⟨_, _, hx.dp sb e1, hy.dp sb e2, hs.1, hs.2, k _ _ _ (.old (.bl _))⟩
      · cases h1
  · cases h1
theorem OpAt.scal {K : PySem.W.Frag} {F H : Hp} {v w : V} {d : D} (h : OpAt K ct F H v d) (e : scalD d = some w) : v = w ∧ flatV v = true := by
  rcases h with h | ⟨_, _, _, h⟩
  · exact h.scal e
  · cases d <;> simp [scalD] at e <;> exact h.elim
theorem op_inC (hu : X.A.units + 65 < cLine) {f : D → D → Option R} (hf : ∀ d e, f d e = (inD d e).map fun b => .dt (.bl b)) : OpR X (compareOp .In) (r2 X.K ct f) := by
  intro pins s σ H x y v u Q I rx ry h
  obtain ⟨F, d, e, r, sb, hx, hy, h1, k⟩ := h
  rw [hf] at h1
  unfold inD at h1
  split at h1
  · split at h1
    · cases h1
      exact op_in_str pins s σ H x y v u Q I rx ry ⟨_, _, hx.str, hy.str, k _ _ _ (.old (.bl _))⟩
    · cases h1
  · split at h1
    · rename_i w ws e1 e2
      cases h1
      obtain ⟨a, xs, rfl, g1, r1⟩ := hy.tup sb
      obtain ⟨rfl, q1⟩ := hx.scal e1
      obtain ⟨rfl, q2⟩ := r1.flats e2
      exact op_in_seq pins s σ H _ _ v u Q I rx ry ⟨a, xs, rfl, .inr g1, q1, q2, k _ _ _ (.old (.bl _))⟩
    · cases h1
  · split at h1
    · rename_i w ws e1 e2
      cases h1
      obtain ⟨a, xs, rfl, g1, r1⟩ := hy.lst sb
      obtain ⟨rfl, q1⟩ := hx.scal e1
      obtain ⟨rfl, q2⟩ := r1.flats e2
      exact op_in_seq pins s σ H _ _ v u Q I rx ry ⟨a, xs, rfl, .inl (SqL.of g1), q1, q2, k _ _ _ (.old (.bl _))⟩
    · split at h1
      · rename_i l _ p ps e1 e2
        split at h1
        · rename_i hs
          cases h1
          exact op_inD hu pins s σ H x y v u Q I rx ry ⟨_, _, hx.dp sb e1, hy.dp (p := .list ps) sb (by unfold py; rw [e2]; rfl), hs.1, hs.2, k _ _ _ (.old (.bl _))⟩
        · cases h1
      · cases h1
  · cases h1
theorem op_notinC (hu : X.A.units + 65 < cLine) {f : D → D → Option R} (hf : ∀ d e, f d e = ((inD d e).map (!·)).map fun b => .dt (.bl b)) : OpR X (compareOp .NotIn) (r2 X.K ct f) := by
  intro pins s σ H x y v u Q I rx ry h
  obtain ⟨F, d, e, r, sb, hx, hy, h1, k⟩ := h
  rw [hf] at h1
  unfold inD at h1
  split at h1
  · split at h1
    · cases h1
      exact op_notIn_str pins s σ H x y v u Q I rx ry ⟨_, _, hx.str, hy.str, k _ _ _ (.old (.bl _))⟩
    · cases h1
  · split at h1
    · rename_i w ws e1 e2
      cases h1
      obtain ⟨a, xs, rfl, g1, r1⟩ := hy.tup sb
      obtain ⟨rfl, q1⟩ := hx.scal e1
      obtain ⟨rfl, q2⟩ := r1.flats e2
      exact op_notIn_seq pins s σ H _ _ v u Q I rx ry ⟨a, xs, rfl, .inr g1, q1, q2, k _ _ _ (.old (.bl _))⟩
    · cases h1
  · split at h1
    · rename_i w ws e1 e2
      cases h1
      obtain ⟨a, xs, rfl, g1, r1⟩ := hy.lst sb
      obtain ⟨rfl, q1⟩ := hx.scal e1
      obtain ⟨rfl, q2⟩ := r1.flats e2
      exact op_notIn_seq pins s σ H _ _ v u Q I rx ry ⟨a, xs, rfl, .inl (SqL.of g1), q1, q2, k _ _ _ (.old (.bl _))⟩
    · split at h1
      · rename_i l _ p ps e1 e2
        split at h1
        · rename_i hs
          cases h1
          exact op_notInD hu pins s σ H x y v u Q I rx ry ⟨_, _, hx.dp sb e1, hy.dp (p := .list ps) sb (by unfold py; rw [e2]; rfl), hs.1, hs.2, k _ _ _ (.old (.bl _))⟩
        · cases h1
      · cases h1
  · cases h1
theorem op_cmp (hu : X.A.units + 65 < cLine) (o : CO) : OpR X (compareOp (cop o)) (r2 X.K ct (cmpR o)) := by
  cases o with
  | eq => exact op_eqC hu fun _ _ => rfl
  | ne => exact op_neC hu fun _ _ => rfl
  | isin => exact op_inC hu fun _ _ => rfl
  | notin => exact op_notinC hu fun _ _ => rfl
  | lt =>
    intro pins s σ H x y v u Q I rx ry h
    obtain ⟨F, d, e, r, sb, hx, hy, h1, k⟩ := h
    unfold cmpR cmpD at h1
    simp only at h1
    split at h1
    · cases h1
      exact op_lt pins s σ H x y v u Q I rx ry ⟨_, _, hx.int, hy.int, k _ _ _ (.old (.bl _))⟩
    · cases h1
  | le =>
    intro pins s σ H x y v u Q I rx ry h
    obtain ⟨F, d, e, r, sb, hx, hy, h1, k⟩ := h
    unfold cmpR cmpD at h1
    simp only at h1
    split at h1
    · cases h1
      exact op_le pins s σ H x y v u Q I rx ry ⟨_, _, hx.int, hy.int, k _ _ _ (.old (.bl _))⟩
    · cases h1
  | gt =>
    intro pins s σ H x y v u Q I rx ry h
    obtain ⟨F, d, e, r, sb, hx, hy, h1, k⟩ := h
    unfold cmpR cmpD at h1
    simp only at h1
    split at h1
    · cases h1
      exact op_gt pins s σ H x y v u Q I rx ry ⟨_, _, hx.int, hy.int, k _ _ _ (.old (.bl _))⟩
    · cases h1
  | ge =>
    intro pins s σ H x y v u Q I rx ry h
    obtain ⟨F, d, e, r, sb, hx, hy, h1, k⟩ := h
    unfold cmpR cmpD at h1
    simp only at h1
    split at h1
    · cases h1
      exact op_ge pins s σ H x y v u Q I rx ry ⟨_, _, hx.int, hy.int, k _ _ _ (.old (.bl _))⟩
    · cases h1
end
end VI
namespace VI
open PySem L2
section
variable {X : Cx} {ct : Nat → Addr}
theorem RpA.at {K : PySem.W.Frag} {F : Hp} {vs : List V} {ds : List D} {i : Int} {d : D} (r : RpA K ct F vs ds) (h : atI ds i = some d) : ∃ v, atI vs i = some v ∧ Rp K ct F v d := by
  unfold atI at h ⊢
  rw [r.length]
  cases q : ixN ds.length i with
  | none => rw [q] at h; cases h
  | some j =>
    rw [q] at h
    exact r.get (i := j) h
theorem atI_map {α β : Type} (f : α → β) (l : List α) (i : Int) : atI (l.map f) i = (atI l i).map f := by
  unfold atI
  rw [List.length_map]
  cases ixN l.length i with
  | none => rfl
  | some j => simp
theorem RpK.val {K : PySem.W.Frag} {F : Hp} : ∀ {kvs : List (Key × V)} {l : List (D × D)} {x : Str} {d : D}, RpK K ct F kvs l → dLook x l = some d → ∃ v, valV kvs (Sum.inr x) = some v ∧ Rp K ct F v d
  | _, _, _, _, .nil, e => by simp [dLook] at e
  | _, _, x, d, .cons (k := k) (v := v) (kvs := kvs) (l := l) h r, e => by
    cases k with
    | inl i =>
      have hne : ¬ (Sum.inl i : Key) = Sum.inr x := fun q => nomatch q
      rw [valV_neg (p := ((Sum.inl i : Key), v)) hne]
      exact RpK.val r e
    | inr y =>
      by_cases hy : y = x
      · subst hy
        rw [valV_pos (p := ((Sum.inr y : Key), v)) rfl]
        simp only [keyD, dLook, if_true, Option.some.injEq] at e
        subst e
        exact ⟨v, rfl, h⟩
      · have hne : ¬ (Sum.inr y : Key) = Sum.inr x := fun q => hy (Sum.inr.inj q)
        rw [valV_neg (p := ((Sum.inr y : Key), v)) hne]
        simp only [keyD, dLook, if_neg hy] at e
        exact RpK.val r e
theorem ix_dict (hu : X.A.units + 1 < cLine) : IxR X (fun x y H Q => ∃ a v, x = .ref a ∧ DGet H a y (some v) ∧ Q v H) := by
  intro value slice pins s σ H x y v u Q I rx ry h hs
  obtain ⟨a, w, rfl, g, q⟩ := h
  cases rx
  exact PyProof.Rows.tail_any (dict_typeIs I g) PySem.F.slot_dict_getitem.lookup (d_getItem hu I g ry fun w' s' I' r' => ⟨w, H, I', r', q⟩) hs
theorem ix_ok (hu : X.A.units + 1 < cLine) : IxR X (r2 X.K ct ixR) := by
  intro value slice pins s σ H x y v u Q I rx ry h hs
  obtain ⟨F, d, e, r, sb, hx, hy, hf, k⟩ := h
  unfold ixR ixD at hf
  split at hf
  · rename_i l i
    cases q : atI l i with
    | none => rw [q] at hf; cases hf
    | some w =>
      rw [q] at hf; cases hf
      obtain ⟨a, xs, rfl, h1, r1⟩ := hx.tup sb
      obtain ⟨v1, h2, h3⟩ := r1.at q
      exact ix_tup value slice pins s σ H _ _ v u Q I rx ry ⟨a, xs, i, v1, rfl, hy.int, h1, h2, k _ _ _ (.old h3)⟩ hs
  · rename_i l i
    cases q : atI l i with
    | none => rw [q] at hf; cases hf
    | some w =>
      rw [q] at hf; cases hf
      obtain ⟨a, xs, rfl, h1, r1⟩ := hx.lst sb
      obtain ⟨v1, h2, h3⟩ := r1.at q
      exact ix_list value slice pins s σ H _ _ v u Q I rx ry ⟨a, xs, i, v1, rfl, hy.int, SqL.of h1, h2, k _ _ _ (.old h3)⟩ hs
  · rename_i l i
    cases q : atI l i with
    | none => rw [q] at hf; cases hf
    | some w =>
      rw [q] at hf; cases hf
      obtain ⟨a, rfl, h1⟩ := hx.scr sb
      exact ix_list value slice pins s σ H _ _ v u Q I rx ry ⟨a, _, i, .int w, rfl, hy.int, h1, by rw [atI_map, q]; rfl, k _ _ _ (.old (.int _))⟩ hs
  · rename_i kvs
    split at hf
    · rename_i x'
      cases q : dLook x' kvs with
      | none => rw [q] at hf; cases hf
      | some w =>
        rw [q] at hf; cases hf
        obtain ⟨a, kv, rfl, h1, r1⟩ := hx.dic sb
        obtain ⟨v1, h2, h3⟩ := r1.val q
        have g : DGet H a (kV (Sum.inr x')) (some v1) := by rw [← h2]; exact DGet.k h1
        have e2 := hy.str
        subst e2
        exact ix_dict hu value slice pins s σ H _ _ v u Q I rx ry ⟨a, v1, rfl, g, k _ _ _ (.old h3)⟩ hs
    · cases hf
  · cases hf
theorem RpA.cut {K : PySem.W.Frag} {F : Hp} {vs : List V} {ds : List D} (lo hi : Option Int) (r : RpA K ct F vs ds) : RpA K ct F (cutV vs lo hi) (cutD ds lo hi) := by
  unfold cutV cutD
  rw [r.length]
  exact (r.drop _).take _
theorem sl_ok : SlR X (r3 X.K ct sliD) := by
  intro pins s σ H x v vl vu lo hi sl Q I rx hs pl pu h
  obtain ⟨F, d, r, sb, hx, hf, k⟩ := h
  unfold sliD at hf
  split at hf
  · rename_i l
    cases hf
    have hq := hx.tupR
    obtain ⟨a, xs, rfl, h1, r1⟩ := hx.tup sb
    refine sl_tupF pins s σ H _ v vl vu lo hi sl Q I rx hs pl pu ⟨a, xs, rfl, h1, fun e => ?_, fun _ p o np ho => k _ _ _ (outTup sb np ho (r1.cut lo hi))⟩
    refine k _ _ _ (.old ?_)
    have e1 : cutD l lo hi = l := by
      unfold cutD
      rw [← r1.length, e.1, e.2, List.drop_zero, Nat.sub_zero, r1.length, List.take_length]
    rw [e1]; exact hq
  · cases hf
    obtain ⟨a, xs, rfl, h1, r1⟩ := hx.lst sb
    exact sl_list pins s σ H _ v vl vu lo hi sl Q I rx hs pl pu ⟨a, xs, rfl, SqL.of h1, fun p np => k _ _ _ (outLst np (r1.cut lo hi))⟩
  · cases hf
    obtain ⟨a, rfl, h1⟩ := hx.scr sb
    exact sl_list pins s σ H _ v vl vu lo hi sl Q I rx hs pl pu ⟨a, _, rfl, h1, fun p np => k _ _ _ (outLst np ((RpA.ofInts _).cut lo hi))⟩
  · split at hf
    · rename_i hz
      cases hf
      exact sl_str pins s σ H _ v vl vu lo hi sl Q I rx hs pl pu ⟨_, hx.str, hz, k _ _ _ (.old (.str _))⟩
    · cases hf
  · cases hf
/-! ### built-in functions -/
theorem all1 {K : PySem.W.Frag} {F H : Hp} {xs : List V} {d : D} (h : OpAll K ct F H xs [d]) : ∃ v, xs = [v] ∧ OpAt K ct F H v d := by
  cases h with
  | cons h r => cases r; exact ⟨_, rfl, h⟩
theorem all2 {K : PySem.W.Frag} {F H : Hp} {xs : List V} {d e : D} (h : OpAll K ct F H xs [d, e]) : ∃ v w, xs = [v, w] ∧ OpAt K ct F H v d ∧ OpAt K ct F H w e := by
  cases h with
  | cons h r =>
    obtain ⟨w, rfl, q⟩ := all1 r
    exact ⟨_, w, rfl, h, q⟩
theorem bi_len : CallR X (.builtin "len") (rN X.K ct biLen) := by
  intro pins s σ H xs us Q I rs h
  obtain ⟨F, ds, r, sb, hx, hf, k⟩ := h
  unfold biLen at hf
  split at hf <;> try cases hf
  · obtain ⟨v, rfl, h1⟩ := all1 hx
    obtain ⟨a, ys, rfl, h2, r1⟩ := h1.tup sb
    refine call_len_seq pins s σ H _ us Q I rs ⟨a, ys, rfl, .inr h2, ?_⟩
    rw [r1.length]; exact k _ _ _ (.old (.int _))
  · obtain ⟨v, rfl, h1⟩ := all1 hx
    obtain ⟨a, ys, rfl, h2, r1⟩ := h1.lst sb
    refine call_len_seq pins s σ H _ us Q I rs ⟨a, ys, rfl, .inl (SqL.of h2), ?_⟩
    rw [r1.length]; exact k _ _ _ (.old (.int _))
  · obtain ⟨v, rfl, h1⟩ := all1 hx
    obtain ⟨a, rfl, h2⟩ := h1.scr sb
    refine call_len_seq pins s σ H _ us Q I rs ⟨a, _, rfl, .inl h2, ?_⟩
    rw [List.length_map]; exact k _ _ _ (.old (.int _))
  · obtain ⟨v, rfl, h1⟩ := all1 hx
    obtain ⟨a, kvs, rfl, h2, r1⟩ := h1.dic sb
    refine call_lenD pins s σ H _ us Q I rs ⟨a, kvs, rfl, h2, ?_⟩
    rw [r1.length]; exact k _ _ _ (.old (.int _))
  · split at hf
    · rename_i hz
      cases hf
      obtain ⟨v, rfl, h1⟩ := all1 hx
      exact call_len_str pins s σ H _ us Q I rs ⟨_, by rw [h1.str], hz, k _ _ _ (.old (.int _))⟩
    · cases hf
theorem bi_all (hc : X.calm = true) : CallR X (.builtin "all") (rN X.K ct biAll) := by
  intro pins s σ H xs us Q I rs h
  obtain ⟨F, ds, r, sb, hx, hf, k⟩ := h
  unfold biAll at hf
  split at hf <;> try cases hf
  rename_i l
  obtain ⟨v, rfl, h1⟩ := all1 hx
  obtain ⟨a, ys, rfl, h2, r1⟩ := h1.lst sb
  cases q : bools l with
  | none => rw [q] at hf; cases hf
  | some bs =>
    rw [q] at hf; cases hf
    have e := r1.bools q
    subst e
    exact cr_all hc pins s σ H _ us Q I rs ⟨a, bs, rfl, SqL.of h2, k _ _ _ (.old (.bl _))⟩
theorem bi_any (hc : X.calm = true) : CallR X (.builtin "any") (rN X.K ct biAny) := by
  intro pins s σ H xs us Q I rs h
  obtain ⟨F, ds, r, sb, hx, hf, k⟩ := h
  unfold biAny at hf
  split at hf <;> try cases hf
  rename_i l
  obtain ⟨v, rfl, h1⟩ := all1 hx
  obtain ⟨a, ys, rfl, h2, r1⟩ := h1.lst sb
  cases q : bools l with
  | none => rw [q] at hf; cases hf
  | some bs =>
    rw [q] at hf; cases hf
    have e := r1.bools q
    subst e
    exact cr_any hc pins s σ H _ us Q I rs ⟨a, bs, rfl, SqL.of h2, k _ _ _ (.old (.bl _))⟩
theorem bi_tuple : CallR X (.type "tuple") (rN X.K ct biTuple) := by
  intro pins s σ H xs us Q I rs h
  obtain ⟨F, ds, r, sb, hx, hf, k⟩ := h
  unfold biTuple at hf
  split at hf <;> try cases hf
  · obtain ⟨v, rfl, h1⟩ := all1 hx
    obtain ⟨a, ys, rfl, h2, r1⟩ := h1.lst sb
    exact call_tupleF pins s σ H _ us Q I rs ⟨a, ys, rfl, .inl ⟨SqL.of h2, fun p o np ho => k _ _ _ (outTup sb np ho r1)⟩⟩
  · obtain ⟨v, rfl, h1⟩ := all1 hx
    have hq := h1.tupR
    obtain ⟨a, ys, rfl, h2, r1⟩ := h1.tup sb
    exact call_tupleF pins s σ H _ us Q I rs ⟨a, ys, rfl, .inr ⟨h2, k _ _ _ (.old hq)⟩⟩
theorem bi_list : CallR X (.type "list") (rN X.K ct biList) := by
  intro pins s σ H xs us Q I rs h
  obtain ⟨F, ds, r, sb, hx, hf, k⟩ := h
  unfold biList at hf
  split at hf <;> try cases hf
  · obtain ⟨v, rfl, h1⟩ := all1 hx
    obtain ⟨a, ys, rfl, h2, r1⟩ := h1.lst sb
    exact call_list_of pins s σ H _ us Q I rs ⟨a, ys, rfl, .inl (SqL.of h2), fun p np => k _ _ _ (outLst np r1)⟩
  · obtain ⟨v, rfl, h1⟩ := all1 hx
    obtain ⟨a, ys, rfl, h2, r1⟩ := h1.tup sb
    exact call_list_of pins s σ H _ us Q I rs ⟨a, ys, rfl, .inr h2, fun p np => k _ _ _ (outLst np r1)⟩
theorem bi_int : CallR X (.type "int") (rN X.K ct biInt) := by
  intro pins s σ H xs us Q I rs h
  obtain ⟨F, ds, r, sb, hx, hf, k⟩ := h
  unfold biInt at hf
  split at hf <;> try cases hf
  · obtain ⟨v, rfl, h1⟩ := all1 hx
    exact call_int1 pins s σ H _ us Q I rs (.inl ⟨_, by rw [h1.int], k _ _ _ (.old (.int _))⟩)
  · obtain ⟨v, rfl, h1⟩ := all1 hx
    exact call_int1 pins s σ H _ us Q I rs (.inr ⟨_, by rw [h1.bl], k _ _ _ (.old (.int _))⟩)
theorem bi_abs : CallR X (.builtin "abs") (rN X.K ct biAbs) := by
  intro pins s σ H xs us Q I rs h
  obtain ⟨F, ds, r, sb, hx, hf, k⟩ := h
  unfold biAbs at hf
  split at hf <;> try cases hf
  obtain ⟨v, rfl, h1⟩ := all1 hx
  exact call_abs pins s σ H _ us Q I rs ⟨_, by rw [h1.int], k _ _ _ (.old (.int _))⟩
theorem bi_max2 (hc : X.calm = true) : CallR X (.builtin "max") (rN X.K ct biMax2) := by
  intro pins s σ H xs us Q I rs h
  obtain ⟨F, ds, r, sb, hx, hf, k⟩ := h
  unfold biMax2 at hf
  split at hf <;> try cases hf
  obtain ⟨v, w, rfl, h1, h2⟩ := all2 hx
  exact call_max2 hc pins s σ H _ us Q I rs ⟨_, _, by rw [h1.int, h2.int], k _ _ _ (.old (.int _))⟩
theorem bi_min2 (hc : X.calm = true) : CallR X (.builtin "min") (rN X.K ct biMin2) := by
  intro pins s σ H xs us Q I rs h
  obtain ⟨F, ds, r, sb, hx, hf, k⟩ := h
  unfold biMin2 at hf
  split at hf <;> try cases hf
  obtain ⟨v, w, rfl, h1, h2⟩ := all2 hx
  exact call_min2 hc pins s σ H _ us Q I rs ⟨_, _, by rw [h1.int, h2.int], k _ _ _ (.old (.int _))⟩
theorem bi_divmod : CallR X (.builtin "divmod") (rN X.K ct biDivmod) := by
  intro pins s σ H xs us Q I rs h
  obtain ⟨F, ds, r, sb, hx, hf, k⟩ := h
  unfold biDivmod at hf
  split at hf <;> try cases hf
  split at hf
  · rename_i hcd
    cases hf
    obtain ⟨v, w, rfl, h1, h2⟩ := all2 hx
    exact call_divmodF pins s σ H _ us Q I rs ⟨_, _, by rw [h1.int, h2.int], hcd, fun p o np ho => k _ _ _ (outTup sb np ho (.cons (.int _) (.cons (.int _) .nil)))⟩
  · cases hf
mutual
theorem py_noDict : ∀ (d : D) (p : PyData), py d = some p → p.hasDict = false
  | .non, p, e => by unfold py at e; cases e; simp [PyData.hasDict]
  | .bl _, p, e => by unfold py at e; cases e; simp [PyData.hasDict]
  | .int _, p, e => by unfold py at e; cases e; simp [PyData.hasDict]
  | .str _, p, e => by unfold py at e; cases e; simp [PyData.hasDict]
  | .tup l, p, e => by
    unfold py at e
    cases q : pyAll l with
    | none => rw [q] at e; cases e
    | some ps => rw [q] at e; cases e; simp only [PyData.hasDict]; exact pyAll_noDict l ps q
  | .lst l, p, e => by
    unfold py at e
    cases q : pyAll l with
    | none => rw [q] at e; cases e
    | some ps => rw [q] at e; cases e; simp only [PyData.hasDict]; exact pyAll_noDict l ps q
  | .dic _, p, e => by unfold py at e; cases e
  | .ins _ _, p, e => by unfold py at e; cases e
  | .scr _, p, e => by unfold py at e; cases e
theorem pyAll_noDict : ∀ (l : List D) (ps : List PyData), pyAll l = some ps → PyData.hasDictAll ps = false
  | [], ps, e => by unfold pyAll at e; cases e; simp [PyData.hasDictAll]
  | d :: l, ps, e => by
    unfold pyAll at e
    cases q : py d with
    | none => rw [q] at e; cases e
    | some p =>
      cases q2 : pyAll l with
      | none => rw [q, q2] at e; cases e
      | some ps =>
        rw [q, q2] at e; cases e
        simp only [PyData.hasDictAll, py_noDict d p q, pyAll_noDict l _ q2, Bool.or_self]
end
/-- repr of data -/
theorem bi_repr (hg : X.A.guards = some []) (hu : X.A.units + 80 < cLine) : CallR X (.builtin "repr") (rN X.K ct biRepr) := by
  intro pins s σ H xs us Q I rs h
  obtain ⟨F, ds, r, sb, hx, hf, k⟩ := h
  have key : ∀ {d : D} {p : PyData} {a : Addr}, OpAll X.K ct F H xs [d] → py d = some p → p.showable = true → p.shown.length ≤ sizeLine → p.depth ≤ 64 → r = .dt (.str p.shown) → (∀ v, Dp X.K H v p → ∃ a, v = .ref a) →
      wpAny (model X.prog X.w) X.A (call (Value.builtin "repr") us) (EP X pins σ Q) X.xe s := by
    intro d p _ hx ep c1 c2 c3 er hr
    subst er
    obtain ⟨v, rfl, h1⟩ := all1 hx
    obtain ⟨u, rfl, ru⟩ := vals1 rs
    have dp := h1.dp sb ep
    obtain ⟨as, rd⟩ := Dp.reads I p v u dp ru
    have fin : ∀ h' w tk, (∀ b o, s.heap.get? b = some o → h'.get? b = some o) → EP X pins σ Q (.str p.shown w) { s with heap := h', toks := tk } := fun h' w tk hk =>
      ⟨.str p.shown, H, I.kept (t' := tk) hk, ⟨w, rfl⟩, k _ _ _ (.old (.str _))⟩
    have nd : p.hasDict = true → sysModules ∉ as := fun e => by
      rw [py_noDict d p ep] at e; cases e
    obtain ⟨a, rfl⟩ := hr v dp
    cases ru
    exact repr_of_reads' rd c1 nd hg (by omega) (fun _ _ e => e) fin c2
  unfold biRepr at hf
  split at hf <;> try cases hf
  split at hf <;> try cases hf
  · rename_i ps ep
    split at hf <;> try cases hf
    rename_i hc
    exact key (a := 0) hx ep hc.1 hc.2.1 hc.2.2 rfl fun v dp => by cases dp; exact ⟨_, rfl⟩
  · rename_i ps ep
    split at hf <;> try cases hf
    rename_i hc
    exact key (a := 0) hx ep hc.1 hc.2.1 hc.2.2 rfl fun v dp => by cases dp; exact ⟨_, rfl⟩
/-! ### methods that read -/
theorem bm_join : MtR X "str.join" (rM X.K ct bmJoin) := by
  intro pins s σ H x xs v us Q I rx rs h
  obtain ⟨F, d, ds, r, sb, hx, hxs, hf, k⟩ := h
  unfold bmJoin at hf
  split at hf <;> try cases hf
  · rename_i z l
    cases q : txts l with
    | none => rw [q] at hf; cases hf
    | some ys =>
      rw [q] at hf
      simp only [Option.bind_some] at hf
      split at hf
      · rename_i hc
        cases hf
        obtain ⟨w, rfl, h1⟩ := all1 hxs
        obtain ⟨a, vs, rfl, h2, r1⟩ := h1.lst sb
        have e := r1.txts q
        subst e
        exact mt_join pins s σ H x _ v us Q I rx rs ⟨z, a, ys, hx.str, rfl, .inl (SqL.of h2), hc, k _ _ _ (.old (.str _))⟩
      · cases hf
  · rename_i z l
    cases q : txts l with
    | none => rw [q] at hf; cases hf
    | some ys =>
      rw [q] at hf
      simp only [Option.bind_some] at hf
      split at hf
      · rename_i hc
        cases hf
        obtain ⟨w, rfl, h1⟩ := all1 hxs
        obtain ⟨a, vs, rfl, h2, r1⟩ := h1.tup sb
        have e := r1.txts q
        subst e
        exact mt_join pins s σ H x _ v us Q I rx rs ⟨z, a, ys, hx.str, rfl, .inr h2, hc, k _ _ _ (.old (.str _))⟩
      · cases hf
theorem bm_split : MtR X "str.split" (rM X.K ct bmSplit) := by
  intro pins s σ H x xs v us Q I rx rs h
  obtain ⟨F, d, ds, r, sb, hx, hxs, hf, k⟩ := h
  unfold bmSplit at hf
  split at hf <;> try cases hf
  split at hf
  · rename_i hc
    cases hf
    obtain ⟨w, rfl, h1⟩ := all1 hxs
    exact mt_split pins s σ H x _ v us Q I rx rs ⟨_, _, hx.str, by rw [h1.str], hc.1, hc.2, fun p np => k _ _ _ (outLst np (RpA.ofStrs _))⟩
  · cases hf
theorem bm_partition : MtR X "str.partition" (rM X.K ct bmPartition) := by
  intro pins s σ H x xs v us Q I rx rs h
  obtain ⟨F, d, ds, r, sb, hx, hxs, hf, k⟩ := h
  unfold bmPartition at hf
  split at hf <;> try cases hf
  split at hf
  · rename_i hc
    cases hf
    obtain ⟨w, rfl, h1⟩ := all1 hxs
    exact mt_partF pins s σ H x _ v us Q I rx rs ⟨_, _, hx.str, by rw [h1.str], hc.1, hc.2, fun p o np ho => k _ _ _ (outTup sb np ho (.cons (.str _) (.cons (.str _) (.cons (.str _) .nil))))⟩
  · cases hf
theorem idx_first : ∀ {ys : List Str} {x : Str}, x ∈ ys → ys[ys.idxOf x]? = some x ∧ ∀ m, m < ys.idxOf x → ys[m]? ≠ some x
  | [], x, h => by simp at h
  | y :: ys, x, h => by
    by_cases e : y = x
    · subst e
      simp [List.idxOf_cons]
    · have hb : (y == x) = false := by simpa using e
      have h' : x ∈ ys := by
        rcases List.mem_cons.mp h with q | q
        · exact (e q.symm).elim
        · exact q
      obtain ⟨h1, h2⟩ := idx_first h'
      rw [List.idxOf_cons, hb]
      refine ⟨by simpa using h1, fun m hm q => ?_⟩
      cases m with
      | zero => simp at q; exact e q
      | succ m => exact h2 m (by simpa using hm) (by simpa using q)
theorem bm_index : MtR X "tuple.index" (rM X.K ct bmIndex) := by
  intro pins s σ H x xs v us Q I rx rs h
  obtain ⟨F, d, ds, r, sb, hx, hxs, hf, k⟩ := h
  unfold bmIndex at hf
  split at hf <;> try cases hf
  rename_i l z
  cases q : txts l with
  | none => rw [q] at hf; cases hf
  | some ys =>
    rw [q] at hf
    simp only [Option.bind_some] at hf
    split at hf
    · rename_i hm
      cases hf
      obtain ⟨w, rfl, h1⟩ := all1 hxs
      obtain ⟨a, vs, rfl, h2, r1⟩ := hx.tup sb
      have e := r1.txts q
      subst e
      obtain ⟨i1, i2⟩ := idx_first hm
      exact mt_tup_index pins s σ H _ _ v us Q I rx rs ⟨a, ys, z, _, rfl, by rw [h1.str], h2, i1, i2, k _ _ _ (.old (.int _))⟩
    · cases hf
end
end VI
namespace VI
open PySem L2
theorem _root_.L2.PE.vimp {X : Cx} {e : Expr} {t t' : TE} (h : PE X e t) (q : ∀ σ H Q, t' σ H Q → t σ H Q) : PE X e t' := ⟨fun pins s σ H Q I w => h.run pins s σ H Q I (q σ H Q w)⟩
theorem _root_.L2.PT.vimp {X : Cx} {e : Expr} {t t' : TT} (h : PT X e t) (q : ∀ σ H Q, t' σ H Q → t σ H Q) : PT X e t' := ⟨fun pins s σ H Q I w => h.run pins s σ H Q I (q σ H Q w)⟩
theorem _root_.L2.PW.vimp {X : Cx} {e : Expr} {t t' : TT} (h : PW X e t) (q : ∀ σ H Q, t' σ H Q → t σ H Q) : PW X e t' := ⟨fun wh pins s σ H Q I w => h.run wh pins s σ H Q I (q σ H Q w)⟩
theorem _root_.L2.PA.vimp {X : Cx} {e : List Expr} {t t' : TA} (h : PA X e t) (q : ∀ σ H Q, t' σ H Q → t σ H Q) : PA X e t' := ⟨fun pos pins s σ H Q I w => h.run pos pins s σ H Q I (q σ H Q w)⟩
theorem _root_.L2.PS.vimp {X : Cx} {e : Stmt} {t t' : TS} (h : PS X e t) (q : ∀ D σ H, t' D σ H → t D σ H) : PS X e t' := ⟨fun pins s σ H D I w => h.run pins s σ H D I (q D σ H w)⟩
theorem _root_.L2.PSs.vimp {X : Cx} {e : List Stmt} {t t' : TS} (h : PSs X e t) (q : ∀ D σ H, t' D σ H → t D σ H) : PSs X e t' := ⟨fun pins s σ H D I w => h.run pins s σ H D I (q D σ H w)⟩
theorem _root_.L2.PE.vnever {X : Cx} {e : Expr} {t : TE} (h : ∀ σ H Q, ¬ t σ H Q) : PE X e t := ⟨fun pins s σ H Q I w => (h σ H Q w).elim⟩

section
variable (K : PySem.W.Frag) (ct : Nat → Addr)
abbrev Me := Env' → Option (R × Env')
/-- an expression's reading, by the interpreter -/
def tV (m : Env' → Option (R × Env')) : TE := fun σ H Q => ∃ z F env, RelB K ct z F H σ env ∧ ∃ r env', m env = some (r, env') ∧
  ∀ v F' H', Ex F F' → RelB K ct z F' H' σ env' → Res K ct z F' H' σ env' v r → Q v H'
/-- a test's -/
def tB (m : Env' → Option (Bool × Env')) : TT := fun σ H Q => ∃ z F env, RelB K ct z F H σ env ∧ ∃ b env', m env = some (b, env') ∧
  ∀ F' H', Ex F F' → RelB K ct z F' H' σ env' → Q b H'
/-- arguments that are kept -/
def tA (m : Env' → Option (List D × Env')) : TA := fun σ H Q => ∃ z F env, RelB K ct z F H σ env ∧ ∃ ds env', m env = some (ds, env') ∧
  ∀ vs F' H', Ex F F' → RelB K ct z F' H' σ env' → RpA K ct F' vs ds → Q vs H'
/-- a row of results: data, the objects of slots; at most one new object -/
inductive ResA (z : Fm) (F H : Hp) (σ : St) (env : Env') : List V → List R → Prop
  | nil : ResA z F H σ env [] []
  | cons {v : V} {vs : List V} {r : R} {rs : List R} (h : Res K ct z F H σ env v r) (t : ResA z F H σ env vs rs) : ResA z F H σ env (v :: vs) (r :: rs)
def tR (m : Env' → Option (List R × Env')) : TA := fun σ H Q => ∃ z F env, RelB K ct z F H σ env ∧ ∃ rs env', m env = some (rs, env') ∧
  ∀ vs F' H', Ex F F' → RelB K ct z F' H' σ env' → ResA K ct z F' H' σ env' vs rs → Q vs H'
end
/-- data and slots only -/
def calmR : R → Bool
  | .nw _ => false
  | _ => true
section
variable {X : Cx} {K : PySem.W.Frag} {ct : Nat → Addr} {e : Expr} {es : List Expr} {m : Env' → Option (R × Env')} {ms : Env' → Option (List R × Env')}
theorem _root_.L2.PE.vpz (h : PE X e (tV X.K ct m)) : PE X e (tV X.K ct fun env => pz (m env)) := by
  refine h.vimp fun σ H Q w => ?_
  obtain ⟨z, F, env, rel, r, env', eq, k⟩ := w
  have eq : VI.pz (m env) = some (r, env') := eq
  cases q : m env with
  | none => rw [q] at eq; cases eq
  | some p =>
    obtain ⟨r0, env0⟩ := p
    rw [q] at eq
    cases r0 with
    | dt d => cases eq; exact ⟨z, F, env, rel, _, _, q, k⟩
    | sl i => cases eq; exact ⟨z, F, env, rel, _, _, q, k⟩
    | nw d =>
      cases eq
      refine ⟨z, F, env, rel, _, _, q, fun v F' H' ex rl res => ?_⟩
      obtain ⟨F2, e2, R2, rp⟩ := rl.frzNew res
      exact k v F2 H' (ex.trans e2) R2 rp
theorem _root_.L2.PE.vfrz (h : PE X e (tV X.K ct m)) : PE X e (tV X.K ct (frzM m)) := by
  refine h.vimp fun σ H Q w => ?_
  obtain ⟨z, F, env, rel, r, env', eq, k⟩ := w
  unfold VI.frzM at eq
  cases q : m env with
  | none => rw [q] at eq; cases eq
  | some p =>
    obtain ⟨r0, env0⟩ := p
    rw [q] at eq
    simp only at eq
    cases q2 : frz r0 env0 with
    | none => rw [q2] at eq; cases eq
    | some p2 =>
      obtain ⟨d, env1⟩ := p2
      rw [q2] at eq
      cases eq
      refine ⟨z, F, env, rel, _, _, q, fun v F' H' ex rl res => ?_⟩
      obtain ⟨F2, e2, R2, rp⟩ := rl.frz res q2
      exact k v F2 H' (ex.trans e2) R2 rp
/-- a later state keeps an earlier operand -/
theorem Res.calm {z : Fm} {F F' H H' : Hp} {σ : St} {env env' : Env'} {v : V} {r : R} (h : Res K ct z F H σ env v r) (hc : calmR r = true) (e : Ex F F') : Res K ct z F' H' σ env' v r := by
  cases r with
  | dt d => exact Rp.mono e h
  | sl i => exact h
  | nw d => cases hc
theorem pz_calm {env env1 : Env'} {r : R} (h : pz (m env) = some (r, env1)) : calmR r = true := by
  cases q : m env with
  | none => rw [q] at h; cases h
  | some p =>
    obtain ⟨r0, env0⟩ := p
    rw [q] at h
    cases r0 <;> cases h <;> rfl
/-! ### the small ones -/
theorem pe_cstV {c : Const} {ctt : Ct} {j : Nat} {pos : Pos} (h : (match c, ctt with
    | .none, .non => true
    | .bool b, .bl b' => decide (b = b')
    | .int i, .int i' => decide (i = i')
    | .str x, .str x' => decide (x = x')
    | _, _ => false) = true) : PE X (.Constant c j pos) (tV X.K ct fun env => some (.dt ctt.d, env)) := by
  cases c <;> cases ctt <;> simp at h
  · exact pe_non.vimp fun σ H Q ⟨z, F, env, rel, r, env', eq, k⟩ => by cases eq; exact k _ F H (Ex.refl F) rel .non
  · subst h; exact pe_bl.vimp fun σ H Q ⟨z, F, env, rel, r, env', eq, k⟩ => by cases eq; exact k _ F H (Ex.refl F) rel (.bl _)
  · subst h; exact pe_int.vimp fun σ H Q ⟨z, F, env, rel, r, env', eq, k⟩ => by cases eq; exact k _ F H (Ex.refl F) rel (.int _)
  · subst h; exact pe_str.vimp fun σ H Q ⟨z, F, env, rel, r, env', eq, k⟩ => by cases eq; exact k _ F H (Ex.refl F) rel (.str _)
def Ct.v : Ct → V
  | .non => .non
  | .bl b => .bl b
  | .int i => .int i
  | .str x => .str x
theorem Ct.rp {F : Hp} (c : Ct) : Rp K ct F c.v c.d := by
  cases c
  · exact .non
  · exact .bl _
  · exact .int _
  · exact .str _
theorem pe_globV {x : Str} {c : Ct} {u : Value} {pos : Pos} (hg : Gl X x) (hm : X.mg x = some u) (r : RelV c.v u) (hd : (x == ("__debug__" : Str)) = false) : PE X (.Name x pos) (tV X.K ct fun env => some (.dt c.d, env)) :=
  (pe_glob hg hm r hd).vimp fun σ H Q ⟨z, F, env, rel, r, env', eq, k⟩ => by cases eq; exact k _ F H (Ex.refl F) rel c.rp
theorem pe_varV {i : Nat} {x : Str} {pos : Pos} (hN : X.N[i]? = some x) (hv : Vis X.env.scope x) (hd : (x == ("__debug__" : Str)) = false) (hcd : (x == ("__classdict__" : Str)) = false) : PE X (.Name x pos) (tV X.K ct (varM i)) := by
  refine (pe_var hN hv hd hcd).vimp fun σ H Q w => ?_
  obtain ⟨z, F, env, rel, r, env', eq, k⟩ := w
  unfold varM at eq
  split at eq
  · rename_i d q
    cases eq
    obtain ⟨v, h1, h2⟩ := rel.r.va i d q
    exact ⟨v, h1, k _ F H (Ex.refl F) rel h2⟩
  · rename_i b d q
    cases eq
    obtain ⟨a, h1, h2⟩ := rel.r.ow i b d q
    exact ⟨_, h1, k _ F H (Ex.refl F) rel h1⟩
  · cases eq
/-! ### lists of expressions -/
theorem pa_nilV : PA X [] (tA X.K ct fun env => some ([], env)) := pa_nil.vimp fun σ H Q ⟨z, F, env, rel, r, env', eq, k⟩ => by cases eq; exact k _ F H (Ex.refl F) rel .nil
theorem pa_consV {ms : Env' → Option (List D × Env')} (h : PE X e (tV X.K ct m)) (hs : PA X es (tA X.K ct ms)) (hst : starEach (e :: es) X.env = (false, eval e X.env) :: starEach es X.env) : PA X (e :: es) (tA X.K ct (consV m ms)) := by
  refine (pa_cons h.vfrz hs hst).vimp fun σ H Q w => ?_
  obtain ⟨z, F, env, rel, r, env', eq, k⟩ := w
  unfold consV at eq
  cases q : m env with
  | none => rw [q] at eq; cases eq
  | some p =>
    obtain ⟨r0, env0⟩ := p
    rw [q] at eq
    simp only at eq
    cases q2 : frz r0 env0 with
    | none => rw [q2] at eq; cases eq
    | some p2 =>
      obtain ⟨d, env1⟩ := p2
      rw [q2] at eq
      simp only at eq
      cases q3 : ms env1 with
      | none => rw [q3] at eq; cases eq
      | some p3 =>
        obtain ⟨ds, env2⟩ := p3
        rw [q3] at eq
        cases eq
        refine ⟨z, F, env, rel, .dt d, env1, by unfold VI.frzM; rw [q]; simp only; rw [q2], fun v F1 H1 e1 R1 rp => ⟨z, F1, env1, R1, _, _, q3, fun vs F2 H2 e2 R2 ra => ?_⟩⟩
        exact k _ F2 H2 (e1.trans e2) R2 (.cons (Rp.mono e2 rp) ra)
theorem pa_nilR : PA X [] (tR X.K ct fun env => some ([], env)) := pa_nil.vimp fun σ H Q ⟨z, F, env, rel, r, env', eq, k⟩ => by cases eq; exact k _ F H (Ex.refl F) rel .nil
theorem pa_consP (h : PE X e (tV X.K ct m)) (hs : PA X es (tR X.K ct ms)) (hst : starEach (e :: es) X.env = (false, eval e X.env) :: starEach es X.env) : PA X (e :: es) (tR X.K ct (consP m ms)) := by
  refine (pa_cons h.vpz hs hst).vimp fun σ H Q w => ?_
  obtain ⟨z, F, env, rel, r, env', eq, k⟩ := w
  unfold consP at eq
  cases q : pz (m env) with
  | none => rw [q] at eq; cases eq
  | some p =>
    obtain ⟨r0, env1⟩ := p
    rw [q] at eq
    simp only at eq
    cases q3 : ms env1 with
    | none => rw [q3] at eq; cases eq
    | some p3 =>
      obtain ⟨rs, env2⟩ := p3
      rw [q3] at eq
      cases eq
      refine ⟨z, F, env, rel, r0, env1, q, fun v F1 H1 e1 R1 rp => ⟨z, F1, env1, R1, _, _, q3, fun vs F2 H2 e2 R2 ra => ?_⟩⟩
      exact k _ F2 H2 (e1.trans e2) R2 (.cons (rp.calm (pz_calm q) e2) ra)
/-! ### operators -/
theorem mapM_ops {z : Fm} {F H : Hp} {σ : St} {env : Env'} (R0 : RelB K ct z F H σ env) : ∀ {vs : List V} {rs : List R} {ds : List D}, ResA K ct z F H σ env vs rs → rs.mapM (opD env) = some ds → OpAll K ct F H vs ds
  | _, _, ds, .nil, e => by
    simp at e; subst e; exact .nil
  | _, _, ds, .cons (r := r) (rs := rs) h t, e => by
    rw [List.mapM_cons] at e
    cases q : opD env r with
    | none => rw [q] at e; cases e
    | some d =>
      cases q2 : rs.mapM (opD env) with
      | none => rw [q, q2] at e; cases e
      | some ds' =>
        rw [q, q2] at e
        cases e
        exact .cons (OpAt.of R0 h q) (mapM_ops R0 t q2)
theorem t_op2 {f : D → D → Option R} {ma mb : Env' → Option (R × Env')} {σ : St} {H : Hp} {Q : VK} (w : tV K ct (op2 f ma mb) σ H Q) : tOp (r2 K ct f) (tV K ct fun env => pz (ma env)) (tV K ct fun env => pz (mb env)) σ H Q := by
  obtain ⟨z, F, env, rel, r, env', eq, k⟩ := w
  unfold op2 at eq
  cases q : pz (ma env) with
  | none => rw [q] at eq; cases eq
  | some p =>
    obtain ⟨x, env1⟩ := p
    rw [q] at eq
    simp only at eq
    cases q2 : pz (mb env1) with
    | none => rw [q2] at eq; cases eq
    | some p2 =>
      obtain ⟨y, env2⟩ := p2
      rw [q2] at eq
      simp only at eq
      cases o1 : opD env2 x with
      | none => rw [o1] at eq; cases eq
      | some d =>
        cases o2 : opD env2 y with
        | none => rw [o1, o2] at eq; cases eq
        | some e =>
          rw [o1, o2] at eq
          simp only at eq
          cases hf : f d e with
          | none => rw [hf] at eq; cases eq
          | some r0 =>
            rw [hf] at eq
            cases eq
            refine ⟨z, F, env, rel, x, env1, q, fun v1 F1 H1 e1 R1 p1 => ⟨z, F1, env1, R1, _, _, q2, fun v2 F2 H2 e2 R2 p2 => ?_⟩⟩
            refine ⟨F2, d, e, _, R2.r.sub, OpAt.of R2 (p1.calm (pz_calm q) e2) o1, OpAt.of R2 p2 o2, hf, fun v F3 H3 o => ?_⟩
            obtain ⟨e3, R3, p3⟩ := o.rel R2
            exact k v F3 H3 ((e1.trans e2).trans e3) R3 p3
theorem pe_binV {a b : Expr} {ma mb : Env' → Option (R × Env')} {o : BO} {pos : Pos} (ha : PE X a (tV X.K ct ma)) (hb : PE X b (tV X.K ct mb)) : PE X (.BinOp a (bop o) b pos) (tV X.K ct (op2 (binD o) ma mb)) :=
  (pe_op (op_bin o) ha.vpz hb.vpz).vimp fun _ _ _ w => t_op2 w
theorem pe_cmpV {a b : Expr} {ma mb : Env' → Option (R × Env')} {o : CO} {pos : Pos} (hu : X.A.units + 65 < cLine) (ha : PE X a (tV X.K ct ma)) (hb : PE X b (tV X.K ct mb)) (hm : behindInMarks (cop o) b = false) : PE X (.Compare a [cop o] [b] pos) (tV X.K ct (op2 (cmpR o) ma mb)) :=
  (pe_cmpR (op_cmp hu o) ha.vpz hb.vpz hm).vimp fun _ _ _ w => t_op2 w
theorem pe_ixV {a b : Expr} {ma mb : Env' → Option (R × Env')} {pos : Pos} (hu : X.A.units + 1 < cLine) (ha : PE X a (tV X.K ct ma)) (hb : PE X b (tV X.K ct mb)) (hs : PlainIx b) : PE X (.Subscript a b pos) (tV X.K ct (op2 ixR ma mb)) :=
  (pe_ix (ix_ok hu) ha.vpz hb.vpz hs).vimp fun _ _ _ w => t_op2 w
end
end VI
namespace VI
open PySem L2
def isSet : Expr → Bool
  | .Set _ _ _ => true
  | _ => false
def isStar : Expr → Bool
  | .Starred _ _ => true
  | _ => false
def isSlice : Expr → Bool
  | .Slice _ _ _ _ => true
  | _ => false
def isNoArg : Expr → Bool
  | .Call (.Name x _) [] [] _ => x == ("super" : Str)
  | _ => false
def isPlainT : Expr → Bool
  | .UnaryOp .Not _ _ => false
  | .BoolOp _ _ _ => false
  | .IfExp _ _ _ _ => false
  | .Compare _ _ _ _ => false
  | _ => true
theorem star_of {e : Expr} {es : List Expr} {env : Env} (h : isStar e = false) : starEach (e :: es) env = (false, eval e env) :: starEach es env := by
  cases e <;> first | rfl | cases h
theorem marks_of {e : Expr} {o : CmpOp} (h : isSet e = false) : behindInMarks o e = false := by
  cases e <;> first | rfl | cases h
theorem plainIx_of {e : Expr} (h : isSlice e = false) : PlainIx e := fun o i => by
  cases e <;> first | rfl | cases h
theorem base_of {e : Expr} {f : Str} {env : Env} {w : Sem Value} (h : isNoArg e = false) : attributeBase e f env w = w := by
  unfold isNoArg at h
  split at h
  · exact abase_call (by rw [bne, h]; rfl)
  · rename_i hne
    unfold attributeBase
    split
    · exact (hne _ _ _ rfl).elim
    · rfl
theorem plainT_of {e : Expr} {env : Env} (h : isPlainT e = true) (whole : Sem Value) : isTrue e env whole = (do let v ← whole; standAt e.pos; holding [v] (truthy v)) := by
  cases e with
  | UnaryOp o a p => cases o <;> first | rfl | cases h
  | BoolOp => cases h
  | IfExp => cases h
  | Compare => cases h
  | _ => rfl
theorem nostar_any : ∀ {es : List Expr} {env : Env} {pos : Pos}, (es.all fun e => !isStar e) = true → (backTo pos (starEach es env)).any (·.1) = false
  | [], _, _, _ => rfl
  | e :: es, env, pos, h => by
    simp only [List.all_cons, Bool.and_eq_true, Bool.not_eq_true'] at h
    rw [star_of h.1]
    show (false || (backTo pos (starEach es env)).any (·.1)) = false
    rw [nostar_any h.2]; rfl
section
variable {X : Cx} {K : PySem.W.Frag} {ct : Nat → Addr} {e a b c : Expr} {es : List Expr} {m ma mb mc : Env' → Option (R × Env')} {ms : Env' → Option (List R × Env')} {pos : Pos}
/-! ### tests -/
theorem pt_valV (h : PE X e (tV X.K ct m)) (hp : isPlainT e = true) : PT X e (VI.tB X.K ct (boolM m)) := by
  refine (pt_val h (fun w => plainT_of hp w)).vimp fun σ H Q w => ?_
  obtain ⟨z, F, env, rel, r, env', eq, k⟩ := w
  unfold boolM at eq
  split at eq
  · rename_i b env1 q
    cases eq
    refine ⟨z, F, env, rel, _, _, q, fun v F' H' ex rl res => ?_⟩
    cases res
    exact ⟨_, rfl, k F' H' ex rl⟩
  · cases eq
theorem pt_cmpV {o : CO} (hu : X.A.units + 65 < cLine) (ha : PE X a (tV X.K ct ma)) (hb : PE X b (tV X.K ct mb)) (hm : behindInMarks (cop o) b = false) : PT X (.Compare a [cop o] [b] pos) (VI.tB X.K ct (boolM (op2 (cmpR o) ma mb))) := by
  refine (pt_cmpR (op_cmp (ct := ct) hu o) ha.vpz hb.vpz hm).vimp fun σ H Q w => ?_
  obtain ⟨z, F, env, rel, r, env', eq, k⟩ := w
  unfold boolM at eq
  split at eq
  · rename_i b env1 q
    cases eq
    refine t_op2 ⟨z, F, env, rel, _, _, q, fun v F' H' ex rl res => ?_⟩
    cases res
    exact ⟨_, rfl, k F' H' ex rl⟩
  · cases eq
theorem pe_andV {rest : List Expr} (ha : PE X a (tV X.K ct ma)) (hb : PE X (.BoolOp .And (b :: rest) pos) (tV X.K ct mb)) : PE X (.BoolOp .And (a :: b :: rest) pos) (tV X.K ct (andM ma mb)) := by
  refine (pe_and ha hb).vimp fun σ H Q w => ?_
  obtain ⟨z, F, env, rel, r, env', eq, k⟩ := w
  unfold andM at eq
  split at eq
  · rename_i env1 q
    refine ⟨z, F, env, rel, _, _, q, fun v F1 H1 e1 R1 res => ?_⟩
    cases res
    exact ⟨true, rfl, ⟨z, F1, env1, R1, r, env', eq, fun v F2 H2 e2 R2 p2 => k v F2 H2 (e1.trans e2) R2 p2⟩⟩
  · rename_i env1 q
    cases eq
    refine ⟨z, F, env, rel, _, _, q, fun v F1 H1 e1 R1 res => ?_⟩
    cases res
    exact ⟨false, rfl, k _ F1 H1 e1 R1 (.bl false)⟩
  · cases eq
theorem pe_orV {rest : List Expr} (ha : PE X a (tV X.K ct ma)) (hb : PE X (.BoolOp .Or (b :: rest) pos) (tV X.K ct mb)) : PE X (.BoolOp .Or (a :: b :: rest) pos) (tV X.K ct (orM ma mb)) := by
  refine (pe_or ha hb).vimp fun σ H Q w => ?_
  obtain ⟨z, F, env, rel, r, env', eq, k⟩ := w
  unfold orM at eq
  split at eq
  · rename_i env1 q
    cases eq
    refine ⟨z, F, env, rel, _, _, q, fun v F1 H1 e1 R1 res => ?_⟩
    cases res
    exact ⟨true, rfl, k _ F1 H1 e1 R1 (.bl true)⟩
  · rename_i env1 q
    refine ⟨z, F, env, rel, _, _, q, fun v F1 H1 e1 R1 res => ?_⟩
    cases res
    exact ⟨false, rfl, ⟨z, F1, env1, R1, r, env', eq, fun v F2 H2 e2 R2 p2 => k v F2 H2 (e1.trans e2) R2 p2⟩⟩
  · cases eq
theorem pe_notV (ha : PE X a (tV X.K ct ma)) : PE X (.UnaryOp .Not a pos) (tV X.K ct (notM ma)) := by
  refine (pe_not ha).vimp fun σ H Q w => ?_
  obtain ⟨z, F, env, rel, r, env', eq, k⟩ := w
  unfold notM at eq
  split at eq
  · rename_i b env1 q
    cases eq
    refine ⟨z, F, env, rel, _, _, q, fun v F1 H1 e1 R1 res => ?_⟩
    cases res
    exact ⟨_, rfl, k _ F1 H1 e1 R1 (.bl _)⟩
  · cases eq
theorem pw_andV {rest : List Expr} (ha : PT X a (VI.tB X.K ct (boolM ma))) (hb : PW X (.BoolOp .And (b :: rest) pos) (VI.tB X.K ct (boolM mb))) : PW X (.BoolOp .And (a :: b :: rest) pos) (VI.tB X.K ct (boolM (andM ma mb))) := by
  refine (pw_and ha hb).vimp fun σ H Q w => ?_
  obtain ⟨z, F, env, rel, r, env', eq, k⟩ := w
  unfold boolM at eq
  split at eq
  · rename_i b env1 q
    cases eq
    unfold andM at q
    split at q
    · rename_i env2 q2
      refine ⟨z, F, env, rel, true, _, by unfold boolM; rw [q2], fun F1 H1 e1 R1 => ?_⟩
      refine iteT ?_
      exact ⟨z, F1, env2, R1, _, _, by unfold boolM; rw [q], fun F2 H2 e2 R2 => k F2 H2 (e1.trans e2) R2⟩
    · rename_i env2 q2
      cases q
      refine ⟨z, F, env, rel, false, _, by unfold boolM; rw [q2], fun F1 H1 e1 R1 => ?_⟩
      refine iteF ?_
      exact k F1 H1 e1 R1
    · cases q
  · cases eq
theorem pw_orV {rest : List Expr} (ha : PT X a (VI.tB X.K ct (boolM ma))) (hb : PW X (.BoolOp .Or (b :: rest) pos) (VI.tB X.K ct (boolM mb))) : PW X (.BoolOp .Or (a :: b :: rest) pos) (VI.tB X.K ct (boolM (orM ma mb))) := by
  refine (pw_or ha hb).vimp fun σ H Q w => ?_
  obtain ⟨z, F, env, rel, r, env', eq, k⟩ := w
  unfold boolM at eq
  split at eq
  · rename_i b env1 q
    cases eq
    unfold orM at q
    split at q
    · rename_i env2 q2
      cases q
      refine ⟨z, F, env, rel, true, _, by unfold boolM; rw [q2], fun F1 H1 e1 R1 => ?_⟩
      refine iteT ?_
      exact k F1 H1 e1 R1
    · rename_i env2 q2
      refine ⟨z, F, env, rel, false, _, by unfold boolM; rw [q2], fun F1 H1 e1 R1 => ?_⟩
      refine iteF ?_
      exact ⟨z, F1, env2, R1, _, _, by unfold boolM; rw [q], fun F2 H2 e2 R2 => k F2 H2 (e1.trans e2) R2⟩
    · cases q
  · cases eq
theorem pt_notV (ha : PT X a (VI.tB X.K ct (boolM ma))) : PT X (.UnaryOp .Not a pos) (VI.tB X.K ct (boolM (notM ma))) := by
  refine (pt_not ha).vimp fun σ H Q w => ?_
  obtain ⟨z, F, env, rel, r, env', eq, k⟩ := w
  unfold boolM at eq
  split at eq
  · rename_i b env1 q
    cases eq
    unfold notM at q
    split at q
    · rename_i b2 env2 q2
      cases q
      exact ⟨z, F, env, rel, _, _, by unfold boolM; rw [q2], fun F1 H1 e1 R1 => k F1 H1 e1 R1⟩
    · cases q
  · cases eq
theorem pe_ifeV (hc : PT X c (VI.tB X.K ct (boolM mc))) (ha : PE X a (tV X.K ct ma)) (hb : PE X b (tV X.K ct mb)) : PE X (.IfExp c a b pos) (tV X.K ct (ifeM mc ma mb)) := by
  refine (pe_ifExp hc ha hb).vimp fun σ H Q w => ?_
  obtain ⟨z, F, env, rel, r, env', eq, k⟩ := w
  unfold ifeM at eq
  split at eq
  · rename_i env1 q
    refine ⟨z, F, env, rel, true, _, by unfold boolM; rw [q], fun F1 H1 e1 R1 => ?_⟩
    refine iteT ?_
    exact ⟨z, F1, env1, R1, r, env', eq, fun v F2 H2 e2 R2 p2 => k v F2 H2 (e1.trans e2) R2 p2⟩
  · rename_i env1 q
    refine ⟨z, F, env, rel, false, _, by unfold boolM; rw [q], fun F1 H1 e1 R1 => ?_⟩
    refine iteF ?_
    exact ⟨z, F1, env1, R1, r, env', eq, fun v F2 H2 e2 R2 p2 => k v F2 H2 (e1.trans e2) R2 p2⟩
  · cases eq
/-! ### is None -/
theorem Rp.nonIff {F : Hp} {v : V} {d : D} (h : Rp K ct F v d) (hd : d = .non → False) : v ≠ .non := by
  cases h <;> first | exact (hd rfl).elim | (intro q; cases q)
theorem t_isN {σ : St} {H : Hp} {Q : VK} (w : tV K ct (isNM ma) σ H Q) : tIsN (tV K ct fun env => pz (ma env)) σ H Q := by
  obtain ⟨z, F, env, rel, r, env', eq, k⟩ := w
  unfold isNM at eq
  split at eq
  · rename_i env1 q
    cases eq
    refine ⟨z, F, env, rel, _, _, q, fun v F1 H1 e1 R1 res => ?_⟩
    cases res
    exact k _ F1 H1 e1 R1 (.bl true)
  · rename_i d env1 hd q
    cases eq
    refine ⟨z, F, env, rel, _, _, q, fun v F1 H1 e1 R1 res => ?_⟩
    have hne := Rp.nonIff res hd
    show Q (.bl (decide (v = V.non))) H1
    rw [decide_eq_false hne]
    exact k _ F1 H1 e1 R1 (.bl false)
  · cases eq
theorem t_notN {σ : St} {H : Hp} {Q : VK} (w : tV K ct (notNM ma) σ H Q) : tNotN (tV K ct fun env => pz (ma env)) σ H Q := by
  obtain ⟨z, F, env, rel, r, env', eq, k⟩ := w
  unfold notNM at eq
  split at eq
  · rename_i env1 q
    cases eq
    refine ⟨z, F, env, rel, _, _, q, fun v F1 H1 e1 R1 res => ?_⟩
    cases res
    exact k _ F1 H1 e1 R1 (.bl false)
  · rename_i d env1 hd q
    cases eq
    refine ⟨z, F, env, rel, _, _, q, fun v F1 H1 e1 R1 res => ?_⟩
    have hne := Rp.nonIff res hd
    show Q (.bl (!decide (v = V.non))) H1
    rw [decide_eq_false hne]
    exact k _ F1 H1 e1 R1 (.bl true)
  · cases eq
theorem pe_isNV {j : Nat} {pos' : Pos} (ha : PE X a (tV X.K ct ma)) : PE X (.Compare a [.Is] [.Constant .none j pos'] pos) (tV X.K ct (isNM ma)) := (pe_cmp (pc_isN ha.vpz) rfl).vimp fun _ _ _ w => t_isN w
theorem pe_notNV {j : Nat} {pos' : Pos} (ha : PE X a (tV X.K ct ma)) : PE X (.Compare a [.IsNot] [.Constant .none j pos'] pos) (tV X.K ct (notNM ma)) := (pe_cmp (pc_notN ha.vpz) rfl).vimp fun _ _ _ w => t_notN w
theorem t_boolM {σ : St} {H : Hp} {Q : Bool → Hp → Prop} (w : VI.tB K ct (boolM m) σ H Q) : tV K ct m σ H fun x H' => ∃ c, x = .bl c ∧ Q c H' := by
  obtain ⟨z, F, env, rel, r, env', eq, k⟩ := w
  unfold boolM at eq
  split at eq
  · rename_i b env1 q
    cases eq
    refine ⟨z, F, env, rel, _, _, q, fun v F' H' ex rl res => ?_⟩
    cases res
    exact ⟨_, rfl, k F' H' ex rl⟩
  · cases eq
theorem pt_isNV {j : Nat} {pos' : Pos} (ha : PE X a (tV X.K ct ma)) : PT X (.Compare a [.Is] [.Constant .none j pos'] pos) (VI.tB X.K ct (boolM (isNM ma))) := (pt_cmp (pc_isN ha.vpz) rfl).vimp fun _ _ _ w => t_isN (t_boolM w)
theorem pt_notNV {j : Nat} {pos' : Pos} (ha : PE X a (tV X.K ct ma)) : PT X (.Compare a [.IsNot] [.Constant .none j pos'] pos) (VI.tB X.K ct (boolM (notNM ma))) := (pt_cmp (pc_notN ha.vpz) rfl).vimp fun _ _ _ w => t_notN (t_boolM w)
/-! ### chains -/
theorem t_chain {o o' : CO} {σ : St} {H : Hp} {Q : VK} (w : tV K ct (chainM o o' ma mb mc) σ H Q) :
    tChain (r2 K ct (cmpR o)) (r2 K ct (cmpR o')) (tV K ct fun env => pz (ma env)) (tV K ct fun env => pz (mb env)) (tV K ct fun env => pz (mc env)) σ H Q := by
  obtain ⟨z, F, env, rel, r, env', eq, k⟩ := w
  unfold chainM at eq
  cases q : pz (ma env) with
  | none => rw [q] at eq; cases eq
  | some p =>
    obtain ⟨x, env1⟩ := p
    rw [q] at eq
    simp only at eq
    cases q2 : pz (mb env1) with
    | none => rw [q2] at eq; cases eq
    | some p2 =>
      obtain ⟨y, env2⟩ := p2
      rw [q2] at eq
      simp only at eq
      cases o1 : opD env2 x with
      | none => rw [o1] at eq; cases eq
      | some d =>
        cases o2 : opD env2 y with
        | none => rw [o1, o2] at eq; cases eq
        | some e =>
          rw [o1, o2] at eq
          simp only at eq
          refine ⟨z, F, env, rel, x, env1, q, fun v1 F1 H1 e1 R1 p1 => ⟨z, F1, env1, R1, y, env2, q2, fun v2 F2 H2 e2 R2 p2 => ?_⟩⟩
          cases hf : cmpD o d e with
          | none => rw [hf] at eq; cases eq
          | some b =>
            rw [hf] at eq
            refine ⟨F2, d, e, .dt (.bl b), R2.r.sub, OpAt.of R2 (p1.calm (pz_calm q) e2) o1, OpAt.of R2 p2 o2, by unfold cmpR; rw [hf]; rfl, fun v F3 H3 o => ?_⟩
            obtain ⟨e3, R3, p3⟩ := o.rel R2
            have p3' : Rp K ct F3 v (.bl b) := p3
            cases p3'
            cases b with
            | false =>
              simp only at eq
              cases eq
              exact ⟨false, rfl, iteF (k _ F3 H3 ((e1.trans e2).trans e3) R3 (.bl false))⟩
            | true =>
              simp only at eq
              refine ⟨true, rfl, iteT ?_⟩
              cases q3 : pz (mc env2) with
              | none => rw [q3] at eq; cases eq
              | some p4 =>
                obtain ⟨w, env3⟩ := p4
                rw [q3] at eq
                simp only at eq
                cases o3 : opD env3 y with
                | none => rw [o3] at eq; cases eq
                | some e' =>
                  cases o4 : opD env3 w with
                  | none => rw [o3, o4] at eq; cases eq
                  | some g =>
                    rw [o3, o4] at eq
                    simp only at eq
                    cases hf2 : cmpD o' e' g with
                    | none => rw [hf2] at eq; cases eq
                    | some b2 =>
                      rw [hf2] at eq
                      cases eq
                      refine ⟨z, F3, env2, R3, w, _, q3, fun v4 F4 H4 e4 R4 p4 => ?_⟩
                      refine ⟨F4, e', g, .dt (.bl b2), R4.r.sub, OpAt.of R4 (p2.calm (pz_calm q2) (e3.trans e4)) o3, OpAt.of R4 p4 o4, by unfold cmpR; rw [hf2]; rfl, fun v5 F5 H5 o5 => ?_⟩
                      obtain ⟨e5, R5, p5⟩ := o5.rel R4
                      exact k v5 F5 H5 ((((e1.trans e2).trans e3).trans e4).trans e5) R5 p5
theorem pe_chainV {o o' : CO} (hu : X.A.units + 65 < cLine) (ha : PE X a (tV X.K ct ma)) (hb : PE X b (tV X.K ct mb)) (hc : PE X c (tV X.K ct mc)) (hm : isSet c = false) : PE X (.Compare a [cop o, cop o'] [b, c] pos) (tV X.K ct (chainM o o' ma mb mc)) :=
  (pe_chain (op_cmp (ct := ct) hu o) (op_cmp (ct := ct) hu o') ha.vpz hb.vpz hc.vpz (show behindInMarks (cop o') c = false from marks_of hm)).vimp fun _ _ _ w => t_chain w
theorem pt_chainV {o o' : CO} (hu : X.A.units + 65 < cLine) (ha : PE X a (tV X.K ct ma)) (hb : PE X b (tV X.K ct mb)) (hc : PE X c (tV X.K ct mc)) (hm : isSet c = false) : PT X (.Compare a [cop o, cop o'] [b, c] pos) (VI.tB X.K ct (boolM (chainM o o' ma mb mc))) :=
  (pt_chain (op_cmp (ct := ct) hu o) (op_cmp (ct := ct) hu o') ha.vpz hb.vpz hc.vpz (show behindInMarks (cop o') c = false from marks_of hm)).vimp fun _ _ _ w => t_chain (t_boolM w)
end
end VI
namespace VI
open PySem L2
section
variable {X : Cx} {K : PySem.W.Frag} {ct : Nat → Addr} {e a b c : Expr} {es : List Expr} {m ma mb mc : Env' → Option (R × Env')} {ms : Env' → Option (List R × Env')} {pos : Pos}
/-! ### slices -/
def tOi (K : PySem.W.Frag) (ct : Nat → Addr) (mo : Env' → Option (Option Int × Env')) : TO := fun σ H Q => ∃ z F env, RelB K ct z F H σ env ∧ ∃ o env', mo env = some (o, env') ∧ ∀ F' H', Ex F F' → RelB K ct z F' H' σ env' → Q o H'
theorem _root_.L2.PO.vimp {X : Cx} {e : Option Expr} {t t' : TO} (h : PO X e t) (q : ∀ σ H Q, t' σ H Q → t σ H Q) : PO X e t' := ⟨fun pins s σ H Q I w => h.run pins s σ H Q I (q σ H Q w)⟩
theorem po_noneV : PO X none (tOi X.K ct fun env => some (none, env)) := po_none.vimp fun σ H Q ⟨z, F, env, rel, r, env', eq, k⟩ => by cases eq; exact k F H (Ex.refl F) rel
theorem po_someV (h : PE X e (tV X.K ct m)) : PO X (some e) (tOi X.K ct (soM m)) := by
  refine (po_some h).vimp fun σ H Q w => ?_
  obtain ⟨z, F, env, rel, r, env', eq, k⟩ := w
  unfold soM at eq
  split at eq
  · rename_i i env1 q
    cases eq
    refine ⟨z, F, env, rel, _, _, q, fun v F' H' ex rl res => ?_⟩
    cases res
    exact ⟨_, rfl, k F' H' ex rl⟩
  · cases eq
theorem pe_sliV {lo hi : Option Expr} {ml mh : Env' → Option (Option Int × Env')} {p2 : Pos} (h : PE X e (tV X.K ct m)) (hl : PO X lo (tOi X.K ct ml)) (hh : PO X hi (tOi X.K ct mh)) : PE X (.Subscript e (.Slice lo hi none p2) pos) (tV X.K ct (sliM m ml mh)) := by
  refine (pe_slice (sl_ok (ct := ct)) h.vpz hl hh).vimp fun σ H Q w => ?_
  obtain ⟨z, F, env, rel, r, env', eq, k⟩ := w
  unfold sliM at eq
  cases q : pz (m env) with
  | none => rw [q] at eq; cases eq
  | some p =>
    obtain ⟨x, env1⟩ := p
    rw [q] at eq
    simp only at eq
    cases q2 : ml env1 with
    | none => rw [q2] at eq; cases eq
    | some p2 =>
      obtain ⟨l, env2⟩ := p2
      rw [q2] at eq
      simp only at eq
      cases q3 : mh env2 with
      | none => rw [q3] at eq; cases eq
      | some p3 =>
        obtain ⟨hh, env3⟩ := p3
        rw [q3] at eq
        simp only at eq
        cases o1 : opD env3 x with
        | none => rw [o1] at eq; cases eq
        | some d =>
          rw [o1] at eq
          simp only at eq
          cases hf : sliD d l hh with
          | none => rw [hf] at eq; cases eq
          | some r0 =>
            rw [hf] at eq
            cases eq
            refine ⟨z, F, env, rel, x, env1, q, fun v1 F1 H1 e1 R1 p1 => ⟨z, F1, env1, R1, l, env2, q2, fun F2 H2 e2 R2 => ⟨z, F2, env2, R2, hh, _, q3, fun F3 H3 e3 R3 => ?_⟩⟩⟩
            refine ⟨F3, d, _, R3.r.sub, OpAt.of R3 (p1.calm (pz_calm q) (e2.trans e3)) o1, hf, fun v F4 H4 o => ?_⟩
            obtain ⟨e4, R4, p4⟩ := o.rel R3
            exact k v F4 H4 (((e1.trans e2).trans e3).trans e4) R4 p4
/-! ### built-in functions -/
theorem t_bi {f : List D → Option R} {σ : St} {H : Hp} {Q : VK} (w : tV K ct (biM f ms) σ H Q) : tCB (rN K ct f) (tR K ct ms) σ H Q := by
  obtain ⟨z, F, env, rel, r, env', eq, k⟩ := w
  unfold biM at eq
  cases q : ms env with
  | none => rw [q] at eq; cases eq
  | some p =>
    obtain ⟨rs, env1⟩ := p
    rw [q] at eq
    simp only at eq
    cases q2 : rs.mapM (opD env1) with
    | none => rw [q2] at eq; cases eq
    | some ds =>
      rw [q2] at eq
      simp only at eq
      cases hf : f ds with
      | none => rw [hf] at eq; cases eq
      | some r0 =>
        rw [hf] at eq
        cases eq
        refine ⟨z, F, env, rel, rs, _, q, fun vs F1 H1 e1 R1 ra => ⟨F1, ds, _, R1.r.sub, mapM_ops R1 ra q2, hf, fun v F2 H2 o => ?_⟩⟩
        obtain ⟨e2, R2, p2⟩ := o.rel R1
        exact k v F2 H2 (e1.trans e2) R2 p2
theorem pe_biB {f : List D → Option R} {x : Str} {id : String} {p : Pos} (hc : CallR X (.builtin id) (rN X.K ct f)) (hg : Gl X x) (hm : X.mg x = none) (hv : bootBuiltins x = some (.builtin id)) (ha : PA X (e :: es) (tR X.K ct ms)) (hn : x ≠ "__name__") (hd : (x == ("__debug__" : Str)) = false)
    (hs : isStar e = false) (hss : (es.all fun e => !isStar e) = true) : PE X (.Call (.Name x p) (e :: es) [] pos) (tV X.K ct (biM f ms)) :=
  (pe_callB hc hg hm hv ha hn hd (star_of hs) (nostar_any hss)).vimp fun _ _ _ w => t_bi w
theorem pe_biT {f : List D → Option R} {x : Str} {id : String} {p : Pos} (hc : CallR X (.type id) (rN X.K ct f)) (hg : Gl X x) (hm : X.mg x = none) (hv : bootBuiltins x = some (.type id)) (ha : PA X (e :: es) (tR X.K ct ms)) (hn : x ≠ "__name__") (hd : (x == ("__debug__" : Str)) = false)
    (hs : isStar e = false) (hss : (es.all fun e => !isStar e) = true) : PE X (.Call (.Name x p) (e :: es) [] pos) (tV X.K ct (biM f ms)) :=
  (pe_callTy hc hg hm hv ha hn hd (star_of hs) (nostar_any hss)).vimp fun _ _ _ w => t_bi w
/-! ### methods of built-in types -/
theorem t_bm {T : String} {f : D → List D → Option R} {σ : St} {H : Hp} {Q : VK} (ht : ∀ F H v d ds r, Ex F H → OpAt K ct F H v d → f d ds = some r → tyV K T v H) (hk : ∀ env env1 r, pz (m env) = some (r, env1) → ∃ d, r = .dt d)
    (w : tV K ct (bmM f m ms) σ H Q) : tBM K T (rM K ct f) (tV K ct fun env => pz (m env)) (tR K ct ms) σ H Q := by
  obtain ⟨z, F, env, rel, r, env', eq, k⟩ := w
  unfold bmM at eq
  cases q : pz (m env) with
  | none => rw [q] at eq; cases eq
  | some p =>
    obtain ⟨x, env1⟩ := p
    rw [q] at eq
    simp only at eq
    cases q2 : ms env1 with
    | none => rw [q2] at eq; cases eq
    | some p2 =>
      obtain ⟨rs, env2⟩ := p2
      rw [q2] at eq
      simp only at eq
      cases o1 : opD env2 x with
      | none => rw [o1] at eq; cases eq
      | some d =>
        cases q3 : rs.mapM (opD env2) with
        | none => rw [o1, q3] at eq; cases eq
        | some ds =>
          rw [o1, q3] at eq
          simp only at eq
          cases hf : f d ds with
          | none => rw [hf] at eq; cases eq
          | some r0 =>
            rw [hf] at eq
            cases eq
            obtain ⟨d0, rfl⟩ := hk env env1 x q
            cases o1
            refine ⟨z, F, env, rel, _, env1, q, fun v1 F1 H1 e1 R1 p1 => ⟨ht F1 H1 v1 d ds _ R1.r.sub (.inl p1) hf, z, F1, env1, R1, rs, _, q2, fun vs F2 H2 e2 R2 ra => ?_⟩⟩
            refine ⟨F2, d, ds, _, R2.r.sub, .inl (Rp.mono e2 p1), mapM_ops R2 ra q3, hf, fun v F3 H3 o => ?_⟩
            obtain ⟨e3, R3, p3⟩ := o.rel R2
            exact k v F3 H3 ((e1.trans e2).trans e3) R3 p3
theorem dataM_k {env env1 : Env'} {r : R} (h : pz (dataM m env) = some (r, env1)) : ∃ d, r = .dt d := by
  unfold dataM at h
  split at h
  · cases h; exact ⟨_, rfl⟩
  · cases h
theorem _root_.L2.PE.vdata (h : PE X e (tV X.K ct m)) : PE X e (tV X.K ct (dataM m)) := by
  refine h.vpz.vimp fun σ H Q w => ?_
  obtain ⟨z, F, env, rel, r, env', eq, k⟩ := w
  unfold dataM at eq
  split at eq
  · rename_i d env1 q
    cases eq
    exact ⟨z, F, env, rel, _, _, q, k⟩
  · cases eq
theorem str_tyV {F H : Hp} {v : V} {z : Str} (h : OpAt K ct F H v (.str z)) : tyV K "str" v H := by
  rw [h.str]; rfl
/-! ### displays -/
theorem pe_tupV {k : Nat} {ms : Env' → Option (List D × Env')} (h : PA X es (tA X.K ct ms)) : PE X (.Tuple es k pos) (tV X.K ct (tupM ms)) := by
  refine (pe_tupF h).vimp fun σ H Q w => ?_
  obtain ⟨z, F, env, rel, r, env', eq, k⟩ := w
  unfold tupM at eq
  cases q : ms env with
  | none => rw [q] at eq; cases eq
  | some p =>
    obtain ⟨ds, env1⟩ := p
    rw [q] at eq
    simp only at eq
    split at eq
    · rename_i hz
      cases eq
      refine ⟨z, F, env, rel, _, _, q, fun vs F1 H1 e1 R1 ra => ⟨by rw [ra.length]; exact hz, fun p o np ho => ?_⟩⟩
      obtain ⟨e2, R2, p2⟩ := (outTup R1.r.sub np ho ra).rel R1
      exact k _ _ _ (e1.trans e2) R2 p2
    · cases eq
theorem pe_lstV {ms : Env' → Option (List D × Env')} (h : PA X es (tA X.K ct ms)) : PE X (.List es pos) (tV X.K ct (lstM ms)) := by
  refine (pe_lst h).vimp fun σ H Q w => ?_
  obtain ⟨z, F, env, rel, r, env', eq, k⟩ := w
  unfold lstM at eq
  cases q : ms env with
  | none => rw [q] at eq; cases eq
  | some p =>
    obtain ⟨ds, env1⟩ := p
    rw [q] at eq
    simp only at eq
    split at eq
    · rename_i hz
      cases eq
      refine ⟨z, F, env, rel, _, _, q, fun vs F1 H1 e1 R1 ra => ⟨by rw [ra.length]; exact hz, fun p np => ?_⟩⟩
      obtain ⟨e2, R2, p2⟩ := (outLst np ra).rel R1
      exact k _ _ _ (e1.trans e2) R2 p2
    · cases eq
/-! ### attributes -/
theorem pe_fldV {f : Str} (hcl : ∀ c, Cls X.K (ct c)) (hn : ∀ c, NoAttr X.K (ct c) f) (h : PE X e (tV X.K ct m)) (hb : isNoArg e = false) : PE X (.Attribute e f pos) (tV X.K ct (fldM f m)) := by
  refine (pe_fld h.vpz (base_of hb)).vimp fun σ H Q w => ?_
  obtain ⟨z, F, env, rel, r, env', eq, k⟩ := w
  unfold fldM at eq
  cases q : pz (m env) with
  | none => rw [q] at eq; cases eq
  | some p =>
    obtain ⟨x, env1⟩ := p
    rw [q] at eq
    simp only at eq
    split at eq
    · rename_i c fs o1
      split at eq
      · rename_i d hl
        cases eq
        refine ⟨z, F, env, rel, _, _, q, fun v1 F1 H1 e1 R1 p1 => ?_⟩
        obtain ⟨a, dx, vs, rfl, h1, rf⟩ := (OpAt.of R1 p1 o1).ins R1.r.sub
        obtain ⟨v, h2, h3⟩ := rf.look hl
        exact ⟨a, ct c, dx, vs, v, rfl, h1, hcl c, hn c, h2, k v F1 H1 e1 R1 h3⟩
      · cases eq
    · cases eq
/-! ### methods that change a list -/
theorem slot_lst {z : Fm} {F H : Hp} {σ : St} {env : Env'} {i : Nat} {b : Bool} {l : List D} (R0 : RelB K ct z F H σ env) (q : env[i]? = some (.ow b (.lst l))) : ∃ a xs, σ[i]? = some (some (.ref a)) ∧ F a = none ∧ H a = some (.lst xs) ∧ RpA K ct F xs l := by
  obtain ⟨a, h1, h2, xs, h3, h4⟩ := R0.r.ow i b _ q
  exact ⟨a, xs, h1, h2, h3, h4⟩
theorem tyV_lst {H : Hp} {a : Addr} {xs : List V} (h : H a = some (.lst xs)) : tyV K "list" (.ref a) H := .inl ⟨rfl, _, SqL.of h⟩
end
end VI
namespace VI
open PySem L2
section
variable {X : Cx} {K : PySem.W.Frag} {ct : Nat → Addr} {e a b c : Expr} {es : List Expr} {m ma mb mc : Env' → Option (R × Env')} {ms : Env' → Option (List R × Env')} {pos : Pos}
theorem few_one {e : Expr} {cpos : Pos} (hs : isStar e = false) : ((backTo cpos (starEach [e] X.env)).all (fun x => !x.1) && (backToKw cpos (keywordEach [] X.env)).all (fun x => x.1.isSome)
      && decide (([e] : List Expr).length + ([] : List Keyword).length + (if ([] : List Keyword).isEmpty then 0 else 1) < 30)) = true := by
  rw [star_of hs]; rfl
theorem isOw_at {env : Env'} {i : Nat} (h : isOw env i = true) : ∃ b l, env[i]? = some (.ow b (.lst l)) := by
  unfold isOw at h
  split at h
  · rename_i b l q; exact ⟨b, l, q⟩
  · cases h
theorem var_own {z : Fm} {F H : Hp} {σ : St} {env : Env'} {i : Nat} {b : Bool} {l : List D} (q : env[i]? = some (.ow b (.lst l))) : varM i env = some (.sl i, env) := by
  unfold varM; rw [q]
theorem pe_appendV {x : Str} {i : Nat} {p apos : Pos} (hv : PE X (.Name x p) (tV X.K ct (varM i))) (h : PE X e (tV X.K ct m)) (hs : isStar e = false) (hl : (apos.endLine == pos.line) = true) : PE X (.Call (.Attribute (.Name x p) "append" apos) [e] [] pos) (tV X.K ct (appendM i m)) := by
  refine (pe_bm PySem.F.plainAttrs_list PySem.F.slot_list_append PySem.F.type_list_append mt_append hv (pa_cons h.vfrz pa_nil (star_of hs)) (base_of rfl) (few_one hs) hl (star_of hs) rfl).vimp fun σ H Q w => ?_
  obtain ⟨z, F, env, rel, r, env', eq, k⟩ := w
  unfold appendM at eq
  split at eq
  · rename_i ho
    obtain ⟨b0, l0, q0⟩ := isOw_at ho
    split at eq
    · rename_i d env1 q1
      split at eq
      · rename_i b l q2
        split at eq
        · rename_i hz
          cases eq
          refine ⟨z, F, env, rel, _, _, var_own (z := z) (F := F) (H := H) (σ := σ) q0, fun v1 F1 H1 e1 R1 p1 => ?_⟩
          obtain ⟨a, xs, h1, h2, h3, h4⟩ := slot_lst R1 q0
          have p1' : σ[i]? = some (some v1) := p1
          rw [h1] at p1'; cases p1'
          refine ⟨tyV_lst h3, z, F1, env, R1, _, _, q1, fun v2 F2 H2 e2 R2 p2 => ?_⟩
          obtain ⟨a2, ys, g1, g2, g3, g4⟩ := slot_lst R2 q2
          rw [h1] at g1; cases g1
          refine ⟨a, ys, v2, rfl, rfl, g3, by rw [g4.length]; exact hz, ?_⟩
          refine k .non F2 _ (e1.trans e2) (R2.write (H' := upd H2 a (.lst (ys ++ [v2]))) q2 h1 (fun c hc => upd_ne hc) ⟨ys ++ [v2], upd_same, g4.append (.cons p2 .nil)⟩) .non
        · cases eq
      · cases eq
    · cases eq
  · cases eq
theorem pe_popV {x : Str} {i : Nat} {p apos : Pos} (hv : PE X (.Name x p) (tV X.K ct (varM i))) (h : PE X e (tV X.K ct m)) (hs : isStar e = false) (hl : (apos.endLine == pos.line) = true) : PE X (.Call (.Attribute (.Name x p) "pop" apos) [e] [] pos) (tV X.K ct (popM i m)) := by
  refine (pe_bm PySem.F.plainAttrs_list PySem.F.slot_list_pop PySem.F.type_list_pop mt_popAt hv (pa_cons h.vpz pa_nil (star_of hs)) (base_of rfl) (few_one hs) hl (star_of hs) rfl).vimp fun σ H Q w => ?_
  obtain ⟨z, F, env, rel, r, env', eq, k⟩ := w
  unfold popM at eq
  split at eq
  · rename_i ho
    obtain ⟨b0, l0, q0⟩ := isOw_at ho
    split at eq
    · rename_i kk env1 q1
      split at eq
      · rename_i b l q2
        split at eq
        · rename_i hz
          split at eq
          · rename_i j hj
            split at eq
            · rename_i y hy
              cases eq
              refine ⟨z, F, env, rel, _, _, var_own (z := z) (F := F) (H := H) (σ := σ) q0, fun v1 F1 H1 e1 R1 p1 => ?_⟩
              obtain ⟨a, xs, h1, h2, h3, h4⟩ := slot_lst R1 q0
              have p1' : σ[i]? = some (some v1) := p1
              rw [h1] at p1'; cases p1'
              refine ⟨tyV_lst h3, z, F1, env, R1, _, _, q1, fun v2 F2 H2 e2 R2 p2 => ?_⟩
              obtain ⟨a2, ys, g1, g2, g3, g4⟩ := slot_lst R2 q2
              rw [h1] at g1; cases g1
              cases p2
              obtain ⟨w, hw, rw'⟩ := g4.get hy
              refine ⟨a, ys, kk, j, w, rfl, rfl, g3, hz.1, hz.2, by rw [g4.length]; exact hj, hw, ?_⟩
              exact k w F2 _ (e1.trans e2) (R2.write (H' := upd H2 a (.lst (ys.eraseIdx j))) q2 h1 (fun c hc => upd_ne hc) ⟨_, upd_same, g4.eraseIdx j⟩) rw'
            · cases eq
          · cases eq
        · cases eq
      · cases eq
    · cases eq
  · cases eq
theorem pe_extendV {x : Str} {i : Nat} {p apos : Pos} (hv : PE X (.Name x p) (tV X.K ct (varM i))) (h : PE X e (tV X.K ct m)) (hs : isStar e = false) (hl : (apos.endLine == pos.line) = true) : PE X (.Call (.Attribute (.Name x p) "extend" apos) [e] [] pos) (tV X.K ct (extendM i m)) := by
  refine (pe_bm PySem.F.plainAttrs_list PySem.F.slot_list_extend PySem.F.type_list_extend mt_extend hv (pa_cons h.vpz pa_nil (star_of hs)) (base_of rfl) (few_one hs) hl (star_of hs) rfl).vimp fun σ H Q w => ?_
  obtain ⟨z, F, env, rel, r, env', eq, k⟩ := w
  unfold extendM at eq
  split at eq
  · rename_i ho
    obtain ⟨b0, l0, q0⟩ := isOw_at ho
    split at eq
    · rename_i l2 env1 q1
      split at eq
      · rename_i b l q2
        split at eq
        · rename_i hz
          cases eq
          refine ⟨z, F, env, rel, _, _, var_own (z := z) (F := F) (H := H) (σ := σ) q0, fun v1 F1 H1 e1 R1 p1 => ?_⟩
          obtain ⟨a, xs, h1, h2, h3, h4⟩ := slot_lst R1 q0
          have p1' : σ[i]? = some (some v1) := p1
          rw [h1] at p1'; cases p1'
          refine ⟨tyV_lst h3, z, F1, env, R1, _, _, q1, fun v2 F2 H2 e2 R2 p2 => ?_⟩
          obtain ⟨a2, ys, g1, g2, g3, g4⟩ := slot_lst R2 q2
          rw [h1] at g1; cases g1
          cases p2 with
          | lst f1 f2 =>
            rename_i b3 zs
            refine ⟨a, b3, ys, zs, rfl, rfl, g3, R2.r.sub _ _ f1, by rw [g4.length, f2.length]; exact hz, ?_⟩
            exact k .non F2 _ (e1.trans e2) (R2.write (H' := upd H2 a (.lst (ys ++ zs))) q2 h1 (fun c hc => upd_ne hc) ⟨_, upd_same, g4.append f2⟩) .non
        · cases eq
      · cases eq
    · cases eq
  · cases eq
/-! ### results that are kept -/
theorem keep_res {z : Fm} {F H : Hp} {σ : St} {env env1 : Env'} {v : V} {r r1 : R} (R0 : RelB K ct z F H σ env) (h : Res K ct z F H σ env v r) (e : keepR r env = some (r1, env1)) :
    ∃ F', Ex F F' ∧ RelB K ct z F' H σ env1 ∧ Res K ct z F' H σ env1 v r1 ∧ ∀ i, r1 ≠ .sl i := by
  cases r with
  | dt d => cases e; exact ⟨F, Ex.refl F, R0, h, fun _ q => nomatch q⟩
  | nw d => cases e; exact ⟨F, Ex.refl F, R0, h, fun _ q => nomatch q⟩
  | sl i =>
    unfold keepR at e
    simp only at e
    split at e
    · rename_i b d q
      cases e
      obtain ⟨F', w, ex, h1, h2, R1⟩ := R0.frzSlot q
      have h' : σ[i]? = some (some v) := h
      rw [h1] at h'; cases h'
      exact ⟨F', ex, R1, h2, fun _ q => nomatch q⟩
    · cases e
theorem _root_.L2.PE.vkeep (h : PE X e (tV X.K ct m)) : PE X e (tV X.K ct (keepM m)) := by
  refine h.vimp fun σ H Q w => ?_
  obtain ⟨z, F, env, rel, r, env', eq, k⟩ := w
  unfold keepM at eq
  cases q : m env with
  | none => rw [q] at eq; cases eq
  | some p =>
    obtain ⟨r0, env0⟩ := p
    rw [q] at eq
    refine ⟨z, F, env, rel, _, _, q, fun v F' H' ex rl res => ?_⟩
    obtain ⟨F2, e2, R2, rp, _⟩ := keep_res rl res eq
    exact k v F2 H' (ex.trans e2) R2 rp
theorem _root_.L2.PE.vlend (h : PE X e (tV X.K ct m)) : PE X e (tV X.K ct (lendM m)) := by
  refine h.vimp fun σ H Q w => ?_
  obtain ⟨z, F, env, rel, r, env', eq, k⟩ := w
  unfold lendM at eq
  split at eq
  · cases eq
  · exact ⟨z, F, env, rel, _, _, eq, k⟩
/-- a temporary object is not touched by what follows -/
theorem Res.later {z : Fm} {F F' H H' : Hp} {σ : St} {env env' : Env'} {v : V} {r : R} (h : Res K ct z F H σ env v r) (R1 : RelB K ct (here z.L z.W F H σ env) F' H' σ env') (e : Ex F F') : Res K ct z F' H' σ env' v r := by
  cases r with
  | dt d => exact Rp.mono e h
  | sl i => exact h
  | nw d =>
    obtain ⟨a, rfl, hF, ho, nf, hz⟩ := h
    obtain ⟨o, q⟩ := ho.obj
    have k1 : H' a = some o := R1.n.keep a o q nf
    have k2 : F' a = F a := R1.n.nofz a (by show H a ≠ none; rw [q]; simp) nf
    refine ⟨a, rfl, k2.trans hF, (ho.heap (k1.trans q.symm)).mono e, fun f => ?_, hz⟩
    rcases R1.n.fo a f with w | w
    · exact nf w
    · have w' : H a = none := w
      rw [q] at w'; cases w'
/-- temporary objects among results -/
def tmps : List V → List R → List Addr
  | .ref a :: vs, .nw _ :: rs => a :: tmps vs rs
  | _ :: vs, _ :: rs => tmps vs rs
  | _, _ => []
structure ResB (K : PySem.W.Frag) (ct : Nat → Addr) (z : Fm) (F H : Hp) (σ : St) (env : Env') (vs : List V) (rs : List R) : Prop where
  all : ResA K ct z F H σ env vs rs
  nd : (tmps vs rs).Nodup
  fr : ∀ a ∈ tmps vs rs, H a ≠ none
def tRB (K : PySem.W.Frag) (ct : Nat → Addr) (ms : Env' → Option (List R × Env')) : TA := fun σ H Q => ∃ z F env, RelB K ct z F H σ env ∧ ∃ rs env', ms env = some (rs, env') ∧
  ∀ vs F' H', Ex F F' → RelB K ct z F' H' σ env' → ResB K ct z F' H' σ env' vs rs → (∀ a ∈ tmps vs rs, H a = none) → Q vs H'
theorem pa_nilB : PA X [] (tRB X.K ct nilR) := pa_nil.vimp fun σ H Q ⟨z, F, env, rel, r, env', eq, k⟩ => by
  cases eq
  exact k _ F H (Ex.refl F) rel ⟨.nil, .nil, fun _ h => nomatch h⟩ fun _ h => nomatch h
theorem ResA.zz {z z' : Fm} {F H : Hp} {σ : St} {env : Env'} (h0 : ∀ a, z'.H a = none → z.H a = none) : ∀ {vs : List V} {rs : List R}, ResA K ct z' F H σ env vs rs → ResA K ct z F H σ env vs rs
  | _, _, .nil => .nil
  | _, _, .cons (r := r) h t => by
    refine .cons ?_ (ResA.zz h0 t)
    cases r with
    | dt d => exact h
    | sl i => exact h
    | nw d =>
      obtain ⟨a, e1, e2, e3, e4, e5⟩ := h
      exact ⟨a, e1, e2, e3, e4, h0 a e5⟩
theorem pa_consB (h : PE X e (tV X.K ct m)) (hs : PA X es (tRB X.K ct ms)) (hst : isStar e = false) : PA X (e :: es) (tRB X.K ct (consR m ms)) := by
  refine (pa_cons h hs (star_of hst)).vimp fun σ H Q w => ?_
  obtain ⟨z, F, env, rel, r, env', eq, k⟩ := w
  unfold consR at eq
  cases q : m env with
  | none => rw [q] at eq; cases eq
  | some p =>
    obtain ⟨r0, env1⟩ := p
    rw [q] at eq
    simp only at eq
    cases q3 : ms env1 with
    | none => rw [q3] at eq; cases eq
    | some p3 =>
      obtain ⟨rs, env2⟩ := p3
      rw [q3] at eq
      cases eq
      have S0 := rel.start
      refine ⟨here z.L z.W F H σ env, F, env, S0, r0, env1, q, fun v F1 H1 e1 R1 p1 => ?_⟩
      have RZ1 := rel.outer R1
      have S1 := RZ1.start
      refine ⟨_, F1, env1, S1, rs, _, q3, fun vs F2 H2 e2 R2 rb hn => ?_⟩
      have RZ2 := RZ1.outer R2
      have p1z : Res X.K ct z F1 H1 σ env1 v r0 := by
        cases r0 with
        | dt d => exact p1
        | sl i => exact p1
        | nw d =>
          obtain ⟨a, g1, g2, g3, g4, g5⟩ := p1
          exact ⟨a, g1, g2, g3, g4, rel.noZ g5⟩
      have pl := p1z.later R2 e2
      have za : ∀ a, (here z.L z.W F1 H1 σ env1).H a = none → z.H a = none := fun a ha => RZ1.noZ ha
      have th : ∀ a, H a ≠ none → H1 a ≠ none := fun a ha => R1.n.th a ha
      refine k (v :: vs) F2 H2 (e1.trans e2) RZ2 ⟨.cons pl (rb.all.zz za), ?_, ?_⟩ ?_
      · cases r0 with
        | nw d =>
          obtain ⟨a, rfl, g2, g3, g4, g5⟩ := p1
          obtain ⟨o, ho⟩ := g3.obj
          show (a :: tmps vs rs).Nodup
          refine List.nodup_cons.mpr ⟨fun hm => ?_, rb.nd⟩
          have := hn a hm
          rw [ho] at this; cases this
        | dt d => cases v <;> exact rb.nd
        | sl i => cases v <;> exact rb.nd
      · cases r0 with
        | nw d =>
          obtain ⟨a, rfl, g2, g3, g4, g5⟩ := p1
          obtain ⟨o, ho⟩ := g3.obj
          intro a' ha'
          rcases List.mem_cons.mp (show a' ∈ a :: tmps vs rs from ha') with e' | e'
          · subst e'; exact R2.n.th a' (by show H1 a' ≠ none; rw [ho]; simp)
          · exact rb.fr a' e'
        | dt d => cases v <;> exact rb.fr
        | sl i => cases v <;> exact rb.fr
      · have old : ∀ a ∈ tmps vs rs, H a = none := fun a ha => by
          cases qa : H a with
          | none => rfl
          | some o => exact (th a (by rw [qa]; simp) (hn a ha)).elim
        cases r0 with
        | nw d =>
          obtain ⟨a, rfl, g2, g3, g4, g5⟩ := p1
          intro a' ha'
          rcases List.mem_cons.mp (show a' ∈ a :: tmps vs rs from ha') with e' | e'
          · subst e'; exact g5
          · exact old a' e'
        | dt d => cases v <;> exact old
        | sl i => cases v <;> exact old
end
end VI
namespace VI
open PySem L2
/-- a def keeps a promise where no repr is under way -/
structure FnG (Pr : Program) (w : World) (K : PySem.W.Frag) (mg : Str → Option Value) (base : Heap) (k : Nat) (f : Addr) (fd : FuncData) (ps : List Str) (sp : List V → Hp → VK → Prop) : Prop where
  len : ∀ vs H Q, sp vs H Q → vs.length = ps.length
  run : ∀ (A : Around) (outer : List Env) (s : Shared) (H : Hp) (args : Args) (us : List Value) (vs : List V) (Q : VK), Room k A → A.guards = some [] → Env0 Pr w K mg base A outer s H → BindsTo s fd args (ps.zip us) → Vals vs us → sp vs H Q →
    codeAny (model Pr w) A (.call (.ref f) args) (CR CX0 outer Pr w H s Q E0) s
/-- the promise of a def, by the interpreter -/
def spF (K : PySem.W.Frag) (ct : Nat → Addr) (cf : List Sl → Option (R × List Sl)) (n : Nat) (vs : List V) (H : Hp) (Q : VK) : Prop :=
  vs.length = n ∧ ∃ F ss, Rel K ct F H (vs.map some) ss ∧ (∀ (j : Nat) (d : D), ss[j]? ≠ some (.ow false d)) ∧ ∃ r ss', cf ss = some (r, ss') ∧
    ∀ v F' H', RelB K ct (here (vs.map some) (fun a => H a ≠ none) F H (vs.map some) ss) F' H' (vs.map some) ss' → Res K ct (here (vs.map some) (fun a => H a ≠ none) F H (vs.map some) ss) F' H' (vs.map some) ss' v r → Q v H'
section
variable {X : Cx} {K : PySem.W.Frag} {ct : Nat → Addr} {e : Expr} {es : List Expr} {pos : Pos}
theorem run_fnV {pins : List (Addr × Obj)} {σ : St} {H : Hp} {s : Shared} {Q : VK} {us : List Value} {vs : List V} {k : Nat} {f : Addr} {fd : FuncData} {ps : List Str} {sp : List V → Hp → VK → Prop}
    (F : FnG X.prog X.w X.K X.mg X.base k f fd ps sp) (hr : Room k X.A) (hg : X.A.guards = some []) (hb : Binds X.K fd ps []) (I : L2.Inv X pins σ H s) (r : Vals vs us) (h : sp vs H Q) :
    wpAny (model X.prog X.w) X.A (call (.ref f) us) (EP X pins σ Q) X.xe s := by
  have hl : (us ++ []).length = ps.length := by rw [List.append_nil, ← r.length]; exact F.len _ _ _ h
  have hb' := hb s us I.kIn hl
  rw [List.append_nil] at hb'
  refine wpAny_call (codeAny_mono (F.run X.A X.stack s H ⟨us, []⟩ us vs Q hr hg I.env0 hb' r h) ?_)
  intro rr s' hq
  cases rr with
  | error e => exact False.elim hq
  | ok fl => cases fl <;> first | exact I.after hq | exact False.elim hq
/-- the arguments of a call -/
theorem foot_args {z : Fm} {F H : Hp} {σ : St} {env : Env'} (R0 : RelB K ct z F H σ env) : ∀ {vs : List V} {rs : List R} {mt : List Bool} {ss : List Sl}, ResA K ct z F H σ env vs rs → argSl env rs mt = some ss →
    vs.length = ss.length ∧ rs.length = ss.length ∧ ∀ (j : Nat) (s : Sl), ss[j]? = some s → ∃ v r, vs[j]? = some v ∧ rs[j]? = some r ∧
      ((∃ d, s = .va d ∧ r = .dt d ∧ Rp K ct F v d) ∨ (∃ d a, s = .ow true d ∧ v = .ref a ∧ F a = none ∧ OwnAt K ct F H a d ∧ ((r = .nw d ∧ ¬ foot σ env a ∧ z.H a = none) ∨ ∃ i b, r = .sl i ∧ env[i]? = some (.ow b d) ∧ σ[i]? = some (some (.ref a)))))
  | _, _, mt, ss, .nil, e => by
    cases mt with
    | nil => unfold argSl at e; cases e; exact ⟨rfl, rfl, fun j s h => by simp at h⟩
    | cons m ms => unfold argSl at e; cases e
  | _, _, mt, ss, .cons (v := v) (vs := vs) (r := r) (rs := rs) h t, e => by
    cases mt with
    | nil => unfold argSl at e; cases e
    | cons m ms =>
      unfold argSl at e
      cases q : argSl env rs ms with
      | none => rw [q] at e; cases e
      | some ss1 =>
        rw [q] at e
        simp only at e
        obtain ⟨l1, l2, k⟩ := foot_args R0 t q
        have fin : ∀ s0, ss = s0 :: ss1 → ((∃ d, s0 = .va d ∧ r = .dt d ∧ Rp K ct F v d) ∨ (∃ d a, s0 = .ow true d ∧ v = .ref a ∧ F a = none ∧ OwnAt K ct F H a d ∧ ((r = .nw d ∧ ¬ foot σ env a ∧ z.H a = none) ∨ ∃ i b, r = .sl i ∧ env[i]? = some (.ow b d) ∧ σ[i]? = some (some (.ref a))))) →
            (v :: vs).length = ss.length ∧ (r :: rs).length = ss.length ∧ ∀ (j : Nat) (s : Sl), ss[j]? = some s → ∃ v' r', (v :: vs)[j]? = some v' ∧ (r :: rs)[j]? = some r' ∧
              ((∃ d, s = .va d ∧ r' = .dt d ∧ Rp K ct F v' d) ∨ (∃ d a, s = .ow true d ∧ v' = .ref a ∧ F a = none ∧ OwnAt K ct F H a d ∧ ((r' = .nw d ∧ ¬ foot σ env a ∧ z.H a = none) ∨ ∃ i b, r' = .sl i ∧ env[i]? = some (.ow b d) ∧ σ[i]? = some (some (.ref a))))) := fun s0 es hs => by
          subst es
          refine ⟨by simp [l1], by simp [l2], fun j s hj => ?_⟩
          cases j with
          | zero => simp at hj; subst hj; exact ⟨v, r, rfl, rfl, hs⟩
          | succ j => exact k j s (by simpa using hj)
        split at e
        · rename_i d
          exact fin _ (Option.some.inj e).symm (.inl ⟨d, rfl, rfl, h⟩)
        · rename_i d
          obtain ⟨a, e1, e2, e3, e4, e5⟩ := h
          exact fin _ (Option.some.inj e).symm (.inr ⟨d, a, rfl, e1, e2, e3, .inl ⟨rfl, e4, e5⟩⟩)
        · rename_i i
          split at e
          · rename_i b d q2
            obtain ⟨a, h1, h2, h3⟩ := R0.r.ow i b d q2
            have h' : σ[i]? = some (some v) := h
            rw [h1] at h'; cases h'
            exact fin _ (Option.some.inj e).symm (.inr ⟨d, a, rfl, rfl, h2, h3, .inr ⟨i, b, rfl, q2, h1⟩⟩)
          · cases e
        · cases e
theorem slots_ix : ∀ {rs : List R} {i j m : Nat}, (slotsOf rs).Nodup → rs[i]? = some (.sl m) → rs[j]? = some (.sl m) → i = j
  | [], i, j, m, _, h, _ => by simp at h
  | r :: rs, i, j, m, nd, h1, h2 => by
    have mem : ∀ {rs : List R} {k : Nat}, rs[k]? = some (.sl m) → m ∈ slotsOf rs := by
      intro rs
      induction rs with
      | nil => intro k h; simp at h
      | cons r rs ih =>
        intro k h
        cases k with
        | zero => simp at h; subst h; exact List.mem_cons_self
        | succ k =>
          have := ih (k := k) (by simpa using h)
          cases r <;> first | exact this | exact List.mem_cons_of_mem _ this
    have ndt : (slotsOf rs).Nodup := by cases r <;> first | exact nd | exact (List.nodup_cons.mp nd).2
    cases i with
    | zero =>
      cases j with
      | zero => rfl
      | succ j =>
        simp at h1; subst h1
        exact ((List.nodup_cons.mp nd).1 (mem (rs := rs) (k := j) (by simpa using h2))).elim
    | succ i =>
      cases j with
      | zero =>
        simp at h2; subst h2
        exact ((List.nodup_cons.mp nd).1 (mem (rs := rs) (k := i) (by simpa using h1))).elim
      | succ j => exact congrArg (· + 1) (slots_ix (rs := rs) ndt (by simpa using h1) (by simpa using h2))
theorem slots_mem : ∀ {rs : List R} {m : Nat}, m ∈ slotsOf rs → ∃ j : Nat, rs[j]? = some (.sl m)
  | [], m, h => nomatch h
  | r :: rs, m, h => by
    cases r with
    | sl i =>
      rcases List.mem_cons.mp h with e | e
      · subst e; exact ⟨0, rfl⟩
      · obtain ⟨j, q⟩ := slots_mem e; exact ⟨j + 1, by simpa using q⟩
    | dt d => obtain ⟨j, q⟩ := slots_mem (rs := rs) h; exact ⟨j + 1, by simpa using q⟩
    | nw d => obtain ⟨j, q⟩ := slots_mem (rs := rs) h; exact ⟨j + 1, by simpa using q⟩
theorem tmps_mem : ∀ {vs : List V} {rs : List R} {i : Nat} {a : Addr} {d : D}, vs[i]? = some (.ref a) → rs[i]? = some (.nw d) → a ∈ tmps vs rs
  | [], _, _, _, _, h, _ => by simp at h
  | _ :: _, [], _, _, _, _, h => by simp at h
  | v :: vs, r :: rs, i, a, d, h1, h2 => by
    cases i with
    | zero => simp at h1 h2; subst h1 h2; exact List.mem_cons_self
    | succ i =>
      have := tmps_mem (vs := vs) (rs := rs) (i := i) (by simpa using h1) (by simpa using h2)
      cases r <;> cases v <;> first | exact this | exact List.mem_cons_of_mem _ this
theorem tmps_ix : ∀ {vs : List V} {rs : List R} {i j : Nat} {a : Addr} {d d' : D}, (tmps vs rs).Nodup → vs[i]? = some (.ref a) → rs[i]? = some (.nw d) → vs[j]? = some (.ref a) → rs[j]? = some (.nw d') → i = j
  | [], _, _, _, _, _, _, _, h, _, _, _ => by simp at h
  | _ :: _, [], _, _, _, _, _, _, _, h, _, _ => by simp at h
  | v :: vs, r :: rs, i, j, a, d, d', nd, h1, h2, h3, h4 => by
    have ndt : (tmps vs rs).Nodup := by cases r <;> cases v <;> first | exact nd | exact (List.nodup_cons.mp nd).2
    cases i with
    | zero =>
      cases j with
      | zero => rfl
      | succ j =>
        simp at h1 h2; subst h1 h2
        exact ((List.nodup_cons.mp nd).1 (tmps_mem (vs := vs) (rs := rs) (i := j) (by simpa using h3) (by simpa using h4))).elim
    | succ i =>
      cases j with
      | zero =>
        simp at h3 h4; subst h3 h4
        exact ((List.nodup_cons.mp nd).1 (tmps_mem (vs := vs) (rs := rs) (i := i) (by simpa using h1) (by simpa using h2))).elim
      | succ j => exact congrArg (· + 1) (tmps_ix (vs := vs) (rs := rs) ndt (by simpa using h1) (by simpa using h2) (by simpa using h3) (by simpa using h4))
theorem lent_at : ∀ {rs : List R} {ss : List Sl} {env env' : Env'}, lentBack rs ss env = some env' → (slotsOf rs).Nodup → env'.length = env.length ∧ (∀ m : Nat, m ∉ slotsOf rs → env'[m]? = env[m]?) ∧
    ∀ (j m : Nat), rs[j]? = some (.sl m) → ∃ b d d', env[m]? = some (.ow b d) ∧ ss[j]? = some (.ow true d') ∧ env'[m]? = some (.ow b d')
  | [], [], env, env', h, _ => by unfold lentBack at h; cases h; exact ⟨rfl, fun _ _ => rfl, fun j m q => by simp at q⟩
  | [], _ :: _, env, env', h, _ => by unfold lentBack at h; cases h
  | .sl i :: rs, ss, env, env', h, nd => by
    obtain ⟨n1, n2⟩ := List.nodup_cons.mp (show (i :: slotsOf rs).Nodup from nd)
    cases ss with
    | nil => unfold lentBack at h; cases h
    | cons s ss =>
      cases s with
      | no => unfold lentBack at h; cases h
      | va d => unfold lentBack at h; cases h
      | ow bb d =>
        cases bb with
        | false => unfold lentBack at h; cases h
        | true =>
          unfold lentBack at h
          split at h
          · rename_i b d0 q
            obtain ⟨h1, h2, h3⟩ := lent_at h n2
            refine ⟨by rw [h1, List.length_set], fun m hm => ?_, fun j m hj => ?_⟩
            · have hm' : m ≠ i ∧ m ∉ slotsOf rs := by
                have hm2 : m ∉ i :: slotsOf rs := hm
                simpa using hm2
              rw [h2 m hm'.2, set_ne (Ne.symm hm'.1)]
            · cases j with
              | zero =>
                simp at hj; subst hj
                exact ⟨b, d0, d, q, rfl, by rw [h2 i n1]; exact set_self q⟩
              | succ j =>
                obtain ⟨b2, d2, d3, g1, g2, g3⟩ := h3 j m (by simpa using hj)
                have hne : i ≠ m := fun e => by
                  subst e
                  refine n1 ?_
                  have mm : ∀ {rs : List R} {k : Nat}, rs[k]? = some (.sl i) → i ∈ slotsOf rs := by
                    intro rs
                    induction rs with
                    | nil => intro k h; simp at h
                    | cons r rs ih =>
                      intro k h
                      cases k with
                      | zero => simp at h; subst h; exact List.mem_cons_self
                      | succ k =>
                        have := ih (k := k) (by simpa using h)
                        cases r <;> first | exact this | exact List.mem_cons_of_mem _ this
                  exact mm (k := j) (by simpa using hj)
                rw [set_ne hne] at g1
                exact ⟨b2, d2, d3, g1, by simpa using g2, g3⟩
          · cases h
  | .nw d :: rs, ss, env, env', h, nd => by
    cases ss with
    | nil => unfold lentBack at h; cases h
    | cons s ss =>
      cases s with
      | no => unfold lentBack at h; cases h
      | va d => unfold lentBack at h; cases h
      | ow bb d =>
        cases bb with
        | false => unfold lentBack at h; cases h
        | true =>
          unfold lentBack at h
          obtain ⟨h1, h2, h3⟩ := lent_at (rs := rs) h nd
          refine ⟨h1, h2, fun j m hj => ?_⟩
          cases j with
          | zero => simp at hj
          | succ j => obtain ⟨b2, d2, d3, g1, g2, g3⟩ := h3 j m (by simpa using hj); exact ⟨b2, d2, d3, g1, by simpa using g2, g3⟩
  | .dt d :: rs, ss, env, env', h, nd => by
    cases ss with
    | nil => unfold lentBack at h; cases h
    | cons s ss =>
      unfold lentBack at h
      obtain ⟨h1, h2, h3⟩ := lent_at (rs := rs) h nd
      refine ⟨h1, h2, fun j m hj => ?_⟩
      cases j with
      | zero => simp at hj
      | succ j => obtain ⟨b2, d2, d3, g1, g2, g3⟩ := h3 j m (by simpa using hj); exact ⟨b2, d2, d3, g1, by simpa using g2, g3⟩
theorem map_some_at {vs : List V} {j : Nat} {v : V} (h : vs[j]? = some v) : (vs.map some)[j]? = some (some v) := by simp [h]
theorem of_map_some {vs : List V} {j : Nat} {v : V} (h : (vs.map some)[j]? = some (some v)) : vs[j]? = some v := by
  simp at h; exact h
theorem call_start {z : Fm} {F H : Hp} {σ : St} {env : Env'} {vs : List V} {rs : List R} {mt : List Bool} {ss : List Sl} (R0 : RelB K ct z F H σ env) (rb : ResB K ct z F H σ env vs rs) (nd : (slotsOf rs).Nodup) (e : argSl env rs mt = some ss) : Rel K ct F H (vs.map some) ss := by
  obtain ⟨l1, l2, k⟩ := foot_args R0 rb.all e
  refine ⟨R0.r.sub, by rw [List.length_map, l1], fun j d h => ?_, fun j b d h => ?_, fun i j b b' d d' a h1 h2 h3 h4 => ?_⟩
  · obtain ⟨v, r, g1, g2, g3⟩ := k j _ h
    rcases g3 with ⟨d1, e1, _, e3⟩ | ⟨d1, a, e1, _⟩
    · cases e1; exact ⟨v, map_some_at g1, e3⟩
    · cases e1
  · obtain ⟨v, r, g1, g2, g3⟩ := k j _ h
    rcases g3 with ⟨d1, e1, _, e3⟩ | ⟨d1, a, e1, e2, e3, e4, _⟩
    · cases e1
    · cases e1; subst e2; exact ⟨a, map_some_at g1, e3, e4⟩
  · obtain ⟨v, r, g1, g2, g3⟩ := k i _ h1
    obtain ⟨v', r', g1', g2', g3'⟩ := k j _ h2
    rw [of_map_some h3] at g1; cases g1
    rw [of_map_some h4] at g1'; cases g1'
    rcases g3 with ⟨_, e1, _⟩ | ⟨d1, a1, e1, e2, e3, e4, e5⟩
    · cases e1
    rcases g3' with ⟨_, f1, _⟩ | ⟨d2, a2, f1, f2, f3, f4, f5⟩
    · cases f1
    cases e2; cases f2
    rcases e5 with ⟨q1, q2, q3⟩ | ⟨s1, b1, q1, q2, q3⟩
    · rcases f5 with ⟨p1, p2, p3⟩ | ⟨s2, b2, p1, p2, p3⟩
      · subst q1 p1
        exact tmps_ix rb.nd (of_map_some h3) g2 (of_map_some h4) g2'
      · exact (q2 ⟨s2, b2, d2, p2, p3⟩).elim
    · rcases f5 with ⟨p1, p2, p3⟩ | ⟨s2, b2, p1, p2, p3⟩
      · exact (p2 ⟨s1, b1, d1, q2, q3⟩).elim
      · have hs := R0.r.dj s1 s2 b1 b2 d1 d2 a q2 p2 q3 p3
        subst q1 p1 hs
        exact slots_ix nd g2 g2'
theorem args_lent {z : Fm} {F H : Hp} {σ : St} {env : Env'} {vs : List V} {rs : List R} {mt : List Bool} {ss : List Sl} (R0 : RelB K ct z F H σ env) (rb : ResB K ct z F H σ env vs rs) (e : argSl env rs mt = some ss) (j : Nat) (d : D) : ss[j]? ≠ some (.ow false d) := fun h => by
  obtain ⟨l1, l2, k⟩ := foot_args R0 rb.all e
  obtain ⟨v, r, g1, g2, g3⟩ := k j _ h
  rcases g3 with ⟨d1, e1, _⟩ | ⟨d1, a, e1, _⟩ <;> cases e1
theorem call_end {z : Fm} {F F' H H' : Hp} {σ : St} {env env' : Env'} {vs : List V} {rs : List R} {mt : List Bool} {ss ss' : List Sl} {v : V} {r : R} (R0 : RelB K ct z F H σ env) (rb : ResB K ct z F H σ env vs rs) (nd : (slotsOf rs).Nodup) (e : argSl env rs mt = some ss)
    (R1 : RelB K ct (here (vs.map some) (fun a => H a ≠ none) F H (vs.map some) ss) F' H' (vs.map some) ss') (res : Res K ct (here (vs.map some) (fun a => H a ≠ none) F H (vs.map some) ss) F' H' (vs.map some) ss' v r) (hr : ∀ i, r ≠ .sl i) (eb : lentBack rs ss' env = some env') :
    Ex F F' ∧ RelB K ct z F' H' σ env' ∧ Res K ct z F' H' σ env' v r := by
  obtain ⟨l1, l2, k⟩ := foot_args R0 rb.all e
  obtain ⟨b1, b2, b3⟩ := lent_at eb nd
  have ex : Ex F F' := R1.n.ex
  -- what the callee may change
  have fa : ∀ a, foot (vs.map some) ss a → (¬ foot σ env a ∧ z.H a = none) ∨ ∃ i b d, i ∈ slotsOf rs ∧ env[i]? = some (.ow b d) ∧ σ[i]? = some (some (.ref a)) := fun a ⟨j, b, d, h1, h2⟩ => by
    obtain ⟨v0, r0, g1, g2, g3⟩ := k j _ h1
    rw [of_map_some h2] at g1; cases g1
    rcases g3 with ⟨_, e1, _⟩ | ⟨d1, a1, e1, e2, e3, e4, e5⟩
    · cases e1
    cases e2
    rcases e5 with ⟨q1, q2, q3⟩ | ⟨s1, b1, q1, q2, q3⟩
    · exact .inl ⟨q2, q3⟩
    · subst q1
      refine .inr ⟨s1, b1, d1, ?_, q2, q3⟩
      have mm : ∀ {rs : List R} {k : Nat}, rs[k]? = some (.sl s1) → s1 ∈ slotsOf rs := by
        intro rs
        induction rs with
        | nil => intro k h; simp at h
        | cons r rs ih =>
          intro k h
          cases k with
          | zero => simp at h; subst h; exact List.mem_cons_self
          | succ k =>
            have := ih (k := k) (by simpa using h)
            cases r <;> first | exact this | exact List.mem_cons_of_mem _ this
      exact mm g2
  have own' : ∀ (m : Nat) b d, env'[m]? = some (.ow b d) → ∃ d0, env[m]? = some (.ow b d0) := fun m b d h => by
    by_cases hm : m ∈ slotsOf rs
    · obtain ⟨j, hj⟩ := slots_mem hm
      obtain ⟨b4, d4, d5, g1, g2, g3⟩ := b3 j m hj
      rw [h] at g3; cases g3
      exact ⟨d4, g1⟩
    · rw [b2 m hm] at h; exact ⟨d, h⟩
  have zk : ∀ a, z.H a ≠ none → ¬ z.O a → H a ≠ none ∧ ¬ foot (vs.map some) ss a := fun a h1 h2 => by
    refine ⟨R0.n.th a h1, fun f => ?_⟩
    rcases fa a f with ⟨_, q⟩ | ⟨i, b, d, _, q, q'⟩
    · exact h1 q
    · rcases R0.n.fo a ⟨i, b, d, q, q'⟩ with w | w
      · exact h2 w
      · exact h1 w
  have ft : ∀ a, foot σ env' a → foot σ env a := fun a ⟨m, b, d, h1, h2⟩ => by
    obtain ⟨d0, q⟩ := own' m b d h1
    exact ⟨m, b, d0, q, h2⟩
  have resAt : ∀ (j m : Nat), rs[j]? = some (.sl m) → ∃ v0, vs[j]? = some v0 ∧ σ[m]? = some (some v0) := by
    have go : ∀ {vs : List V} {rs : List R}, ResA K ct z F H σ env vs rs → ∀ (j m : Nat), rs[j]? = some (.sl m) → ∃ v0, vs[j]? = some v0 ∧ σ[m]? = some (some v0) := by
      intro vs rs ra
      induction ra with
      | nil => intro j m h; simp at h
      | cons h t ih =>
        intro j m hj
        cases j with
        | zero => simp at hj; subst hj; exact ⟨_, rfl, h⟩
        | succ j => exact ih j m (by simpa using hj)
    exact go rb.all
  refine ⟨ex, ⟨⟨R1.r.sub, by rw [b1]; exact R0.r.len, fun m d h => ?_, fun m b d h => ?_, fun i j b b' d d' a h1 h2 h3 h4 => ?_⟩, ⟨R0.n.ex.trans ex, fun a o h1 h2 => ?_, fun a h1 h2 => ?_, fun a h => R1.n.th a (R0.n.th a h), fun a f => R0.n.fo a (ft a f), fun m d h => ?_, R0.n.tz, fun m d a h h' => ?_⟩⟩, ?_⟩
  · by_cases hm : m ∈ slotsOf rs
    · obtain ⟨j, hj⟩ := slots_mem hm
      obtain ⟨b4, d4, d5, g1, g2, g3⟩ := b3 j m hj
      rw [h] at g3; cases g3
    · rw [b2 m hm] at h
      obtain ⟨w, q1, q2⟩ := R0.r.va m d h
      exact ⟨w, q1, q2.mono ex⟩
  · by_cases hm : m ∈ slotsOf rs
    · obtain ⟨j, hj⟩ := slots_mem hm
      obtain ⟨b4, d4, d5, g1, g2, g3⟩ := b3 j m hj
      rw [h] at g3; cases g3
      obtain ⟨a, f1, f2, f3⟩ := R1.r.ow j true d g2
      obtain ⟨v0, w1, w2⟩ := resAt j m hj
      have f1' := of_map_some f1
      rw [w1] at f1'; cases f1'
      exact ⟨a, w2, f2, f3⟩
    · rw [b2 m hm] at h
      obtain ⟨a, f1, f2, f3⟩ := R0.r.ow m b d h
      have nf : ¬ foot (vs.map some) ss a := fun f => by
        rcases fa a f with ⟨q, _⟩ | ⟨i, b0, d0, hi, q, q'⟩
        · exact q ⟨m, b, d, h, f1⟩
        · have := R0.r.dj i m b0 b d0 d a q h q' f1
          subst this; exact hm hi
      obtain ⟨o, ho⟩ := f3.obj
      have k1 : H' a = some o := R1.n.keep a o ho nf
      have k2 : F' a = F a := R1.n.nofz a (by show H a ≠ none; rw [ho]; simp) nf
      exact ⟨a, f1, k2.trans f2, (f3.heap (k1.trans ho.symm)).mono ex⟩
  · obtain ⟨d1, g1⟩ := own' i b d h1
    obtain ⟨d2, g2⟩ := own' j b' d' h2
    exact R0.r.dj i j b b' d1 d2 a g1 g2 h3 h4
  · exact R1.n.keep a o (R0.n.keep a o h1 h2) (zk a (by rw [h1]; simp) h2).2
  · obtain ⟨k1, k2⟩ := zk a h1 h2
    exact (R1.n.nofz a k1 k2).trans (R0.n.nofz a h1 h2)
  · obtain ⟨d0, q⟩ := own' m true d h
    exact R0.n.lent m d0 q
  · obtain ⟨d0, q⟩ := own' m false d h
    exact R0.n.own m d0 a q h'
  · cases r with
    | dt d => exact res
    | sl i => exact (hr i rfl).elim
    | nw d =>
      obtain ⟨a, e1, e2, e3, e4, e5⟩ := res
      have hn : H a = none := e5
      exact ⟨a, e1, e2, e3, fun f => R0.noFoot hn (ft a f), R0.noZ hn⟩
end
end VI
namespace VI
open PySem L2
section
variable {X : Cx} {K : PySem.W.Frag} {ct : Nat → Addr} {e o : Expr} {es : List Expr} {pos p apos : Pos} {k : Nat} {f : Addr} {fd : FuncData} {ps : List Str} {cf : List Sl → Option (R × List Sl)} {mt : List Bool} {ms : Env' → Option (List R × Env')} {m : Env' → Option (R × Env')} {x : Str}
/-- a call's arguments lead to the callee's promise -/
theorem callM_sp {σ : St} {H : Hp} {Q : VK} {n : Nat} (hl : ∀ ss r ss', cf ss = some (r, ss') → ss.length = n) (w : tV K ct (callM cf mt ms) σ H Q) : tRB K ct ms σ H fun vs H1 => spF K ct cf n vs H1 Q := by
  obtain ⟨z, F, env, rel, r, env', eq, k⟩ := w
  unfold callM at eq
  cases q : ms env with
  | none => rw [q] at eq; cases eq
  | some p =>
    obtain ⟨rs, env1⟩ := p
    rw [q] at eq
    simp only at eq
    unfold callF at eq
    split at eq
    · rename_i nd
      cases q2 : argSl env1 rs mt with
      | none => rw [q2] at eq; cases eq
      | some ss =>
        rw [q2] at eq
        simp only at eq
        cases q3 : cf ss with
        | none => rw [q3] at eq; cases eq
        | some p3 =>
          obtain ⟨r3, ss'⟩ := p3
          rw [q3] at eq
          simp only at eq
          have main : ∀ (hr : ∀ i, r3 ≠ .sl i), (lentBack rs ss' env1).map (fun env' => (r3, env')) = some (r, env') → tRB K ct ms σ H fun vs H1 => spF K ct cf n vs H1 Q := by
            intro hr eq
            cases q4 : lentBack rs ss' env1 with
            | none => rw [q4] at eq; cases eq
            | some env2 =>
              rw [q4] at eq
              cases eq
              refine ⟨z, F, env, rel, rs, env1, q, fun vs F1 H1 e1 R1 rb _ => ?_⟩
              obtain ⟨l1, _, _⟩ := foot_args R1 rb.all q2
              refine ⟨l1.trans (hl ss _ _ q3), F1, ss, call_start R1 rb nd q2, args_lent R1 rb q2, _, ss', q3, fun v F2 H2 R2 res => ?_⟩
              obtain ⟨ex, R3, res3⟩ := call_end R1 rb nd q2 R2 res hr q4
              exact k v F2 H2 (e1.trans ex) R3 res3
          cases r3 with
          | dt d => exact main (fun _ q => nomatch q) eq
          | nw d => exact main (fun _ q => nomatch q) eq
          | sl i => cases eq
    · cases eq
theorem pe_callV (F : FnG X.prog X.w X.K X.mg X.base k f fd ps (spF X.K ct cf ps.length)) (hr : Room k X.A) (hgd : X.A.guards = some []) (hg : Gl X x) (hm : X.mg x = some (.ref f)) (hk : PySem.W.keepIn X.K (.ref f) = true) (hb : Binds X.K fd ps [])
    (hl : ∀ ss r ss', cf ss = some (r, ss') → ss.length = ps.length) (ha : PA X (e :: es) (tRB X.K ct ms)) (hd : (x == ("__debug__" : Str)) = false) (hs : isStar e = false) (hss : (es.all fun e => !isStar e) = true) :
    PE X (.Call (.Name x p) (e :: es) [] pos) (tV X.K ct (callM cf mt ms)) := by
  constructor
  intro pins s σ H Q I h
  refine wpAny_Call_Name_kw (ld_glob I hg hm ?_ hd)
  refine PySem.W.callWith_K (h₀ := X.base) I.ok.mod.kin hk ?_ (star_of hs) (nostar_any hss)
  exact thn (ha.run pos pins s σ H _ I (callM_sp hl h)) fun us s1 ⟨vs, H1, I1, r, q⟩ => ⟨I1.kIn, run_fnV F hr hgd hb I1 r q⟩
theorem pe_call0V (F : FnG X.prog X.w X.K X.mg X.base k f fd ps (spF X.K ct cf ps.length)) (hr : Room k X.A) (hgd : X.A.guards = some []) (hg : Gl X x) (hm : X.mg x = some (.ref f)) (hk : PySem.W.keepIn X.K (.ref f) = true) (hb : Binds X.K fd ps [])
    (hl : ∀ ss r ss', cf ss = some (r, ss') → ss.length = ps.length) (hd : (x == ("__debug__" : Str)) = false) : PE X (.Call (.Name x p) [] [] pos) (tV X.K ct (callM cf mt nilR)) := by
  constructor
  intro pins s σ H Q I h
  refine wpAny_Call_Name_kw (ld_glob I hg hm ?_ hd)
  obtain ⟨z, F1, env, rel, rs, env1, q, kk⟩ := callM_sp hl h
  cases q
  exact PySem.W.callWith_K0 I.kIn hk (run_fnV (us := []) F hr hgd hb I .nil (kk [] F1 H (Ex.refl F1) rel ⟨.nil, .nil, fun _ h => nomatch h⟩ fun _ h => nomatch h))
/-! ### keywords -/
/-- the keywords ks bind the parameters, each of them the value at its place in perm -/
def KwB (K : PySem.W.Frag) (fd : FuncData) (ps ks : List Str) (first : Nat) (perm : List Nat) : Prop :=
  ∀ (s : Shared) (fs ws us : List Value), K.In s.heap → fs.length = first → ws.length = ks.length → perm.mapM (fun i => ws[i]?) = some us → BindsTo s fd ⟨fs, ks.zip ws⟩ (ps.zip (fs ++ us))
theorem perm_vals : ∀ {perm : List Nat} {vs ys : List V} {ws us : List Value}, Vals vs ws → perm.mapM (fun i => vs[i]?) = some ys → perm.mapM (fun i => ws[i]?) = some us → Vals ys us
  | [], vs, ys, ws, us, r, h1, h2 => by simp at h1 h2; subst h1 h2; exact .nil
  | i :: perm, vs, ys, ws, us, r, h1, h2 => by
    rw [List.mapM_cons] at h1 h2
    cases q1 : vs[i]? with
    | none => rw [q1] at h1; cases h1
    | some v =>
      cases q2 : perm.mapM (fun i => vs[i]?) with
      | none => rw [q1, q2] at h1; cases h1
      | some y2 =>
        rw [q1, q2] at h1; cases h1
        obtain ⟨u, q3, rv⟩ := r.get q1
        cases q4 : perm.mapM (fun i => ws[i]?) with
        | none => rw [q3, q4] at h2; cases h2
        | some u2 =>
          rw [q3, q4] at h2; cases h2
          exact .cons rv (perm_vals r q2 q4)
theorem perm_some : ∀ {perm : List Nat} {vs ys : List V} {ws : List Value}, Vals vs ws → perm.mapM (fun i => vs[i]?) = some ys → ∃ us, perm.mapM (fun i => ws[i]?) = some us
  | [], vs, ys, ws, r, h1 => ⟨[], rfl⟩
  | i :: perm, vs, ys, ws, r, h1 => by
    rw [List.mapM_cons] at h1
    cases q1 : vs[i]? with
    | none => rw [q1] at h1; cases h1
    | some v =>
      cases q2 : perm.mapM (fun i => vs[i]?) with
      | none => rw [q1, q2] at h1; cases h1
      | some y2 =>
        obtain ⟨u, q3, rv⟩ := r.get q1
        obtain ⟨us, q4⟩ := perm_some r q2
        exact ⟨u :: us, by rw [List.mapM_cons, q3, q4]; rfl⟩
theorem perm_rp {F : Hp} : ∀ {perm : List Nat} {vs : List V} {ds es : List D}, RpA K ct F vs ds → perm.mapM (fun i => ds[i]?) = some es → ∃ ys, perm.mapM (fun i => vs[i]?) = some ys ∧ RpA K ct F ys es
  | [], vs, ds, es, r, h => by simp at h; subst h; exact ⟨[], rfl, .nil⟩
  | i :: perm, vs, ds, es, r, h => by
    rw [List.mapM_cons] at h
    cases q1 : ds[i]? with
    | none => rw [q1] at h; cases h
    | some d =>
      cases q2 : perm.mapM (fun i => ds[i]?) with
      | none => rw [q1, q2] at h; cases h
      | some e2 =>
        rw [q1, q2] at h; cases h
        obtain ⟨v, g1, g2⟩ := r.get q1
        obtain ⟨ys, g3, g4⟩ := perm_rp r q2
        exact ⟨v :: ys, by rw [List.mapM_cons, g1, g3]; rfl, .cons g2 g4⟩
/-- keyword values that are kept -/
theorem pk_nilV : PK X [] (tA X.K ct nilD) := ⟨fun pos pins s σ H Q I h => by
  obtain ⟨z, F, env, rel, ds, env', eq, k⟩ := h
  cases eq
  exact (pk_nil (X := X)).run pos pins s σ H Q I (k [] F H (Ex.refl F) rel .nil)⟩
theorem pk_consV {nm : Option Str} {kpos : Pos} {kws : List Keyword} {ms : Env' → Option (List D × Env')} (h : PE X e (tV X.K ct m)) (hs : PK X kws (tA X.K ct ms)) : PK X (⟨nm, e, kpos⟩ :: kws) (tA X.K ct (consV m ms)) := by
  constructor
  intro pos pins s σ H Q I w
  refine (pk_cons (nm := nm) (kpos := kpos) h.vfrz hs).run pos pins s σ H Q I ?_
  obtain ⟨z, F, env, rel, r, env', eq, k⟩ := w
  unfold consV at eq
  cases q : m env with
  | none => rw [q] at eq; cases eq
  | some p =>
    obtain ⟨r0, env0⟩ := p
    rw [q] at eq
    simp only at eq
    cases q2 : frz r0 env0 with
    | none => rw [q2] at eq; cases eq
    | some p2 =>
      obtain ⟨d, env1⟩ := p2
      rw [q2] at eq
      simp only at eq
      cases q3 : ms env1 with
      | none => rw [q3] at eq; cases eq
      | some p3 =>
        obtain ⟨ds, env2⟩ := p3
        rw [q3] at eq
        cases eq
        refine ⟨z, F, env, rel, .dt d, env1, by unfold VI.frzM; rw [q]; simp only; rw [q2], fun v F1 H1 e1 R1 rp => ⟨z, F1, env1, R1, _, _, q3, fun vs F2 H2 e2 R2 ra => ?_⟩⟩
        exact k _ F2 H2 (e1.trans e2) R2 (.cons (Rp.mono e2 rp) ra)
theorem run_kwV {pins : List (Addr × Obj)} {σ : St} {H : Hp} {s : Shared} {Q : VK} {fs ws us : List Value} {ys : List V} {ks : List Str} {n : Nat} {perm : List Nat} {sp : List V → Hp → VK → Prop}
    (F : FnG X.prog X.w X.K X.mg X.base k f fd ps sp) (hr : Room k X.A) (hgd : X.A.guards = some []) (hb : KwB X.K fd ps ks n perm) (I : L2.Inv X pins σ H s) (hf : fs.length = n) (hw : ws.length = ks.length) (hp : perm.mapM (fun i => ws[i]?) = some us) (r : Vals ys (fs ++ us)) (h : sp ys H Q) :
    wpAny (model X.prog X.w) X.A (call (.ref f) fs (ks.zip ws)) (EP X pins σ Q) X.xe s := by
  refine wpAny_call (codeAny_mono (F.run X.A X.stack s H ⟨fs, ks.zip ws⟩ (fs ++ us) ys Q hr hgd I.env0 (hb s fs ws us I.kIn hf hw hp) r h) ?_)
  intro rr s' hq
  cases rr with
  | error e => exact False.elim hq
  | ok fl => cases fl <;> first | exact I.after hq | exact False.elim hq
def kwNames : List Keyword → List Str
  | [] => []
  | ⟨some n, _, _⟩ :: r => n :: kwNames r
  | _ :: r => kwNames r
def kwAll : List Keyword → Bool
  | [] => true
  | ⟨some _, _, _⟩ :: r => kwAll r
  | _ :: _ => false
theorem kw_facts : ∀ {kws : List Keyword} {env : Env} {pos : Pos}, kwAll kws = true → (backToKw pos (keywordEach kws env)).all (·.1.isSome) = true ∧ (backToKw pos (keywordEach kws env)).any (·.1.isNone) = false ∧ (backToKw pos (keywordEach kws env)).filterMap (·.1) = kwNames kws ∧ (backToKw pos (keywordEach kws env)).length = (kwNames kws).length
  | [], env, pos, _ => ⟨rfl, rfl, rfl, rfl⟩
  | ⟨nm, v, q⟩ :: r, env, pos, h => by
    cases nm with
    | none => cases h
    | some n =>
      obtain ⟨h1, h2, h3, h4⟩ := kw_facts (kws := r) (env := env) (pos := pos) h
      refine ⟨?_, ?_, ?_, ?_⟩
      · show (true && (backToKw pos (keywordEach r env)).all (·.1.isSome)) = true; rw [h1]; rfl
      · show (false || (backToKw pos (keywordEach r env)).any (·.1.isNone)) = false; rw [h2]; rfl
      · show n :: (backToKw pos (keywordEach r env)).filterMap (·.1) = n :: kwNames r; rw [h3]
      · show (backToKw pos (keywordEach r env)).length + 1 = (kwNames r).length + 1; rw [h4]
/-- data as arguments -/
theorem dataRB {z : Fm} {F H : Hp} {σ : St} {env : Env'} : ∀ {vs : List V} {ds : List D}, RpA K ct F vs ds → ResB K ct z F H σ env vs (ds.map .dt) ∧ tmps vs (ds.map .dt) = []
  | _, _, .nil => ⟨⟨.nil, .nil, fun _ h => nomatch h⟩, rfl⟩
  | _, _, .cons (v := v) (vs := vs) (d := d) (ds := ds) h r => by
    obtain ⟨h1, h2⟩ := dataRB (z := z) (H := H) (σ := σ) (env := env) r
    have e : tmps (v :: vs) (R.dt d :: ds.map R.dt) = tmps vs (ds.map .dt) := by cases v <;> rfl
    refine ⟨⟨.cons h h1.all, ?_, ?_⟩, ?_⟩
    · show (tmps (v :: vs) (R.dt d :: ds.map R.dt)).Nodup
      rw [e]; exact h1.nd
    · show ∀ a ∈ tmps (v :: vs) (R.dt d :: ds.map R.dt), H a ≠ none
      rw [e]; exact h1.fr
    · show tmps (v :: vs) (R.dt d :: ds.map R.dt) = []
      rw [e]; exact h2
/-- the keywords' values in the parameters' order -/
theorem kw_run {kws : List Keyword} {perm : List Nat} {mv : Env' → Option (List D × Env')} {ms0 : Env' → Option (List R × Env')} {σ : St} {H : Hp} {Q : List V → Hp → Prop} (w : tRB K ct (dataR (permM perm mv)) σ H Q) :
    tA K ct mv σ H fun vs H2 => ∃ ys, perm.mapM (fun i => vs[i]?) = some ys ∧ Q ys H2 ∧ ∃ env ds env', mv env = some (ds, env') ∧ vs.length = ds.length := by
  obtain ⟨z, F1, env, rel, rs, env1, q, kk⟩ := w
  unfold dataR permM at q
  cases q1 : mv env with
  | none => rw [q1] at q; cases q
  | some pq =>
    obtain ⟨ds, env2⟩ := pq
    rw [q1] at q
    simp only at q
    cases q2 : permute perm ds with
    | none => rw [q2] at q; cases q
    | some es' =>
      rw [q2] at q
      cases q
      refine ⟨z, F1, env, rel, ds, _, q1, fun vs F2 H2 e2 R2 ra => ?_⟩
      obtain ⟨ys, g1, g2⟩ := perm_rp ra q2
      obtain ⟨h1, h2⟩ := dataRB (z := z) (H := H2) (σ := σ) (env := env1) g2
      exact ⟨ys, g1, kk ys F2 H2 e2 R2 h1 (by rw [h2]; exact fun _ h => nomatch h), env, ds, _, q1, ra.length⟩
theorem pe_callKV {kws : List Keyword} {perm : List Nat} {mv : Env' → Option (List D × Env')} (F : FnG X.prog X.w X.K X.mg X.base k f fd ps (spF X.K ct cf ps.length)) (hr : Room k X.A) (hgd : X.A.guards = some []) (hg : Gl X x) (hm : X.mg x = some (.ref f)) (hk : PySem.W.keepIn X.K (.ref f) = true)
    (hb : KwB X.K fd ps (kwNames kws) 0 perm) (hl : ∀ ss r ss', cf ss = some (r, ss') → ss.length = ps.length) (ha : PK X kws (tA X.K ct mv)) (hd : (x == ("__debug__" : Str)) = false) (hw : kwAll kws = true)
    (hn : ∀ env ds env', mv env = some (ds, env') → ds.length = (kwNames kws).length) :
    PE X (.Call (.Name x p) [] kws pos) (tV X.K ct (callM cf mt (dataR (permM perm mv)))) := by
  constructor
  intro pins s σ H Q I h
  obtain ⟨k1, k2, k3, k4⟩ := kw_facts (env := X.env) (pos := pos) hw
  refine wpAny_Call_Name_kw (ld_glob I hg hm ?_ hd)
  refine PySem.W.callWith_KW0 (h₀ := X.base) I.ok.mod.kin hk k1 ?_ (by show (false || _) = false; rw [k2]; rfl)
  refine thn (ha.run pos pins s σ H _ I (kw_run (kws := kws) (ms0 := nilR) (callM_sp hl h))) ?_
  rintro ws s1 ⟨vs, H2, I2, rw', ys, g1, g3, env, ds, env', g5, g6⟩
  obtain ⟨us, g4⟩ := perm_some rw' g1
  refine ⟨I2.kIn, ?_⟩
  rw [k3]
  exact run_kwV (fs := []) F hr hgd hb I2 rfl (by rw [← rw'.length, g6]; exact hn _ _ _ g5) g4 (perm_vals rw' g1 g4) g3
/-! ### methods of own classes -/
theorem meth_eq {env : Env} {args : List Expr} {kws : List Keyword} {mm : Str} (hb : isNoArg o = false) (hf : methodCallForm (args.length + kws.length) (backTo pos (starEach args env)) (backToKw pos (keywordEach kws env)) = true) (hl : (apos.endLine == pos.line) = true) :
    eval (.Call (.Attribute o mm apos) args kws pos) env = (do
      let ov ← eval o env
      standAt apos.atName
      let (f, first) ← holding [ov] (getMethod ov mm (plainOf o env))
      callWith pos f first (backTo pos (starEach args env)) (backToKw pos (keywordEach kws env))) :=
  mcall_of (base_of hb) fun ov => mcall_line hf hl
theorem form_args {env : Env} : ∀ {args : List Expr}, (args.all fun e => !isStar e) = true → (backTo pos (starEach args env)).all (!·.1) = true
  | [], _ => rfl
  | e :: es, h => by
    simp only [List.all_cons, Bool.and_eq_true, Bool.not_eq_true'] at h
    rw [star_of h.1]
    show (true && (backTo pos (starEach es env)).all (!·.1)) = true
    rw [form_args h.2]; rfl
theorem form_pos {env : Env} {args : List Expr} (h : (args.all fun e => !isStar e) = true) (hn : args.length < 20) : methodCallForm (args.length + ([] : List Keyword).length) (backTo pos (starEach args env)) (backToKw pos (keywordEach [] env)) = true := by
  unfold methodCallForm
  rw [form_args h]
  show (true && true && decide (args.length + 0 + 0 < 30)) = true
  rw [decide_eq_true (by omega)]; rfl
/-- the receiver and the arguments -/
theorem mcall_split {mo : Env' → Option (R × Env')} {σ : St} {H : Hp} {Q : List V → Hp → Prop} (w : tRB K ct (consR mo ms) σ H Q) :
    tV K ct mo σ H fun v H1 => tRB K ct ms σ H1 fun vs H2 => Q (v :: vs) H2 := by
  obtain ⟨z, F, env, rel, r, env', eq, k⟩ := w
  unfold consR at eq
  cases q : mo env with
  | none => rw [q] at eq; cases eq
  | some p =>
    obtain ⟨r0, env1⟩ := p
    rw [q] at eq
    simp only at eq
    cases q3 : ms env1 with
    | none => rw [q3] at eq; cases eq
    | some p3 =>
      obtain ⟨rs, env2⟩ := p3
      rw [q3] at eq
      cases eq
      have S0 := rel.start
      refine ⟨here z.L z.W F H σ env, F, env, S0, r0, env1, q, fun v F1 H1 e1 R1 p1 => ?_⟩
      have RZ1 := rel.outer R1
      have S1 := RZ1.start
      refine ⟨_, F1, env1, S1, rs, _, q3, fun vs F2 H2 e2 R2 rb hn => ?_⟩
      have RZ2 := RZ1.outer R2
      have p1z : Res K ct z F1 H1 σ env1 v r0 := by
        cases r0 with
        | dt d => exact p1
        | sl i => exact p1
        | nw d =>
          obtain ⟨a, g1, g2, g3, g4, g5⟩ := p1
          exact ⟨a, g1, g2, g3, g4, rel.noZ g5⟩
      have pl := p1z.later R2 e2
      have za : ∀ a, (here z.L z.W F1 H1 σ env1).H a = none → z.H a = none := fun a ha => RZ1.noZ ha
      have th : ∀ a, H a ≠ none → H1 a ≠ none := fun a ha => R1.n.th a ha
      refine k (v :: vs) F2 H2 (e1.trans e2) RZ2 ⟨.cons pl (rb.all.zz za), ?_, ?_⟩ ?_
      · cases r0 with
        | nw d =>
          obtain ⟨a, rfl, g2, g3, g4, g5⟩ := p1
          obtain ⟨o, ho⟩ := g3.obj
          show (a :: tmps vs rs).Nodup
          refine List.nodup_cons.mpr ⟨fun hm => ?_, rb.nd⟩
          have := hn a hm
          rw [ho] at this; cases this
        | dt d => cases v <;> exact rb.nd
        | sl i => cases v <;> exact rb.nd
      · cases r0 with
        | nw d =>
          obtain ⟨a, rfl, g2, g3, g4, g5⟩ := p1
          obtain ⟨o, ho⟩ := g3.obj
          intro a' ha'
          rcases List.mem_cons.mp (show a' ∈ a :: tmps vs rs from ha') with e' | e'
          · subst e'; exact R2.n.th a' (by show H1 a' ≠ none; rw [ho]; simp)
          · exact rb.fr a' e'
        | dt d => cases v <;> exact rb.fr
        | sl i => cases v <;> exact rb.fr
      · have old : ∀ a ∈ tmps vs rs, H a = none := fun a ha => by
          cases qa : H a with
          | none => rfl
          | some o => exact (th a (by rw [qa]; simp) (hn a ha)).elim
        cases r0 with
        | nw d =>
          obtain ⟨a, rfl, g2, g3, g4, g5⟩ := p1
          intro a' ha'
          rcases List.mem_cons.mp (show a' ∈ a :: tmps vs rs from ha') with e' | e'
          · subst e'; exact g5
          · exact old a' e'
        | dt d => cases v <;> exact old
        | sl i => cases v <;> exact old
end
end VI
namespace VI
open PySem L2
section
variable {X : Cx} {K : PySem.W.Frag} {ct : Nat → Addr} {e o : Expr} {es : List Expr} {pos p apos : Pos} {k : Nat} {f : Addr} {fd : FuncData} {ps : List Str} {cf : List Sl → Option (R × List Sl)} {mt : List Bool} {ms : Env' → Option (List R × Env')} {m mo : Env' → Option (R × Env')} {x mm : Str} {c : Nat}
theorem t_ins {σ : St} {H : Hp} {Q : VK} (w : tV K ct (insM c mm mo) σ H Q) : tV K ct mo σ H fun v H1 => ∃ a dx fs, v = .ref a ∧ H1 a = some (.ins (ct c) dx fs) ∧ fs.lookup mm = none ∧ Q v H1 := by
  obtain ⟨z, F, env, rel, r, env', eq, k⟩ := w
  unfold insM at eq
  cases q : mo env with
  | none => rw [q] at eq; cases eq
  | some p =>
    obtain ⟨r0, env1⟩ := p
    rw [q] at eq
    simp only at eq
    split at eq
    · rename_i c' fs o1
      split at eq
      · rename_i hc
        cases eq
        refine ⟨z, F, env, rel, _, _, q, fun v F1 H1 e1 R1 p1 => ?_⟩
        obtain ⟨a, dx, vs, rfl, h1, rf⟩ := (OpAt.of R1 p1 o1).ins R1.r.sub
        rw [hc.1] at h1
        exact ⟨a, dx, vs, rfl, h1, rf.lookN hc.2, k _ F1 H1 e1 R1 p1⟩
      · cases eq
    · cases eq
theorem pe_methV (ho : PE X o (tV X.K ct mo)) (hcl : Cls X.K (ct c)) (hmt : Meth X.K (ct c) mm f) (F : FnG X.prog X.w X.K X.mg X.base k f fd ps (spF X.K ct cf ps.length)) (hr : Room k X.A) (hgd : X.A.guards = some []) (hb : Binds X.K fd ps [])
    (hl : ∀ ss r ss', cf ss = some (r, ss') → ss.length = ps.length) (ha : PA X (e :: es) (tRB X.K ct ms)) (hss : ((e :: es).all fun e => !isStar e) = true) (hn : (e :: es).length < 20) (hba : isNoArg o = false) (hli : (apos.endLine == pos.line) = true) :
    PE X (.Call (.Attribute o mm apos) (e :: es) [] pos) (tV X.K ct (callM cf mt (consR (insM c mm mo) ms))) := by
  constructor
  intro pins s σ H Q I h
  have hs2 : isStar e = false ∧ (es.all fun e => !isStar e) = true := by simpa using hss
  refine PySem.W.methodCall_KW (pl := plainOf o X.env) ?_ (meth_eq hba (form_pos hss hn) hli)
  refine thn (ho.run pins s σ H _ I (t_ins (mcall_split (callM_sp hl h)))) ?_
  rintro u s1 ⟨v, H1, I1, rv, a, dx, fs, rfl, e1, e2, q⟩
  obtain rfl : u = Value.ref a := rv
  refine getmeth_ok I1 e1 hcl hmt e2 ?_
  refine PySem.W.callWith_K (first := [.ref a]) (h₀ := X.base) I.ok.mod.kin hmt.kp ?_ (star_of hs2.1) (nostar_any hs2.2)
  exact thn (ha.run pos pins s1 σ H1 _ I1 q) fun us s2 ⟨vs, H2, I2, r, q2⟩ => ⟨I2.kIn, run_fnV (us := .ref a :: us) F hr hgd hb I2 (.cons (show RelV (V.ref a) (Value.ref a) from rfl) r) q2⟩
theorem pe_meth0V (ho : PE X o (tV X.K ct mo)) (hcl : Cls X.K (ct c)) (hmt : Meth X.K (ct c) mm f) (F : FnG X.prog X.w X.K X.mg X.base k f fd ps (spF X.K ct cf ps.length)) (hr : Room k X.A) (hgd : X.A.guards = some []) (hb : Binds X.K fd ps [])
    (hl : ∀ ss r ss', cf ss = some (r, ss') → ss.length = ps.length) (hba : isNoArg o = false) (hli : (apos.endLine == pos.line) = true) :
    PE X (.Call (.Attribute o mm apos) [] [] pos) (tV X.K ct (callM cf mt (consR (insM c mm mo) nilR))) := by
  constructor
  intro pins s σ H Q I h
  refine PySem.W.methodCall_KW (pl := plainOf o X.env) ?_ (meth_eq hba (form_pos rfl (by decide)) hli)
  refine thn (ho.run pins s σ H _ I (t_ins (mcall_split (callM_sp hl h)))) ?_
  rintro u s1 ⟨v, H1, I1, rv, a, dx, fs, rfl, e1, e2, q⟩
  obtain rfl : u = Value.ref a := rv
  refine getmeth_ok I1 e1 hcl hmt e2 ?_
  obtain ⟨z, F1, env, rel, rs, env1, qq, kk⟩ := q
  cases qq
  exact PySem.W.callWith_K0 (first := [.ref a]) I1.kIn hmt.kp (run_fnV (us := [.ref a]) F hr hgd hb I1 (.cons (show RelV (V.ref a) (Value.ref a) from rfl) .nil) (kk [] F1 H1 (Ex.refl F1) rel ⟨.nil, .nil, fun _ h => nomatch h⟩ fun _ h => nomatch h))
theorem pe_methKV {kws : List Keyword} {perm : List Nat} {mv : Env' → Option (List D × Env')} (ho : PE X o (tV X.K ct mo)) (hcl : Cls X.K (ct c)) (hmt : Meth X.K (ct c) mm f) (F : FnG X.prog X.w X.K X.mg X.base k f fd ps (spF X.K ct cf ps.length)) (hr : Room k X.A) (hgd : X.A.guards = some [])
    (hb : KwB X.K fd ps (kwNames kws) 1 perm) (hl : ∀ ss r ss', cf ss = some (r, ss') → ss.length = ps.length) (ha : PK X kws (tA X.K ct mv)) (hw : kwAll kws = true) (hn : ∀ env ds env', mv env = some (ds, env') → ds.length = (kwNames kws).length) (h20 : kws.length < 20) (hba : isNoArg o = false) (hli : (apos.endLine == pos.line) = true) :
    PE X (.Call (.Attribute o mm apos) [] kws pos) (tV X.K ct (callM cf mt (consR (insM c mm mo) (dataR (permM perm mv))))) := by
  constructor
  intro pins s σ H Q I h
  obtain ⟨k1, k2, k3, k4⟩ := kw_facts (env := X.env) (pos := pos) hw
  have hf : methodCallForm (([] : List Expr).length + kws.length) (backTo pos (starEach [] X.env)) (backToKw pos (keywordEach kws X.env)) = true := by
    unfold methodCallForm
    have k1' : (backToKw pos (keywordEach kws X.env)).all (fun x => x.1.isSome) = true := k1
    rw [k1']
    have hle : (if (backToKw pos (keywordEach kws X.env)).isEmpty = true then 0 else 1) ≤ 1 := by split <;> omega
    show (true && true && decide (0 + kws.length + (if (backToKw pos (keywordEach kws X.env)).isEmpty = true then 0 else 1) < 30)) = true
    rw [decide_eq_true (by omega)]; rfl
  refine PySem.W.methodCall_KW (pl := plainOf o X.env) ?_ (meth_eq hba hf hli)
  refine thn (ho.run pins s σ H _ I (t_ins (mcall_split (callM_sp hl h)))) ?_
  rintro u s1 ⟨v, H1, I1, rv, a, dx, fs, rfl, e1, e2, q⟩
  obtain rfl : u = Value.ref a := rv
  refine getmeth_ok I1 e1 hcl hmt e2 ?_
  refine PySem.W.callWith_KW0 (first := [.ref a]) (h₀ := X.base) I.ok.mod.kin hmt.kp k1 ?_ (by show (false || _) = false; rw [k2]; rfl)
  refine thn (ha.run pos pins s1 σ H1 _ I1 (kw_run (kws := kws) (ms0 := nilR) q)) ?_
  rintro ws s2 ⟨vs, H2, I2, rw', ys, g1, g3, env, ds, env', g5, g6⟩
  obtain ⟨us, g4⟩ := perm_some rw' g1
  refine ⟨I2.kIn, ?_⟩
  rw [k3]
  exact run_kwV (fs := [.ref a]) F hr hgd hb I2 rfl (by rw [← rw'.length, g6]; exact hn _ _ _ g5) g4 (.cons (show RelV (V.ref a) (Value.ref a) from rfl) (perm_vals rw' g1 g4)) g3
/-! ### making an instance -/
theorem lent_data : ∀ {ds : List D} {ss : List Sl} {env env' : Env'}, lentBack (ds.map .dt) ss env = some env' → env' = env
  | [], [], env, env', h => by simpa [lentBack] using h.symm
  | [], _ :: _, env, env', h => by simp [lentBack] at h
  | _ :: _, [], env, env', h => by simp [lentBack] at h
  | _ :: ds, _ :: ss, env, env', h => by
    simp only [List.map_cons, lentBack] at h
    exact lent_data h
theorem arg_data : ∀ {ds : List D} {env : Env'}, argSl env (ds.map .dt) (ds.map fun _ => false) = some (ds.map .va)
  | [], env => rfl
  | d :: ds, env => by
    show (match argSl env (ds.map .dt) (ds.map fun _ => false) with
      | some ss => some (Sl.va d :: ss)
      | none => none) = _
    rw [arg_data]; rfl
theorem slots_data : ∀ {ds : List D}, slotsOf (ds.map .dt) = []
  | [] => rfl
  | _ :: ds => slots_data (ds := ds)
theorem lent_some : ∀ {ds : List D} {ss : List Sl} {env : Env'}, ss.length = ds.length → ∃ env', lentBack (ds.map .dt) ss env = some env'
  | [], [], env, _ => ⟨env, rfl⟩
  | [], _ :: _, env, h => by simp at h
  | _ :: _, [], env, h => by simp at h
  | _ :: ds, _ :: ss, env, h => by
    simp only [List.map_cons, lentBack]
    exact lent_some (by simpa using h)
/-- what an __init__ is asked, and what comes back -/
def mkQ (K : PySem.W.Frag) (ct : Nat → Addr) (c : Nat) (cf : List Sl → Option (R × List Sl)) (n : Nat) (vs : List V) (H : Hp) (Q : VK) : Prop :=
  ∀ x dx, H x = none → H dx = none → dx ≠ x → spF K ct cf n (.ref x :: vs) (upd (upd H dx (.own x)) x (.ins (ct c) dx [])) fun v H2 => v = .non ∧ Q (.ref x) H2
theorem makeM_sp {σ : St} {H : Hp} {Q : VK} {n : Nat} {mv : Env' → Option (List D × Env')} (hl : ∀ ss r ss', cf ss = some (r, ss') → ss.length = n) (hle : ∀ ss r ss', cf ss = some (r, ss') → ss'.length = ss.length) (w : tV K ct (makeM c cf mv) σ H Q) :
    tA K ct mv σ H fun vs H1 => mkQ K ct c cf n vs H1 Q := by
  obtain ⟨z, F, env, rel, r, env', eq, k⟩ := w
  unfold makeM at eq
  cases q : mv env with
  | none => rw [q] at eq; cases eq
  | some p =>
    obtain ⟨ds, env1⟩ := p
    rw [q] at eq
    simp only at eq
    split at eq
    · rename_i d rest q3
      cases eq
      refine ⟨z, F, env, rel, ds, _, q, fun vs F1 H1 e1 R1 ra x dx nx ndx hne => ?_⟩
      have nF : F1 dx = none := noneF R1.r.sub ndx
      have nFx : F1 x = none := noneF R1.r.sub nx
      -- the dict is frozen at once, the instance is one's own
      have R2 := R1.heap (Ex.new (o := HO.own x) ndx)
      have R3 := R2.fz (a := dx) upd_same nF (R1.noFoot ndx) (.inl (R1.noZ ndx))
      have nx2 : (upd H1 dx (.own x)) x = none := by rw [upd_ne (Ne.symm hne)]; exact nx
      have R4 := R3.heap (Ex.new (o := HO.ins (ct c) dx []) nx2)
      have nFx2 : (upd F1 dx (.own x)) x = none := by rw [upd_ne (Ne.symm hne)]; exact nFx
      have own0 : OwnAt K ct (upd F1 dx (.own x)) (upd (upd H1 dx (.own x)) x (.ins (ct c) dx [])) x (.ins c []) := ⟨dx, [], upd_same, upd_same, .nil⟩
      have ra2 : RpA K ct (upd F1 dx (.own x)) vs ds := ra.mono (Ex.new nF)
      obtain ⟨rb0, tm0⟩ := dataRB (z := z) (H := upd (upd H1 dx (.own x)) x (.ins (ct c) dx [])) (σ := σ) (env := env') ra2
      have rb : ResB K ct z (upd F1 dx (.own x)) (upd (upd H1 dx (.own x)) x (.ins (ct c) dx [])) σ env' (.ref x :: vs) (.nw (.ins c []) :: ds.map .dt) := by
        refine ⟨.cons ⟨x, rfl, nFx2, own0, R1.noFoot nx, R1.noZ nx⟩ rb0.all, ?_, ?_⟩
        · show (x :: tmps vs (ds.map .dt)).Nodup
          rw [tm0]; simp
        · show ∀ a ∈ x :: tmps vs (ds.map .dt), _
          rw [tm0]
          intro a ha
          have : a = x := by simpa using ha
          subst this
          rw [upd_same]; simp
      have nd : (slotsOf (R.nw (.ins c []) :: ds.map .dt)).Nodup := by
        show (slotsOf (ds.map R.dt)).Nodup
        rw [slots_data]; exact .nil
      have ea : argSl env' (R.nw (.ins c []) :: ds.map .dt) (true :: ds.map fun _ => false) = some (.ow true (.ins c []) :: ds.map .va) := by
        show (match argSl env' (ds.map .dt) (ds.map fun _ => false) with
          | some ss => some (Sl.ow true (.ins c []) :: ss)
          | none => none) = _
        rw [arg_data]
      have hlen := hl _ _ _ q3
      have hlen2 := hle _ _ _ q3
      refine ⟨?_, _, _, call_start R4 rb nd ea, args_lent R4 rb ea, _, _, q3, fun v F5 H5 R5 res => ?_⟩
      · rw [← hlen, List.length_cons, List.length_cons, List.length_map, ra.length]
      · obtain ⟨env2, hb⟩ := lent_some (ds := ds) (ss := rest) (env := env') (by simpa using hlen2)
        have eb : lentBack (R.nw (.ins c []) :: ds.map .dt) (.ow true d :: rest) env' = some env2 := hb
        obtain ⟨ex, R6, res6⟩ := call_end R4 rb nd ea R5 res (fun _ q => nomatch q) eb
        rw [lent_data hb] at R6 res6
        cases res6
        refine ⟨rfl, k (.ref x) F5 H5 ((e1.trans (Ex.new nF)).trans ex) R6 ?_⟩
        obtain ⟨a, f1, f2, f3⟩ := R5.r.ow 0 true d rfl
        have : a = x := by
          have := of_map_some f1
          simpa using this.symm
        subst this
        refine ⟨a, rfl, f2, f3, fun ft => ?_, R1.noZ nx⟩
        exact R1.noFoot nx ft
    · cases eq
theorem make_guards {A : Around} {C : Addr} {us : List Value} {kw : List (Str × Value)} (h : A.guards = some []) : (A.under (.builtin "type.__call__" ⟨.ref C :: us, kw⟩)).guards = some [] := by
  have e : (Code.builtin "type.__call__" ⟨.ref C :: us, kw⟩).guards = [] := by
    unfold Code.guards
    rw [if_neg]
    simp [Code.isGuard, guardIds]
  simp only [Around.under, e, h]
  rfl
theorem run_makeV {pins : List (Addr × Obj)} {σ : St} {H : Hp} {s : Shared} {Q : VK} {us zs : List Value} {kw : List (Str × Value)} {ys : List V} {C : Addr} {sp : List V → Hp → VK → Prop} (M : Mk X.K C f) (F : FnG X.prog X.w X.K X.mg X.base k f fd ps sp) (hr : Room (k + 1) X.A) (hgd : X.A.guards = some [])
    (I : L2.Inv X pins σ H s) (hb : ∀ (s' : Shared) (x : Value), X.K.In s'.heap → BindsTo s' fd ⟨x :: us, kw⟩ (ps.zip (x :: zs))) (r : Vals ys zs)
    (h : ∀ x dx, H x = none → H dx = none → dx ≠ x → sp (.ref x :: ys) (upd (upd H dx (.own x)) x (.ins C dx [])) fun v H2 => v = .non ∧ Q (.ref x) H2) :
    wpAny (model X.prog X.w) X.A (call (.ref C) us kw) (EP X pins σ Q) X.xe s := by
  have hq := h (s.heap.objs.size + 1) s.heap.objs.size (I.hok.fresh (Nat.le_succ _)) (I.hok.fresh (Nat.le_refl _)) (Nat.ne_of_lt (Nat.lt_succ_self _))
  have I2 := L2.Inv.made (C := C) I
  have r2 : Vals (V.ref (s.heap.objs.size + 1) :: ys) (Value.ref (s.heap.objs.size + 1) :: zs) := .cons (show RelV (V.ref _) (Value.ref _) from rfl) r
  refine wpAny_call (make_map (f := f) I.kIn M.makes M.init (beq_iff_eq.mp M.fn) ?_)
  refine codeAny_mono (F.run _ X.stack _ _ ⟨Value.ref (s.heap.objs.size + 1) :: us, kw⟩ _ _ _ (hr.make C us kw) (make_guards hgd) (I2.env0.make C us kw) (hb _ _ I2.kIn) r2 hq) ?_
  intro rr s' hq'
  cases rr with
  | error e => exact False.elim hq'
  | ok fl =>
    cases fl with
    | ret u =>
      obtain ⟨v, H', I3, rv, ev, q3⟩ := I2.after hq'
      subst ev
      exact ⟨rv, ⟨V.ref (s.heap.objs.size + 1), H', I3, rfl, q3⟩⟩
    | next => exact False.elim hq'
    | brk => exact False.elim hq'
    | cont => exact False.elim hq'
theorem pe_makeV {mv : Env' → Option (List D × Env')} (M : Mk X.K (ct c) f) (F : FnG X.prog X.w X.K X.mg X.base k f fd ps (spF X.K ct cf ps.length)) (hr : Room (k + 1) X.A) (hgd : X.A.guards = some []) (hg : Gl X x) (hm : X.mg x = some (.ref (ct c))) (hb : Binds X.K fd ps [])
    (hl : ∀ ss r ss', cf ss = some (r, ss') → ss.length = ps.length) (hle : ∀ ss r ss', cf ss = some (r, ss') → ss'.length = ss.length) (ha : PA X (e :: es) (tA X.K ct mv)) (hd : (x == ("__debug__" : Str)) = false) (hs : isStar e = false) (hss : (es.all fun e => !isStar e) = true) :
    PE X (.Call (.Name x p) (e :: es) [] pos) (tV X.K ct (makeM c cf mv)) := by
  constructor
  intro pins s σ H Q I h
  refine wpAny_Call_Name_kw (ld_glob I hg hm ?_ hd)
  refine PySem.W.callWith_K (h₀ := X.base) I.ok.mod.kin M.kp ?_ (star_of hs) (nostar_any hss)
  refine thn (ha.run pos pins s σ H _ I (makeM_sp hl hle h)) ?_
  rintro us s1 ⟨vs, H1, I1, r, q⟩
  refine ⟨I1.kIn, run_makeV M F hr hgd I1 (fun s' x hx => ?_) r q⟩
  have q0 := q (s1.heap.objs.size + 1) s1.heap.objs.size (I1.hok.fresh (Nat.le_succ _)) (I1.hok.fresh (Nat.le_refl _)) (Nat.ne_of_lt (Nat.lt_succ_self _))
  have hl' : ((x :: us) ++ []).length = ps.length := by
    have := q0.1
    rw [List.append_nil, ← this, List.length_cons, List.length_cons, r.length]
  have := hb s' (x :: us) hx hl'
  rw [List.append_nil] at this
  exact this
theorem pe_makeKV {kws : List Keyword} {perm : List Nat} {mv : Env' → Option (List D × Env')} (M : Mk X.K (ct c) f) (F : FnG X.prog X.w X.K X.mg X.base k f fd ps (spF X.K ct cf ps.length)) (hr : Room (k + 1) X.A) (hgd : X.A.guards = some []) (hg : Gl X x) (hm : X.mg x = some (.ref (ct c)))
    (hb : KwB X.K fd ps (kwNames kws) 1 perm) (hl : ∀ ss r ss', cf ss = some (r, ss') → ss.length = ps.length) (hle : ∀ ss r ss', cf ss = some (r, ss') → ss'.length = ss.length) (ha : PK X kws (tA X.K ct mv)) (hd : (x == ("__debug__" : Str)) = false) (hw : kwAll kws = true)
    (hn : ∀ env ds env', mv env = some (ds, env') → ds.length = (kwNames kws).length) :
    PE X (.Call (.Name x p) [] kws pos) (tV X.K ct (makeM c cf (permM perm mv))) := by
  constructor
  intro pins s σ H Q I h
  obtain ⟨k1, k2, k3, k4⟩ := kw_facts (env := X.env) (pos := pos) hw
  refine wpAny_Call_Name_kw (ld_glob I hg hm ?_ hd)
  refine PySem.W.callWith_KW0 (h₀ := X.base) I.ok.mod.kin M.kp k1 ?_ (by show (false || _) = false; rw [k2]; rfl)
  have w := makeM_sp hl hle h
  have w2 : tA X.K ct mv σ H fun vs H2 => ∃ ys, perm.mapM (fun i => vs[i]?) = some ys ∧ mkQ X.K ct c cf ps.length ys H2 Q ∧ ∃ env ds env', mv env = some (ds, env') ∧ vs.length = ds.length := by
    obtain ⟨z, F1, env, rel, rs, env1, q, kk⟩ := w
    unfold permM at q
    cases q1 : mv env with
    | none => rw [q1] at q; cases q
    | some pq =>
      obtain ⟨ds, env2⟩ := pq
      rw [q1] at q
      simp only at q
      cases q2 : permute perm ds with
      | none => rw [q2] at q; cases q
      | some es' =>
        rw [q2] at q
        cases q
        refine ⟨z, F1, env, rel, ds, _, q1, fun vs F2 H2 e2 R2 ra => ?_⟩
        obtain ⟨ys, g1, g2⟩ := perm_rp ra q2
        exact ⟨ys, g1, kk ys F2 H2 e2 R2 g2, env, ds, _, q1, ra.length⟩
  refine thn (ha.run pos pins s σ H _ I w2) ?_
  rintro ws s1 ⟨vs, H2, I2, rw', ys, g1, g3, env, ds, env', g5, g6⟩
  obtain ⟨us, g4⟩ := perm_some rw' g1
  refine ⟨I2.kIn, ?_⟩
  rw [k3]
  have hwl : ws.length = (kwNames kws).length := by rw [← rw'.length, g6]; exact hn _ _ _ g5
  exact run_makeV (us := []) M F hr hgd I2 (fun s' x hx => hb s' [x] ws us hx rfl hwl g4) (perm_vals rw' g1 g4) g3
end
end VI
namespace VI
open PySem L2
/-! ### targets -/
def SameOff (is : List Nat) (σ σ' : St) : Prop := σ'.length = σ.length ∧ ∀ j, j ∉ is → σ'[j]? = σ[j]?
def tgIx : Tg → List Nat
  | .nm i => [i]
  | .tu is => is
/-- an item: data, or a tuple that is only taken apart -/
def RpI (K : PySem.W.Frag) (ct : Nat → Addr) (b : Bool) (F : Hp) (v : V) (d : D) : Prop := Rp K ct F v d ∨ (b = true ∧ ∃ a xs ds, v = .ref a ∧ d = .tup ds ∧ SqT K F a xs ∧ RpA K ct F xs ds)
theorem RpI.mono {K : PySem.W.Frag} {ct : Nat → Addr} {b : Bool} {F G : Hp} {v : V} {d : D} (e : Ex F G) (h : RpI K ct b F v d) : RpI K ct b G v d := by
  rcases h with h | ⟨hb, a, xs, ds, h1, h2, h3, h4⟩
  · exact .inl (h.mono e)
  · exact .inr ⟨hb, a, xs, ds, h1, h2, e.sqT h3, h4.mono e⟩
def isTu : Tg → Bool
  | .nm _ => false
  | .tu _ => true
section
variable {X : Cx} {K : PySem.W.Frag} {ct : Nat → Addr}
def gD (K : PySem.W.Frag) (ct : Nat → Addr) (t : Tg) : TG := fun v σ H Q => ∃ z F env d env', RelB K ct z F H σ env ∧ RpI K ct (isTu t) F v d ∧ putTg t d env = some env' ∧ ∀ σ', SameOff (tgIx t) σ σ' → RelB K ct z F H σ' env' → Q σ' H
def gDs (K : PySem.W.Frag) (ct : Nat → Addr) (is : List Nat) : TGs := fun vs σ H Q => ∃ z F env ds env', RelB K ct z F H σ env ∧ RpA K ct F vs ds ∧ putAll is ds env = some env' ∧ ∀ σ', SameOff is σ σ' → RelB K ct z F H σ' env' → Q σ' H
theorem _root_.L2.PG.vimp {e : Expr} {t t' : TG} (h : PG X e t) (q : ∀ v σ H Q, t' v σ H Q → t v σ H Q) : PG X e t' := ⟨fun pins s σ H v u Q I r w => h.run pins s σ H v u Q I r (q v σ H Q w)⟩
theorem _root_.L2.PGs.vimp {e : List Expr} {t t' : TGs} (h : PGs X e t) (q : ∀ v σ H Q, t' v σ H Q → t v σ H Q) : PGs X e t' := ⟨fun pins s σ H v u Q I r w => h.run pins s σ H v u Q I r (q v σ H Q w)⟩
theorem same_set {σ : St} {i : Nat} {x : Option V} : SameOff [i] σ (σ.set i x) := ⟨List.length_set .., fun j hj => set_ne fun e => hj (by simp [e])⟩
theorem putSl_va {z : Fm} {F H : Hp} {σ : St} {env env' : Env'} {i : Nat} {v : V} {d : D} (R0 : RelB K ct z F H σ env) (h : Rp K ct F v d) (e : putSl i (.dt d) env = some env') : RelB K ct z F H (σ.set i (some v)) env' := by
  unfold putSl at e
  split at e
  · rename_i hf
    cases e
    exact R0.putVa hf h
  · cases e
theorem pg_nmV {i : Nat} {x : Str} {pos : Pos} (hN : X.N.Nodup) (hi : X.N[i]? = some x) (hx : Loc X.env.scope x) (hf : X.fn x = true ∨ X.env.scope.names.lookup x = some .local) : PG X (.Name x pos) (gD X.K ct (.nm i)) := by
  refine (pg_name hN hi hx hf).vimp fun v σ H Q ⟨z, F, env, d, env', rel, rp, eq, k⟩ => ?_
  rcases rp with rp | ⟨hb, _⟩
  · exact k _ same_set (putSl_va rel rp eq)
  · cases hb
theorem pgs_nilV : PGs X [] (gDs X.K ct []) := by
  refine pgs_nil.vimp fun vs σ H Q ⟨z, F, env, ds, env', rel, rp, eq, k⟩ => ?_
  cases rp with
  | nil => cases eq; exact ⟨rfl, k σ ⟨rfl, fun _ _ => rfl⟩ rel⟩
  | cons _ _ => cases eq
theorem pgs_consV {e : Expr} {es : List Expr} {i : Nat} {is : List Nat} (h1 : PG X e (gD X.K ct (.nm i))) (h2 : PGs X es (gDs X.K ct is))
    (hs : (assignEach (e :: es) X.env).map (·.2) = assign e X.env :: (assignEach es X.env).map (·.2)) : PGs X (e :: es) (gDs X.K ct (i :: is)) := by
  refine (pgs_cons h1 h2 hs).vimp fun vs σ H Q ⟨z, F, env, ds, env', rel, rp, eq, k⟩ => ?_
  cases rp with
  | nil => cases eq
  | @cons v vs d ds h r =>
    unfold putAll at eq
    cases q : putSl i (.dt d) env with
    | none => rw [q] at eq; cases eq
    | some env1 =>
      rw [q] at eq
      refine ⟨v, vs, rfl, z, F, env, d, env1, rel, .inl h, q, fun σ1 s1 R1 => ⟨z, F, env1, ds, env', R1, r, eq, fun σ2 s2 R2 => k σ2 ⟨s2.1.trans s1.1, fun j hj => ?_⟩ R2⟩⟩
      rw [s2.2 j (fun w => hj (List.mem_cons_of_mem _ w)), s1.2 j (fun w => hj (by have : j = i := by simpa [tgIx] using w
                                                                                   simp [this]))]
theorem pg_tuV {es : List Expr} {k : Nat} {is : List Nat} {pos : Pos} (hc : X.calm = true) (h : PGs X es (gDs X.K ct is)) (hn : (assignEach es X.env).length = is.length) (hst : (assignEach es X.env).findIdx? (·.1) = none) : PG X (.Tuple es k pos) (gD X.K ct (.tu is)) := by
  refine (pg_tup hc h hn hst).vimp fun v σ H Q ⟨z, F, env, d, env', rel, rp, eq, k⟩ => ?_
  cases d with
  | tup ds =>
    have rq : ∃ a xs, v = .ref a ∧ SqT X.K F a xs ∧ RpA X.K ct F xs ds := by
      rcases rp with rp | ⟨_, a, xs, ds', h1, h2, h3, h4⟩
      · cases rp with
        | tup hq r => exact ⟨_, _, rfl, hq.sq, r⟩
      · cases h2; exact ⟨a, xs, h1, h3, h4⟩
    obtain ⟨a, xs, rfl, hq, r⟩ := rq
    · have hl : ds.length = is.length := by
        have : ∀ (is : List Nat) (ds : List D) (env env' : Env'), putAll is ds env = some env' → ds.length = is.length := by
          intro is
          induction is with
          | nil => intro ds env env' e; cases ds with
            | nil => rfl
            | cons _ _ => cases e
          | cons i is ih => intro ds env env' e; cases ds with
            | nil => cases e
            | cons d ds =>
              unfold putAll at e
              cases q : putSl i (.dt d) env with
              | none => rw [q] at e; cases e
              | some env1 => rw [q] at e; exact congrArg (· + 1) (ih ds env1 env' e)
        exact this is ds env env' eq
      exact ⟨a, xs, rfl, rel.r.sub.sqT hq, by rw [r.length, hl], z, F, env, ds, env', rel, r, eq, k⟩
  | _ => cases eq
/-! ### what is walked -/
def Yl (K : PySem.W.Frag) (ct : Nat → Addr) (b : Bool) (F : Hp) (xs : List D) : Nat → Hp → V → Hp → Prop := fun i H v H' => ∃ d, xs[i]? = some d ∧
  ((H' = H ∧ Rp K ct F v d) ∨ ∃ T o, H T = none ∧ H' = upd H T o ∧ ∀ F2, Ex F F2 → F2 T = none → RpI K ct b (upd F2 T o) v d)
def tI (K : PySem.W.Frag) (ct : Nat → Addr) (b : Bool) (m : Env' → Option (List D × Env')) : TI := fun σ H R => ∃ z F env, RelB K ct z F H σ env ∧ ∃ xs env', m env = some (xs, env') ∧
  ∀ J F' H', Ex F F' → RelB K ct z F' H' σ env' → Walk J xs.length (Ex F') (Yl K ct b F' xs) → R J H'
/-- the item that a walk gives, frozen -/
theorem RelB.item {z : Fm} {F F' H H' : Hp} {σ : St} {env : Env'} {xs : List D} {i : Nat} {v : V} {b : Bool} (R0 : RelB K ct z F' H σ env) (e : Ex F F') (y : Yl K ct b F xs i H v H') : ∃ d F2, xs[i]? = some d ∧ Ex F' F2 ∧ RelB K ct z F2 H' σ env ∧ RpI K ct b F2 v d ∧ Ex H H' ∧ ∀ a, H a ≠ none → F2 a = F' a := by
  obtain ⟨d, hd, ⟨rfl, rp⟩ | ⟨T, o, hT, rfl, k⟩⟩ := y
  · exact ⟨d, F', hd, Ex.refl _, R0, .inl (rp.mono e), Ex.refl _, fun _ _ => rfl⟩
  · have nF : F' T = none := noneF R0.r.sub hT
    have R1 : RelB K ct z F' (upd H T o) σ env := R0.heap (Ex.new hT)
    have nf : ¬ foot σ env T := R0.noFoot hT
    exact ⟨d, upd F' T o, hd, Ex.new nF, R1.fz upd_same nF nf (.inl (R0.noZ hT)), k F' e nF, Ex.new hT, fun a ha => upd_ne fun q => ha (q ▸ hT)⟩
theorem walk_lstV {F : Hp} {a : Addr} {xs : List V} {ds : List D} (h : SqL K F a xs) (r : RpA K ct F xs ds) : Walk (Itl K a) ds.length (Ex F) (Yl K ct false F ds) := by
  rw [← r.length]
  refine walk_list.mono (fun H e => e.sqL h) fun i H x H' hi _ ⟨e, q⟩ => ?_
  obtain ⟨d, hd, rp⟩ := r.get' q
  exact ⟨d, hd, .inl ⟨e, rp⟩⟩
theorem walk_tupV {F : Hp} {a : Addr} {xs : List V} {ds : List D} (h : TpT F a xs) (r : RpA K ct F xs ds) : Walk (Itt K a) ds.length (Ex F) (Yl K ct false F ds) := by
  rw [← r.length]
  refine walk_tup.mono (fun H e => (e.tpT h).sq) fun i H x H' hi _ ⟨e, q⟩ => ?_
  obtain ⟨d, hd, rp⟩ := r.get' q
  exact ⟨d, hd, .inl ⟨e, rp⟩⟩
theorem walk_strV {F : Hp} {z : Str} : Walk (Its z) (z.cps.toList.map fun c => D.str ⟨#[c]⟩).length (Ex F) (Yl K ct false F (z.cps.toList.map fun c => D.str ⟨#[c]⟩)) := by
  rw [List.length_map, Array.length_toList]
  refine walk_str.mono (fun _ _ => trivial) fun i H x H' hi _ ⟨e, c, q, hv⟩ => ?_
  subst hv
  refine ⟨.str ⟨#[c]⟩, ?_, .inl ⟨e, .str _⟩⟩
  rw [List.getElem?_map, Array.getElem?_toList, q] <;> rfl
theorem walk_rngV {F : Hp} {lo : Int} {n : Nat} : Walk (Itr lo n) ((List.range n).map fun (k : Nat) => D.int (lo + (k : Int))).length (Ex F) (Yl K ct false F ((List.range n).map fun (k : Nat) => D.int (lo + (k : Int)))) := by
  rw [List.length_map, List.length_range]
  refine walk_range.mono (fun _ _ => trivial) fun i H x H' hi _ ⟨e, hv⟩ => ?_
  subst hv
  refine ⟨.int (lo + i), ?_, .inl ⟨e, .int _⟩⟩
  rw [List.getElem?_map, List.getElem?_range hi] <;> rfl
theorem pi_seqV {tg e : Expr} {m : Env' → Option (R × Env')} (h : PE X e (tV X.K ct m)) : PI X tg e (tI X.K ct false (seqM m)) := by
  refine ⟨fun pins s σ H R I w => ?_⟩
  obtain ⟨z, F, env, rel, xs, env', eq, k⟩ := w
  unfold seqM at eq
  split at eq
  · rename_i d env1 q
    cases d with
    | tup l =>
      cases eq
      refine (pi_tup h.vfrz).run pins s σ H R I ⟨z, F, env, rel, _, _, q, fun v F' H' ex rl rp => ?_⟩
      cases rp with
      | tup hq r => exact ⟨_, rfl, ⟨_, (rl.r.sub.tpT hq).sq⟩, k _ F' H' ex rl (walk_tupV hq r)⟩
    | lst l =>
      cases eq
      refine (pi_list h.vfrz).run pins s σ H R I ⟨z, F, env, rel, _, _, q, fun v F' H' ex rl rp => ?_⟩
      cases rp with
      | lst hq r => exact ⟨_, rfl, ⟨_, SqL.of (rl.r.sub _ _ hq)⟩, k _ F' H' ex rl (walk_lstV (SqL.of hq) r)⟩
    | scr l =>
      cases eq
      refine (pi_list h.vfrz).run pins s σ H R I ⟨z, F, env, rel, _, _, q, fun v F' H' ex rl rp => ?_⟩
      cases rp with
      | scr hq => exact ⟨_, rfl, ⟨_, rl.r.sub.sqL hq⟩, k _ F' H' ex rl (walk_lstV hq (RpA.ofInts l))⟩
    | str y =>
      cases eq
      refine (pi_str h.vfrz).run pins s σ H R I ⟨z, F, env, rel, _, _, q, fun v F' H' ex rl rp => ?_⟩
      cases rp with
      | str _ => exact ⟨_, rfl, k _ F' H' ex rl walk_strV⟩
    | _ => cases eq
  · cases eq
theorem pi_rng1V {tg a : Expr} {m : Env' → Option (R × Env')} {p pos : Pos} (hg : Gl X "range") (hm : X.mg "range" = none) (h : PE X a (tV X.K ct m)) (hs : isStar a = false) : PI X tg (.Call (.Name "range" p) [a] [] pos) (tI X.K ct false (rng1M m)) := by
  refine ⟨fun pins s σ H R I w => ?_⟩
  obtain ⟨z, F, env, rel, xs, env', eq, k⟩ := w
  unfold rng1M at eq
  split at eq
  · rename_i n env1 q
    split at eq
    · rename_i hz
      cases eq
      refine (pi_range1 (tg := tg) hg hm (pa_consV h pa_nilV (star_of hs)) (star_of hs)).run pins s σ H R I ⟨z, F, env, rel, [.int n], env', ?_, fun vs F' H' ex rl rp => ?_⟩
      · unfold consV; rw [q]; rfl
      · cases rp with
        | cons h0 r0 =>
          cases r0
          cases h0
          exact ⟨n, rfl, hz.1, hz.2, k _ F' H' ex rl walk_rngV⟩
    · cases eq
  · cases eq
theorem pi_rng2V {tg a b : Expr} {m m' : Env' → Option (R × Env')} {p pos : Pos} (hg : Gl X "range") (hm : X.mg "range" = none) (h : PE X a (tV X.K ct m)) (h' : PE X b (tV X.K ct m')) (hs : isStar a = false) (hs' : isStar b = false) : PI X tg (.Call (.Name "range" p) [a, b] [] pos) (tI X.K ct false (rng2M m m')) := by
  refine ⟨fun pins s σ H R I w => ?_⟩
  obtain ⟨z, F, env, rel, xs, env', eq, k⟩ := w
  unfold rng2M at eq
  split at eq
  · rename_i lo env1 q
    split at eq
    · rename_i hi env2 q2
      split at eq
      · rename_i hz
        cases eq
        refine (pi_range2 (tg := tg) hg hm (pa_consV h (pa_consV h' pa_nilV (star_of hs')) (star_of hs)) (by rw [star_of hs, star_of hs'] <;> rfl) (star_of hs')).run pins s σ H R I ⟨z, F, env, rel, [.int lo, .int hi], env', ?_, fun vs F' H' ex rl rp => ?_⟩
        · unfold consV; rw [q]; simp only [frz]; rw [q2] <;> rfl
        · cases rp with
          | cons h0 r0 =>
            cases r0 with
            | cons h1 r1 =>
              cases r1
              cases h0
              cases h1
              exact ⟨lo, hi, rfl, hz, k _ F' H' ex rl walk_rngV⟩
      · cases eq
    · cases eq
  · cases eq
end
end VI
namespace VI
open PySem L2
section
variable {X : Cx} {K : PySem.W.Frag} {ct : Nat → Addr} {z : Fm} {F H : Hp} {σ : St} {env : Env'}
/-- the heap changes beside all that is tracked -/
theorem RelB.side {H' : Hp} {a : Addr} {o : HO} (R0 : RelB K ct z F H σ env) (kp : ∀ c, c ≠ a → H' c = H c) (ha : H' a = some o) (hF : F a = none) (nf : ¬ foot σ env a) (hz : z.H a = none) : RelB K ct z F H' σ env := by
  have zne : ∀ c, z.H c ≠ none → c ≠ a := fun c h e => by subst e; exact h hz
  refine ⟨⟨fun c o e => by rw [kp c (ne_of_none e hF)]; exact R0.r.sub c o e, R0.r.len, R0.r.va, fun i b d q => ?_, R0.r.dj⟩, ⟨R0.n.ex, fun c o h1 h2 => ?_, R0.n.nofz, fun c h1 => ?_, R0.n.fo, R0.n.lent, R0.n.tz, R0.n.own⟩⟩
  · obtain ⟨c, h1, h2, h3⟩ := R0.r.ow i b d q
    have hne : c ≠ a := fun e => nf ⟨i, b, d, q, e ▸ h1⟩
    exact ⟨c, h1, h2, h3.heap (kp c hne)⟩
  · rw [kp c (zne c (by rw [h1]; simp))]; exact R0.n.keep c o h1 h2
  · rw [kp c (zne c h1)]; exact R0.n.th c h1
theorem wipeE_length (env : Env') : ∀ vs : List Nat, (wipeE env vs).length = env.length
  | [] => rfl
  | v :: vs => by unfold wipeE; rw [List.length_set, wipeE_length env vs]
theorem wipeE_out {env : Env'} {i : Nat} : ∀ {vs : List Nat}, i ∉ vs → (wipeE env vs)[i]? = env[i]?
  | [], _ => rfl
  | v :: vs, h => by
    have h1 : v ≠ i := fun e => h (by rw [e]; exact List.mem_cons_self)
    unfold wipeE
    rw [List.getElem?_set_ne h1]
    exact wipeE_out fun m => h (List.mem_cons_of_mem _ m)
theorem wipeE_in {env : Env'} {i : Nat} {s : Sl} : ∀ {vs : List Nat}, i ∈ vs → (wipeE env vs)[i]? = some s → s = .no
  | [], h, _ => nomatch h
  | v :: vs, h, e => by
    unfold wipeE at e
    rcases set_at e with ⟨rfl, q⟩ | ⟨hne, q⟩
    · exact q.symm
    · rcases List.mem_cons.mp h with w | w
      · exact (hne w.symm).elim
      · exact wipeE_in w q
theorem wipe_in {σ : St} {i : Nat} {s : Option V} : ∀ {vs : List Nat}, i ∈ vs → (wipe σ vs)[i]? = some s → s = none
  | [], h, _ => nomatch h
  | v :: vs, h, e => by
    unfold wipe at e
    rcases set_at e with ⟨rfl, q⟩ | ⟨hne, q⟩
    · exact q.symm
    · rcases List.mem_cons.mp h with w | w
      · exact (hne w.symm).elim
      · exact wipe_in w q
theorem wipe_eq {σ σ' : St} {vs : List Nat} (hl : σ'.length = σ.length) (h : ∀ j, j ∉ vs → σ'[j]? = σ[j]?) : wipe σ' vs = wipe σ vs := by
  refine List.ext_getElem? fun i => ?_
  by_cases hi : i ∈ vs
  · have hw : ∀ (τ : St), i < τ.length → (wipe τ vs)[i]? = some none := fun τ ht => by
      have : i < (wipe τ vs).length := by rw [wipe_length]; exact ht
      have e : (wipe τ vs)[i]? = some (wipe τ vs)[i] := List.getElem?_eq_getElem this
      rw [e, wipe_in hi e]
    by_cases hlt : i < σ.length
    · rw [hw σ hlt, hw σ' (by rw [hl]; exact hlt)]
    · rw [List.getElem?_eq_none (by rw [wipe_length, hl]; omega), List.getElem?_eq_none (by rw [wipe_length]; omega)]
  · rw [wipe_out hi, wipe_out hi]; exact h i hi
theorem wipe_wipe {σ : St} {vs : List Nat} : wipe (wipe σ vs) vs = wipe σ vs := wipe_eq (wipe_length σ vs) fun j hj => wipe_out hj
theorem backE_length (old env : Env') : ∀ vs : List Nat, (backE old env vs).length = env.length
  | [] => rfl
  | v :: vs => by unfold backE; rw [List.length_set, backE_length old env vs]
theorem backE_out {old env : Env'} {i : Nat} : ∀ {vs : List Nat}, i ∉ vs → (backE old env vs)[i]? = env[i]?
  | [], _ => rfl
  | v :: vs, h => by
    have h1 : v ≠ i := fun e => h (by rw [e]; exact List.mem_cons_self)
    unfold backE
    rw [List.getElem?_set_ne h1]
    exact backE_out fun m => h (List.mem_cons_of_mem _ m)
theorem backE_in {old env : Env'} {i : Nat} {s : Sl} : ∀ {vs : List Nat}, i ∈ vs → (backE old env vs)[i]? = some s → s = old.getD i .no
  | [], h, _ => nomatch h
  | v :: vs, h, e => by
    unfold backE at e
    rcases set_at e with ⟨rfl, q⟩ | ⟨hne, q⟩
    · exact q.symm
    · rcases List.mem_cons.mp h with w | w
      · exact (hne w.symm).elim
      · exact backE_in w q
theorem foot_wipe {vs : List Nat} {a : Addr} (f : foot (wipe σ vs) (wipeE env vs) a) : foot σ env a := by
  obtain ⟨i, b, d, q, q'⟩ := f
  have hi : i ∉ vs := (wipe_some q').2
  rw [wipeE_out hi] at q
  exact ⟨i, b, d, q, (wipe_some q').1⟩
theorem RelB.wiped (R0 : RelB K ct z F H σ env) (vs : List Nat) : RelB K ct z F H (wipe σ vs) (wipeE env vs) := by
  have key : ∀ (i : Nat) (s : Sl), (wipeE env vs)[i]? = some s → s ≠ .no → i ∉ vs ∧ env[i]? = some s ∧ (wipe σ vs)[i]? = σ[i]? := fun i s h hn => by
    have hi : i ∉ vs := fun hm => hn (wipeE_in hm h)
    rw [wipeE_out hi] at h
    exact ⟨hi, h, wipe_out hi⟩
  refine ⟨⟨R0.r.sub, by rw [wipe_length, wipeE_length]; exact R0.r.len, fun i d q => ?_, fun i b d q => ?_, fun i j b b' d d' a q1 q2 q3 q4 => ?_⟩, ⟨R0.n.ex, R0.n.keep, R0.n.nofz, R0.n.th, fun a f => R0.n.fo a (foot_wipe f), fun i d q => ?_, R0.n.tz, fun i d a q q' => ?_⟩⟩
  · obtain ⟨_, h1, h2⟩ := key i _ q (by simp)
    rw [h2]; exact R0.r.va i d h1
  · obtain ⟨_, h1, h2⟩ := key i _ q (by simp)
    rw [h2]; exact R0.r.ow i b d h1
  · obtain ⟨_, h1, h2⟩ := key i _ q1 (by simp)
    obtain ⟨_, h3, h4⟩ := key j _ q2 (by simp)
    rw [h2] at q3; rw [h4] at q4
    exact R0.r.dj i j b b' d d' a h1 h3 q3 q4
  · obtain ⟨_, h1, h2⟩ := key i _ q (by simp)
    rw [h2]; exact R0.n.lent i d h1
  · obtain ⟨_, h1, h2⟩ := key i _ q (by simp)
    rw [h2] at q'; exact R0.n.own i d a h1 q'
theorem RelB.back {F1 H1 : Hp} {env1 : Env'} {vs : List Nat} (R0 : RelB K ct z F H (wipe σ vs) (wipeE env vs)) (R1 : RelB K ct z F1 H1 σ env1) (e : Ex F1 F) (hp : plainAt env1 vs = true) :
    RelB K ct z F H σ (backE env1 env vs) ∧ ∀ a, foot σ (backE env1 env vs) a → foot (wipe σ vs) (wipeE env vs) a := by
  have old : ∀ i s, i ∈ vs → (backE env1 env vs)[i]? = some s → s = .no ∨ ∃ d, s = .va d ∧ env1[i]? = some (.va d) := fun i s hi q => by
    have e1 := backE_in hi q
    have hp' := List.all_eq_true.mp hp i hi
    rw [List.getD_eq_getElem?_getD] at e1
    cases q1 : env1[i]? with
    | none => rw [q1] at e1; exact .inl e1
    | some s1 =>
      rw [q1] at e1 hp'
      have e1' : s = s1 := e1
      subst e1'
      cases s with
      | no => exact .inl rfl
      | va d => exact .inr ⟨d, rfl, rfl⟩
      | ow b d => cases hp'
  have key : ∀ i b d, (backE env1 env vs)[i]? = some (.ow b d) → i ∉ vs ∧ (wipeE env vs)[i]? = some (.ow b d) ∧ (wipe σ vs)[i]? = σ[i]? := fun i b d q => by
    have hi : i ∉ vs := fun hm => by
      rcases old i _ hm q with w | ⟨_, w, _⟩ <;> cases w
    rw [backE_out hi] at q
    exact ⟨hi, by rw [wipeE_out hi]; exact q, wipe_out hi⟩
  have ft : ∀ a, foot σ (backE env1 env vs) a → foot (wipe σ vs) (wipeE env vs) a := fun a ⟨i, b, d, q, q'⟩ => by
    obtain ⟨h1, h2, h3⟩ := key i b d q
    exact ⟨i, b, d, h2, by rw [h3]; exact q'⟩
  refine ⟨⟨⟨R0.r.sub, ?_, fun i d q => ?_, fun i b d q => ?_, fun i j b b' d d' a q1 q2 q3 q4 => ?_⟩, ⟨R0.n.ex, R0.n.keep, R0.n.nofz, R0.n.th, fun a f => R0.n.fo a (ft a f), fun i d q => ?_, R0.n.tz, fun i d a q q' => ?_⟩⟩, ft⟩
  · have := R0.r.len
    rw [wipe_length, wipeE_length] at this
    rw [backE_length]; exact this
  · by_cases hi : i ∈ vs
    · rcases old i _ hi q with w | ⟨d', w, q'⟩
      · cases w
      · cases w
        obtain ⟨v, h1, h2⟩ := R1.r.va i d q'
        exact ⟨v, h1, h2.mono e⟩
    · rw [backE_out hi] at q
      have := R0.r.va i d (by rw [wipeE_out hi]; exact q)
      rw [wipe_out hi] at this
      exact this
  · obtain ⟨h1, h2, h3⟩ := key i b d q
    rw [← h3]; exact R0.r.ow i b d h2
  · obtain ⟨h1, h2, h3⟩ := key i b d q1
    obtain ⟨g1, g2, g3⟩ := key j b' d' q2
    exact R0.r.dj i j b b' d d' a h2 g2 (h3.trans q3) (g3.trans q4)
  · obtain ⟨h1, h2, h3⟩ := key i true d q
    rw [← h3]; exact R0.n.lent i d h2
  · obtain ⟨h1, h2, h3⟩ := key i false d q
    exact R0.n.own i d a h2 (h3.trans q')
theorem RpI.up {b b' : Bool} {v : V} {d : D} (h : RpI K ct b F v d) (hb : b = true → b' = true) : RpI K ct b' F v d := by
  rcases h with h | ⟨e, h⟩
  · exact .inl h
  · exact .inr ⟨hb e, h⟩
/-! ### comprehensions -/
theorem t_lc {vs : List Nat} {t : Tg} {mi : Env' → Option (List D × Env')} {mc : Env' → Option (Bool × Env')} {me : Env' → Option (R × Env')} {Q : VK} {b0 : Bool} (hb : b0 = true → isTu t = true) (ht : ∀ j ∈ tgIx t, j ∈ vs) (w : tV K ct (lcM vs t mi mc me) σ H Q) :
    tLc (tI K ct b0 mi) (gD K ct t) (VI.tB K ct mc) (tV K ct (frzM me)) vs σ H Q := by
  obtain ⟨z, F, env, rel, r, env', eq, k⟩ := w
  unfold lcM at eq
  cases q : mi env with
  | none => rw [q] at eq; cases eq
  | some p =>
    obtain ⟨xs, env1⟩ := p
    rw [q] at eq
    simp only at eq
    split at eq
    · rename_i hp
      cases q2 : lcL t vs mc me xs [] env1 with
      | none => rw [q2] at eq; cases eq
      | some p2 =>
        obtain ⟨ds, env2⟩ := p2
        rw [q2] at eq
        cases eq
        refine ⟨z, F, env, rel, xs, env1, q, fun J F1 H1 ex1 R1 wk D hD => ?_⟩
        refine lc_it wk (Qd := fun H => Q (.ref D) H) (fun i Hc => ∃ Fc envc acc av, Ex F1 Fc ∧ RelB K ct z Fc Hc (wipe σ vs) (wipeE envc vs) ∧ lcL t vs mc me (xs.drop i) acc envc = some (ds, env2) ∧ Hc D = some (.lst av) ∧ RpA K ct Fc av acc ∧ Fc D = none ∧ ¬ foot (wipe σ vs) (wipeE envc vs) D ∧ z.H D = none) ?_ ?_ ?_ ?_
        · have nF := noneF R1.r.sub hD
          have R2 := (R1.heap (H' := upd H1 D (.lst [])) (Ex.new hD)).wiped vs
          exact ⟨F1, env1, [], [], Ex.refl _, R2, q2, upd_same, .nil, nF, fun f => R1.noFoot hD (foot_wipe f), R1.noZ hD⟩
        · rintro i Hc hi ⟨Fc, envc, acc, av, e1, Rc, _⟩
          exact fun a o h => Rc.r.sub a o (e1 a o h)
        · rintro i x Hc H' hi ⟨Fc, envc, acc, av, e1, Rc, el, hav, rav, hFD, hfD, hzD⟩ y
          obtain ⟨d, F2, hd, e2, R2, rp, eh, kF⟩ := Rc.item e1 y
          have hxs : xs.drop i = d :: xs.drop (i + 1) := by
            rw [List.getElem?_eq_some_iff] at hd
            obtain ⟨hlt, hd⟩ := hd
            rw [← hd]; exact List.drop_eq_getElem_cons hlt
          rw [hxs] at el
          unfold lcL at el
          have hH'D : H' D = some (.lst av) := eh _ _ hav
          have hF2D : F2 D = none := (kF D (by rw [hav]; simp)).trans hFD
          have S2 := R2.start
          -- what a turn leaves of the new list
          have keep : ∀ {F4 H4 : Hp} {σ4 : St} {env4 : Env'}, RelB K ct (here z.L z.W F2 H' (wipe σ vs) (wipeE envc vs)) F4 H4 σ4 env4 → H4 D = some (.lst av) ∧ F4 D = none ∧ ¬ foot σ4 env4 D := fun {F4 H4 σ4 env4} R4 => by
            refine ⟨R4.n.keep D _ hH'D hfD, (R4.n.nofz D (by show H' D ≠ none; rw [hH'D]; simp) hfD).trans hF2D, fun f => ?_⟩
            rcases R4.n.fo D f with w | w
            · exact hfD w
            · have w' : H' D = none := w
              rw [hH'D] at w'; cases w'
          cases q3 : putTg t d (wipeE envc vs) with
          | none => rw [q3] at el; cases el
          | some env3 =>
            rw [q3] at el
            simp only at el
            refine ⟨_, F2, wipeE envc vs, d, env3, S2, rp.up hb, q3, fun σ2 so R3 => ⟨?_, ?_⟩⟩
            · rw [wipe_eq (σ := wipe σ vs) so.1 fun j hj => so.2 j fun hm => hj (ht j hm)]
              exact wipe_wipe
            · have hw2 : wipe σ2 vs = wipe σ vs := by
                rw [wipe_eq (σ := wipe σ vs) so.1 fun j hj => so.2 j fun hm => hj (ht j hm)]
                exact wipe_wipe
              cases q4 : mc env3 with
              | none => rw [q4] at el; cases el
              | some p4 =>
                obtain ⟨b, env4⟩ := p4
                refine ⟨_, F2, env3, R3, b, env4, q4, fun F4 H4 e4 R4 => ?_⟩
                rw [q4] at el
                cases b with
                | false =>
                  simp only at el
                  simp only [Bool.false_eq_true, if_false]
                  obtain ⟨k1, k2, k3⟩ := keep R4
                  have RZ := (R2.outer R4).wiped vs
                  rw [hw2] at RZ
                  exact ⟨F4, env4, acc, av, (e1.trans e2).trans e4, RZ, el, k1, rav.mono (e2.trans e4), k2, fun f => k3 (foot_wipe (hw2 ▸ f)), hzD⟩
                | true =>
                  simp only at el
                  simp only [if_true]
                  cases q5 : frzM me env4 with
                  | none => rw [q5] at el; cases el
                  | some p5 =>
                    obtain ⟨r5, env5⟩ := p5
                    rw [q5] at el
                    cases r5 with
                    | dt d5 =>
                      simp only at el
                      split at el
                      · rename_i hlen
                        refine ⟨_, F4, env4, R4, _, _, q5, fun v F5 H5 e5 R5 rp5 => ?_⟩
                        obtain ⟨k1, k2, k3⟩ := keep R5
                        refine ⟨av, k1, by rw [rav.length]; exact hlen, ?_⟩
                        have RZ := ((R2.outer R5).side (H' := upd H5 D (.lst (av ++ [v]))) (fun c hc => upd_ne hc) upd_same k2 k3 hzD).wiped vs
                        rw [hw2] at RZ
                        exact ⟨F5, env5, acc ++ [d5], av ++ [v], ((e1.trans e2).trans e4).trans e5, RZ, el, upd_same, (rav.mono ((e2.trans e4).trans e5)).append (.cons rp5 .nil), k2, fun f => k3 (foot_wipe (hw2 ▸ f)), hzD⟩
                      · cases el
                    | nw d5 => cases el
                    | sl i5 => cases el
        · rintro Hc ⟨Fc, envc, acc, av, e1, Rc, el, hav, rav, hFD, hfD, hzD⟩
          rw [List.drop_length] at el
          unfold lcL at el
          cases el
          obtain ⟨Rb, fb⟩ := Rc.back R1 e1 hp
          exact k _ Fc Hc (ex1.trans e1) Rb ⟨D, rfl, hFD, ⟨av, hav, rav⟩, fun f => hfD (fb D f), hzD⟩
    · cases eq
end
end VI
namespace VI
open PySem L2
section
variable (K : PySem.W.Frag) (ct : Nat → Addr)
def ResR (z : Fm) (F H : Hp) (σ : St) (env : Env') (v : V) : R → Prop
  | .dt d => Rp K ct F v d
  | .nw d => ∃ a, v = .ref a ∧ F a = none ∧ OwnAt K ct F H a d ∧ ¬ foot σ env a ∧ ¬ z.W a
  | .sl _ => False
/-- how a statement ends -/
def endS (z : Fm) (F : Hp) (env' : Env') (D : Ends) : Fl → Prop
  | .next => ∀ σ' F' H', Ex F F' → RelB K ct z F' H' σ' env' → D.nx σ' H'
  | .brk => ∀ σ' F' H', Ex F F' → RelB K ct z F' H' σ' env' → D.bk σ' H'
  | .cnt => ∀ σ' F' H', Ex F F' → RelB K ct z F' H' σ' env' → D.ct σ' H'
  | .ret r => ∀ v σ' F' H', Ex F F' → RelB K ct z F' H' σ' env' → ResR K ct z F' H' σ' env' v r → D.rt v H'
def tS (m : Env' → Option (Fl × Env')) : TS := fun D σ H => ∃ z F env, RelB K ct z F H σ env ∧ ∃ fl env', m env = some (fl, env') ∧ endS K ct z F env' D fl
end
section
variable {X : Cx} {K : PySem.W.Frag} {ct : Nat → Addr} {e : Expr} {m : Env' → Option (R × Env')} {pos : Pos}
theorem endS.mono {z : Fm} {F F1 : Hp} {env' : Env'} {D : Ends} {fl : Fl} (h : endS K ct z F env' D fl) (ex : Ex F F1) : endS K ct z F1 env' D fl := by
  cases fl with
  | next => exact fun σ' F' H' e r => h σ' F' H' (ex.trans e) r
  | brk => exact fun σ' F' H' e r => h σ' F' H' (ex.trans e) r
  | cnt => exact fun σ' F' H' e r => h σ' F' H' (ex.trans e) r
  | ret r => exact fun v σ' F' H' e r q => h v σ' F' H' (ex.trans e) r q
theorem pss_nilV : PSs X [] (tS X.K ct nextM) := pss_nil.vimp fun D σ H ⟨z, F, env, rel, fl, env', eq, k⟩ => by
  cases eq
  exact k σ F H (Ex.refl F) rel
theorem pss_consV {s : Stmt} {ss : List Stmt} {a b : Env' → Option (Fl × Env')} (h1 : PS X s (tS X.K ct a)) (h2 : PSs X ss (tS X.K ct b)) : PSs X (s :: ss) (tS X.K ct (consM a b)) := by
  refine (pss_cons h1 h2).vimp fun D σ H ⟨z, F, env, rel, fl, env', eq, k⟩ => ?_
  unfold consM at eq
  split at eq
  · rename_i env1 q
    exact ⟨z, F, env, rel, .next, env1, q, fun σ' F' H' ex R1 => ⟨z, F', env1, R1, fl, env', eq, k.mono ex⟩⟩
  · rename_i hn
    refine ⟨z, F, env, rel, fl, env', eq, ?_⟩
    cases fl with
    | next => exact (hn env' eq).elim
    | brk => exact k
    | cnt => exact k
    | ret r => exact k
theorem ps_passV : PS X (.Pass pos) (tS X.K ct nextM) := ps_pass.vimp fun D σ H ⟨z, F, env, rel, fl, env', eq, k⟩ => by
  cases eq
  exact k σ F H (Ex.refl F) rel
theorem ps_docV {x : Str} {j : Nat} {pos' : Pos} : PS X (.Expr (.Constant (.str x) j pos) pos') (tS X.K ct nextM) := ps_doc.vimp fun D σ H ⟨z, F, env, rel, fl, env', eq, k⟩ => by
  cases eq
  exact k σ F H (Ex.refl F) rel
theorem ps_brkV : PS X (.Break pos) (tS X.K ct brkM) := ps_break.vimp fun D σ H ⟨z, F, env, rel, fl, env', eq, k⟩ => by
  cases eq
  exact k σ F H (Ex.refl F) rel
theorem ps_cntV : PS X (.Continue pos) (tS X.K ct cntM) := ps_continue.vimp fun D σ H ⟨z, F, env, rel, fl, env', eq, k⟩ => by
  cases eq
  exact k σ F H (Ex.refl F) rel
theorem ps_badV {s : Stmt} : PS X s (tS X.K ct badM) := ps_never.vimp fun D σ H ⟨z, F, env, rel, fl, env', eq, k⟩ => by cases eq
theorem ps_retNV : PS X (.Return none pos) (tS X.K ct retNM) := ps_retN.vimp fun D σ H ⟨z, F, env, rel, fl, env', eq, k⟩ => by
  cases eq
  exact k .non σ F H (Ex.refl F) rel .non
def isComp : Expr → Bool
  | .ListComp .. => true
  | .SetComp .. => true
  | .DictComp .. => true
  | _ => false
theorem swaps_of {e : Expr} {t : Option Expr} {l : Nat} {env : Env} (h : isComp e = false) : swapsWith e t l env = pure false := by
  cases e <;> first | rfl | cases h
theorem ps_exV (h : PE X e (tV X.K ct m)) (hs : isComp e = false) : PS X (.Expr e pos) (tS X.K ct (exM m)) := by
  refine (ps_expr h (swaps_of hs)).vimp fun D σ H ⟨z, F, env, rel, fl, env', eq, k⟩ => ?_
  unfold exM at eq
  cases q : m env with
  | none => rw [q] at eq; cases eq
  | some p =>
    obtain ⟨r, env1⟩ := p
    rw [q] at eq
    cases eq
    exact ⟨z, F, env, rel, r, _, q, fun v F' H' ex R1 _ => k σ F' H' ex R1⟩
theorem ps_retV (h : PE X e (tV X.K ct m)) : PS X (.Return (some e) pos) (tS X.K ct (retM m)) := by
  refine (ps_ret h).vimp fun D σ H ⟨z, F, env, rel, fl, env', eq, k⟩ => ?_
  unfold retM at eq
  cases q : m env with
  | none => rw [q] at eq; cases eq
  | some p =>
    obtain ⟨r, env1⟩ := p
    rw [q] at eq
    cases r with
    | dt d =>
      cases eq
      exact ⟨z, F, env, rel, _, _, q, fun v F' H' ex R1 rp => k v σ F' H' ex R1 rp⟩
    | nw d =>
      cases eq
      refine ⟨z, F, env, rel, _, _, q, fun v F' H' ex R1 rp => k v σ F' H' ex R1 ?_⟩
      obtain ⟨a, h1, h2, h3, h4, h5⟩ := rp
      exact ⟨a, h1, h2, h3, h4, fun w => R1.n.tz a w h5⟩
    | sl i =>
      simp only at eq
      split at eq
      · rename_i d qd
        cases eq
        refine ⟨z, F, env, rel, _, _, q, fun v F' H' ex R1 rp => ?_⟩
        obtain ⟨a, h1, h2, h3⟩ := R1.r.ow i false d qd
        have rp' : σ[i]? = some (some v) := rp
        rw [h1] at rp'; cases rp'
        refine k _ σ F' H' ex (R1.forget qd) ⟨a, rfl, h2, h3, fun ⟨j, b, d', g, g'⟩ => ?_, R1.n.own i d a qd h1⟩
        rcases set_at g with ⟨rfl, w⟩ | ⟨hne, g⟩
        · cases w
        · exact hne (R1.r.dj i j false b d d' a qd g h1 g')
      · cases eq
theorem ps_iteV {c : Expr} {a b : List Stmt} {mc : Env' → Option (R × Env')} {ma mb : Env' → Option (Fl × Env')} (hc : PT X c (VI.tB X.K ct (boolM mc))) (ha : PSs X a (tS X.K ct ma)) (hb : PSs X b (tS X.K ct mb)) : PS X (.If c a b pos) (tS X.K ct (iteM mc ma mb)) := by
  refine (ps_if hc ha hb).vimp fun D σ H ⟨z, F, env, rel, fl, env', eq, k⟩ => ?_
  unfold iteM at eq
  cases q : boolM mc env with
  | none => rw [q] at eq; cases eq
  | some p =>
    obtain ⟨b, env1⟩ := p
    rw [q] at eq
    cases b with
    | true => exact ⟨z, F, env, rel, true, env1, q, fun F' H' ex R1 => ⟨z, F', env1, R1, fl, env', eq, k.mono ex⟩⟩
    | false => exact ⟨z, F, env, rel, false, env1, q, fun F' H' ex R1 => ⟨z, F', env1, R1, fl, env', eq, k.mono ex⟩⟩
def isSetE : Expr → Bool
  | .Set .. => true
  | _ => false
theorem folded_of {e : Expr} {env : Env} (h : isSetE e = false) (x : Value) : foldedSetIterable e env x = pure x := by
  cases e <;> first | rfl | cases h
theorem ps_forV {tg iter : Expr} {body : List Stmt} {t : Tg} {mi : Env' → Option (List D × Env')} {mb : Env' → Option (Fl × Env')} {b0 : Bool} (hb0 : b0 = true → isTu t = true) (hp : PassesOwn (model X.prog X.w) X.A X.env X.xe) (hc : X.calm = true) (hi : PI X tg iter (tI X.K ct b0 mi)) (hg : PG X tg (gD X.K ct t)) (hb : PSs X body (tS X.K ct mb)) (hs : isSetE iter = false) :
    PS X (.For tg iter body [] pos) (tS X.K ct (forM t mi mb)) := by
  refine (ps_for hp hc hi hg hb (folded_of hs)).vimp fun D σ H ⟨z, F, env, rel, fl, env', eq, k⟩ => ?_
  unfold forM at eq
  cases q : mi env with
  | none => rw [q] at eq; cases eq
  | some p =>
    obtain ⟨xs, env1⟩ := p
    rw [q] at eq
    simp only at eq
    refine ⟨z, F, env, rel, xs, env1, q, fun J F1 H1 ex1 R1 wk => ?_⟩
    -- at turn i: what is left of the walk
    refine for_it wk (fun i σc Hc => ∃ Fc envc, Ex F1 Fc ∧ RelB X.K ct z Fc Hc σc envc ∧ forL t mb (xs.drop i) envc = some (fl, env')) ⟨F1, env1, Ex.refl _, R1, eq⟩ ?_ ?_ ?_
    · rintro i σc Hc hi ⟨Fc, envc, e1, Rc, _⟩
      exact fun a o h => Rc.r.sub a o (e1 a o h)
    · rintro i x σc Hc H' hi ⟨Fc, envc, e1, Rc, el⟩ y
      obtain ⟨d, F2, hd, e2, R2, rp, eh, kF⟩ := Rc.item e1 y
      have hxs : xs.drop i = d :: xs.drop (i + 1) := by
        rw [List.getElem?_eq_some_iff] at hd
        obtain ⟨hlt, hd⟩ := hd
        rw [← hd]; exact List.drop_eq_getElem_cons hlt
      rw [hxs] at el
      unfold forL at el
      cases q3 : putTg t d envc with
      | none => rw [q3] at el; cases el
      | some env3 =>
        rw [q3] at el
        simp only at el
        refine ⟨z, F2, envc, d, env3, R2, rp.up hb0, q3, fun σ2 so R3 => ?_⟩
        cases q4 : mb env3 with
        | none => rw [q4] at el; cases el
        | some p4 =>
          obtain ⟨f4, env4⟩ := p4
          rw [q4] at el
          refine ⟨z, F2, env3, R3, f4, env4, q4, ?_⟩
          cases f4 with
          | next => exact fun σ' F' H' ex R' => ⟨F', env4, (e1.trans e2).trans ex, R', el⟩
          | cnt => exact fun σ' F' H' ex R' => ⟨F', env4, (e1.trans e2).trans ex, R', el⟩
          | brk =>
            simp only at el
            cases el
            exact fun σ' F' H' ex R' => k σ' F' H' (((ex1.trans e1).trans e2).trans ex) R'
          | ret r =>
            simp only at el
            cases el
            exact fun v σ' F' H' ex R' rr => k v σ' F' H' (((ex1.trans e1).trans e2).trans ex) R' rr
    · rintro σc Hc ⟨Fc, envc, e1, Rc, el⟩
      rw [List.drop_length] at el
      unfold forL at el
      cases el
      exact k σc Fc Hc (ex1.trans e1) Rc
theorem ps_whlV {c : Expr} {body : List Stmt} {n : Nat} {mc : Env' → Option (Bool × Env')} {mb : Env' → Option (Fl × Env')} (hp : PassesOwn (model X.prog X.w) X.A X.env X.xe) (hc : PT X c (VI.tB X.K ct mc)) (hb : PSs X body (tS X.K ct mb)) :
    PS X (.While c body [] pos) (tS X.K ct (whlL mc mb n)) := by
  refine (ps_while hp hc hb).vimp fun D σ H ⟨z, F, env, rel, fl, env', eq, k⟩ => ?_
  refine ⟨fun m σc Hc => ∃ Fc envc, Ex F Fc ∧ RelB X.K ct z Fc Hc σc envc ∧ whlL mc mb m envc = some (fl, env'), ⟨n, F, env, Ex.refl _, rel, eq⟩, ?_⟩
  rintro m σc Hc ⟨Fc, envc, e1, Rc, el⟩
  cases m with
  | zero => cases el
  | succ m =>
    unfold whlL at el
    cases q : mc envc with
    | none => rw [q] at el; cases el
    | some p =>
      obtain ⟨b, env1⟩ := p
      rw [q] at el
      refine ⟨z, Fc, envc, Rc, b, env1, q, fun F1 H1 ex1 R1 => ?_⟩
      cases b with
      | false =>
        simp only at el
        cases el
        simp only [Bool.false_eq_true, if_false]
        exact k σc F1 H1 (e1.trans ex1) R1
      | true =>
        simp only [if_true]
        simp only at el
        refine ⟨fun σ' H' => ∃ F' env4, Ex F F' ∧ RelB X.K ct z F' H' σ' env4 ∧ whlL mc mb m env4 = some (fl, env'), fun σ' H' ⟨F', env4, a1, a2, a3⟩ => ⟨m, Nat.lt_succ_self m, F', env4, a1, a2, a3⟩, ?_⟩
        cases q4 : mb env1 with
        | none => rw [q4] at el; cases el
        | some p4 =>
          obtain ⟨f4, env4⟩ := p4
          rw [q4] at el
          refine ⟨z, F1, env1, R1, f4, env4, q4, ?_⟩
          cases f4 with
          | next => exact fun σ' F' H' ex R' => ⟨F', env4, (e1.trans ex1).trans ex, R', el⟩
          | cnt => exact fun σ' F' H' ex R' => ⟨F', env4, (e1.trans ex1).trans ex, R', el⟩
          | brk =>
            simp only at el
            cases el
            exact fun σ' F' H' ex R' => k σ' F' H' ((e1.trans ex1).trans ex) R'
          | ret r =>
            simp only at el
            cases el
            exact fun v σ' F' H' ex R' rr => k v σ' F' H' ((e1.trans ex1).trans ex) R' rr
end
end VI
namespace VI
open PySem L2
section
variable {X : Cx} {K : PySem.W.Frag} {ct : Nat → Addr} {e : Expr} {m : Env' → Option (R × Env')} {pos : Pos}
theorem putSl_rel {z : Fm} {F H : Hp} {σ : St} {env env' : Env'} {i : Nat} {v : V} {r : R} (R0 : RelB K ct z F H σ env) (h : Res K ct z F H σ env v r) (e : putSl i r env = some env') : RelB K ct z F H (σ.set i (some v)) env' := by
  unfold putSl at e
  split at e
  · rename_i hf
    cases r with
    | dt d => cases e; exact R0.putVa hf h
    | nw d => cases e; exact R0.putOw hf h
    | sl j => cases e
  · cases e
theorem t_asg {i : Nat} {D : Ends} {σ : St} {H : Hp} (w : tS K ct (asgM i m) D σ H) : tAsg (tV K ct (keepM m)) (gName i) D σ H := by
  obtain ⟨z, F, env, rel, fl, env', eq, k⟩ := w
  unfold asgM at eq
  cases q : keepM m env with
  | none => rw [q] at eq; cases eq
  | some p =>
    obtain ⟨r, env1⟩ := p
    rw [q] at eq
    simp only at eq
    cases q2 : putSl i r env1 with
    | none => rw [q2] at eq; cases eq
    | some env2 =>
      rw [q2] at eq
      cases eq
      exact ⟨z, F, env, rel, r, env1, q, fun v F' H' ex R1 rp => k _ F' H' ex (putSl_rel R1 rp q2)⟩
theorem ps_asgV {i : Nat} {x : Str} {pos' : Pos} (hN : X.N.Nodup) (hi : X.N[i]? = some x) (hx : Loc X.env.scope x) (hf : X.fn x = true ∨ X.env.scope.names.lookup x = some .local) (h : PE X e (tV X.K ct m)) (hs : swapsWith e (some (.Name x pos')) pos.line X.env = pure false) :
    PS X (.Assign [.Name x pos'] e pos) (tS X.K ct (asgM i m)) := (ps_set hN hi hx h.vkeep hs hf).vimp fun D σ H w => t_asg w
theorem keep_lc {vs : List Nat} {t : Tg} {mi : Env' → Option (List D × Env')} {mc : Env' → Option (Bool × Env')} : keepM (lcM vs t mi mc m) = lcM vs t mi mc m := by
  funext env
  unfold keepM
  cases q : lcM vs t mi mc m env with
  | none => rfl
  | some p =>
    obtain ⟨r, env1⟩ := p
    unfold lcM at q
    split at q
    · split at q
      · split at q
        · cases q; rfl
        · cases q
      · cases q
    · cases q
theorem pts_noV : PTs X [] (VI.tB X.K ct trueM) := ⟨fun pins s σ H Q I ⟨z, F, env, rel, b, env', eq, k⟩ => by
  cases eq
  exact pts_nil.run pins s σ H Q I (k F H (Ex.refl F) rel)⟩
theorem pts_soV {c : Expr} {mc : Env' → Option (Bool × Env')} (h : PT X c (VI.tB X.K ct mc)) : PTs X [c] (VI.tB X.K ct mc) := pts_one h
section
variable {elt tg iter : Expr} {ifs : List Expr} {scope : Scope} {own : List (Str × Nat)} {t : Tg} {mi : Env' → Option (List D × Env')} {mc : Env' → Option (Bool × Env')} {b0 : Bool}
theorem pe_lcV (hb0 : b0 = true → isTu t = true) (hc : X.calm = true) (hN : X.N.Nodup) (hi : PI X tg iter (tI X.K ct b0 mi)) (ok : BlkOk X.N X.env.scope scope own)
    (hg : ∀ (s : Shared) (H : Hp) (C : Addr) (cl : List (Str × Addr)) (fp : List Addr), PG (X.blk s H scope (compEnvC scope cl C X.env) fp) tg (gD X.K ct t)) (ht : ∀ (s : Shared) (H : Hp) (C : Addr) (cl : List (Str × Addr)) (fp : List Addr), PTs (X.blk s H scope (compEnvC scope cl C X.env) fp) ifs (VI.tB X.K ct mc))
    (he : ∀ (s : Shared) (H : Hp) (C : Addr) (cl : List (Str × Addr)) (fp : List Addr), PE (X.blk s H scope (compEnvC scope cl C X.env) fp) elt (tV X.K ct m)) (hs : isSetE iter = false) (hv : ∀ j ∈ tgIx t, j ∈ own.map (·.2)) :
    PE X (.ListComp elt [⟨tg, iter, ifs, 0⟩] scope pos) (tV X.K ct (lcM (own.map (·.2)) t mi mc m)) :=
  (pe_lc hc hN hi ok hg ht (fun s H C cl fp => (he s H C cl fp).vfrz) (folded_of hs)).vimp fun σ H Q w => t_lc hb0 hv w
theorem ps_lcV {i : Nat} {y : Str} {py spos : Pos} (hb0 : b0 = true → isTu t = true) (hc : X.calm = true) (hN : X.N.Nodup) (hy : X.N[i]? = some y) (hyl : X.env.scope.names.lookup y = some .local) (hk : X.env.scope.kind = .function) (hl : (py.line == pos.line) = true)
    (ha : (scope.names.any fun (n, k) => n == y && (k == .local || k == .cell)) = false) (hi : PI X tg iter (tI X.K ct b0 mi)) (ok : BlkOk X.N X.env.scope scope own)
    (hg : ∀ (s : Shared) (H : Hp) (C : Addr) (cl : List (Str × Addr)) (fp : List Addr), PG (X.blk s H scope (compEnvC scope cl C X.env) fp) tg (gD X.K ct t)) (ht : ∀ (s : Shared) (H : Hp) (C : Addr) (cl : List (Str × Addr)) (fp : List Addr), PTs (X.blk s H scope (compEnvC scope cl C X.env) fp) ifs (VI.tB X.K ct mc))
    (he : ∀ (s : Shared) (H : Hp) (C : Addr) (cl : List (Str × Addr)) (fp : List Addr), PE (X.blk s H scope (compEnvC scope cl C X.env) fp) elt (tV X.K ct m)) (hs : isSetE iter = false) (hv : ∀ j ∈ tgIx t, j ∈ own.map (·.2)) :
    PS X (.Assign [.Name y py] (.ListComp elt [⟨tg, iter, ifs, 0⟩] scope pos) spos) (tS X.K ct (asgM i (lcM (own.map (·.2)) t mi mc m))) :=
  (ps_setLc hc hN hy hyl (sw_true hk hyl hl ha) hi ok hg ht (fun s H C cl fp => (he s H C cl fp).vfrz) (folded_of hs)).vimp fun D σ H w => t_lc hb0 hv (keep_lc ▸ t_asg w)
end
/-- the other assignments of a comprehension to a name -/
theorem swaps_lc {elt : Expr} {gs : List Comprehension} {scope : Scope} {y : Str} {py : Pos} {l : Nat} {env : Env} (hk : env.scope.kind = .function) (h : ((env.scope.names.lookup y == some .local) && py.line == pos.line && !(scope.names.any fun (n, k) => n == y && (k == .local || k == .cell))) = false) :
    swapsWith (.ListComp elt gs scope pos) (some (.Name y py)) l env = pure false := by
  have hb : env.blockKind = .function := by unfold Env.blockKind; rw [hk]; rfl
  unfold swapsWith
  simp only [hb, Expr.pos]
  show (pure _ : Sem Bool) = _
  congr 1
/-! ### several names at once -/
def isTupE : Expr → Bool
  | .Tuple .. => true
  | _ => false
theorem swapped_no {ts : List Expr} {k : Nat} {p : Pos} {env : Env} (h : isTupE e = false) : swappedStores [.Tuple ts k p] e env = pure none := by
  cases e <;> first | rfl | cases h
theorem swapped_sub {o i : Expr} {p : Pos} {env : Env} : swappedStores [.Subscript o i p] e env = pure none := by
  cases e <;> rfl
theorem swapped_nm {x : Str} {p : Pos} {env : Env} : swappedStores [.Name x p] e env = pure none := by
  cases e <;> rfl
/-- which names are stored from the right -/
def nmOf (sc : Scope) (line : Nat) : Expr → Option Str
  | .Name id pos => if sc.names.lookup id == some .local && pos.line == line then some id else none
  | _ => none
def swapO (sc : Scope) (ts vs : List Expr) : Option (Option (List Str)) :=
  if !(ts.length == 2 || ts.length == 3) || vs.length != ts.length then some none
  else if vs.any isStar then some none
  else
    let names := ts.filterMap (nmOf sc ((ts.head?.map (·.pos.line)).getD 0))
    if names.length != ts.length || names.eraseDups.length != names.length then some none
    else if vs.all (foldedForSure 8) then some none
    else if vs.all (constantsAlone 8) then none
    else some (some names)
theorem filt_of {g : Expr → Option Str} {sc : Scope} {line : Nat} {ts : List Expr} (h : ∀ t, g t = nmOf sc line t) : ts.filterMap g = ts.filterMap (nmOf sc line) := by
  rw [show g = nmOf sc line from funext h]
theorem any_of {g : Expr → Bool} {vs : List Expr} (h : ∀ t, g t = isStar t) : vs.any g = vs.any isStar := by
  rw [show g = isStar from funext h]
theorem swapped_eq {ts vs : List Expr} {k k2 : Nat} {p p2 : Pos} {env : Env} {r : Option (List Str)} (hk : env.scope.kind = .function) (h : swapO env.scope ts vs = some r) : swappedStores [.Tuple ts k p] (.Tuple vs k2 p2) env = pure r := by
  have hb : env.blockKind = .function := by unfold Env.blockKind; rw [hk]; rfl
  have hbb : (env.blockKind != .function) = false := by rw [hb]; rfl
  unfold swappedStores
  simp only [hbb, Bool.or_false]
  rw [any_of (g := _) (vs := vs) (fun t => by cases t <;> rfl)]
  rw [filt_of (g := _) (sc := env.scope) (line := (Option.map (fun x => x.pos.line) ts.head?).getD 0) (ts := ts) (fun t => by cases t <;> rfl)]
  unfold swapO at h
  simp only at h
  split at h
  · rename_i h1
    cases h
    rw [if_pos h1]
  · rename_i h1
    rw [if_neg h1]
    split at h
    · rename_i h2
      cases h
      rw [if_pos h2]
    · rename_i h2
      rw [if_neg h2]
      split at h
      · rename_i h3
        cases h
        rw [if_pos h3]
      · rename_i h3
        rw [if_neg h3]
        split at h
        · rename_i h4
          cases h
          rw [if_pos h4]
        · rename_i h4
          rw [if_neg h4]
          split at h
          · cases h
          · rename_i h5
            cases h
            rw [if_neg h5]
end
end VI
namespace VI
open PySem L2
/-! ### stores from the right -/
def setAll : St → List Nat → List V → St
  | σ, i :: is, v :: vs => setAll (σ.set i (some v)) is vs
  | σ, _, _ => σ
theorem setAll_comm {i : Nat} {x : Option V} : ∀ {is : List Nat} {vs : List V} {σ : St}, i ∉ is → setAll (σ.set i x) is vs = (setAll σ is vs).set i x
  | [], _, _, _ => by unfold setAll; rfl
  | _ :: _, [], _, _ => by unfold setAll; rfl
  | j :: is, v :: vs, σ, h => by
    have hne : i ≠ j := fun e => h (by simp [e])
    show setAll ((σ.set i x).set j (some v)) is vs = (setAll (σ.set j (some v)) is vs).set i x
    rw [List.set_comm _ _ hne]
    exact setAll_comm fun m => h (List.mem_cons_of_mem _ m)
theorem setAll_last {i : Nat} {v : V} : ∀ {is : List Nat} {vs : List V} {σ : St}, is.length = vs.length → setAll σ (is ++ [i]) (vs ++ [v]) = (setAll σ is vs).set i (some v)
  | [], [], _, _ => rfl
  | _ :: _, [], _, h => nomatch h
  | [], _ :: _, _, h => nomatch h
  | j :: is, w :: vs, σ, h => by
    show setAll (σ.set j (some w)) (is ++ [i]) (vs ++ [v]) = (setAll (σ.set j (some w)) is vs).set i (some v)
    exact setAll_last (Nat.succ.inj h)
theorem setAll_rev : ∀ {is : List Nat} {vs : List V} {σ : St}, is.length = vs.length → is.Nodup → setAll σ is.reverse vs.reverse = setAll σ is vs
  | [], [], _, _, _ => rfl
  | _ :: _, [], _, h, _ => nomatch h
  | [], _ :: _, _, h, _ => nomatch h
  | i :: is, v :: vs, σ, h, nd => by
    obtain ⟨n1, n2⟩ := List.nodup_cons.mp nd
    have hl : is.length = vs.length := Nat.succ.inj h
    rw [List.reverse_cons, List.reverse_cons, setAll_last (by simp [hl]), setAll_rev hl n2]
    show (setAll σ is vs).set i (some v) = setAll (σ.set i (some v)) is vs
    rw [setAll_comm n1]
theorem vals_rev : ∀ {vs : List V} {us : List Value}, Vals vs us → Vals vs.reverse us.reverse
  | _, _, .nil => .nil
  | _, _, .cons r t => by
    rw [List.reverse_cons, List.reverse_cons]
    exact Vals.append (vals_rev t) (.cons r .nil)
section
variable {X : Cx} {K : PySem.W.Frag} {ct : Nat → Addr} {e : Expr} {m : Env' → Option (R × Env')} {pos : Pos}
theorem stores_ok {pins : List (Addr × Obj)} {H : Hp} {Q : Unit → Shared → Prop} (hN : X.N.Nodup) (is : List Nat) : ∀ {xs : List Str} {vs : List V} {us : List Value} {σ : St} {s : Shared}, is.length = xs.length → is.length = vs.length →
    (∀ (j i : Nat) (x : Str), is[j]? = some i → xs[j]? = some x → X.N[i]? = some x ∧ X.env.scope.names.lookup x = some .local) → Vals vs us → Inv X pins σ H s → (∀ s', Inv X pins (setAll σ is vs) H s' → Q () s') →
    wpAny (model X.prog X.w) X.A (assignInOrder (xs.map fun n v => bindName X.env n v) us) Q X.xe s := by
  induction is with
  | nil =>
    intro xs vs us σ s h1 h2 h3 r I h
    cases xs with
    | nil =>
      cases r with
      | nil => exact PyProof.Rows.assignInOrder_nil (h s I)
      | cons _ _ => cases h2
    | cons _ _ => cases h1
  | cons i is ih =>
    intro xs vs us σ s h1 h2 h3 r I h
    cases xs with
    | nil => cases h1
    | cons x xs =>
      cases r with
      | nil => cases h2
      | cons r t =>
        obtain ⟨a1, a2⟩ := h3 0 i x rfl rfl
        refine PyProof.Rows.assignInOrder_cons (wpAny_bindName (store_ok I hN a1 (.inl a2) r (fun s2 I2 => ?_) (.inr a2)))
        exact ih (Nat.succ.inj h1) (Nat.succ.inj h2) (fun j i' x' e1 e2 => h3 (j + 1) i' x' e1 e2) t I2 h
def tParN (is : List Nat) (ta : TA) : TS := fun D σ H => ta σ H fun vs H1 => vs.length = is.length ∧ D.nx (setAll σ is vs) H1
theorem ps_parN {is : List Nat} {xs : List Str} {ts es : List Expr} {ta : TA} {kt k2 : Nat} {pt pt2 : Pos} (hc : X.calm = true) (hN : X.N.Nodup) (hnd : is.Nodup) (hl : is.length = xs.length) (hz : is.length ≤ sizeLine) (h0 : is ≠ [])
    (hx : ∀ (j i : Nat) (x : Str), is[j]? = some i → xs[j]? = some x → X.N[i]? = some x ∧ X.env.scope.names.lookup x = some .local) (ha : PA X es ta)
    (hw : swappedStores [.Tuple ts kt pt] (.Tuple es k2 pt2) X.env = pure (some xs)) :
    PS X (.Assign [.Tuple ts kt pt] (.Tuple es k2 pt2) pos) (tParN is ta) := by
  refine ⟨fun pins s σ H D I h => ?_⟩
  rw [exec_Assign_arm]
  refine wpAny_bind (wpAny_standAt ?_)
  rw [show swapsWithSole [.Tuple ts kt pt] (.Tuple es k2 pt2) pos.line X.env = pure false from rfl]
  refine wpAny_bind (wpAny_pure ?_)
  rw [if_neg (by decide)]
  refine wpAny_bind (PyProof.Rows.Tuple_ (thn (ha.run _ pins s σ H _ I h) fun us s1 ⟨vs, H1, I1, r1, q0, q1⟩ => ?_))
  have hus : us.length = is.length := by rw [← r1.length, q0]
  cases us with
  | nil => exact (h0 (List.length_eq_zero_iff.mp hus.symm)).elim
  | cons u us =>
    refine wpAny_newObj_type ?_ (by show (u :: us).length ≤ sizeLine; rw [hus]; exact hz)
    have I2 : Inv X pins σ H1 { s1 with heap := s1.heap.push { cls := .type "tuple", data := .seq (u :: us).toArray } } := I1.kept (t' := s1.toks) fun b o e => Heap.get?_push_of_some _ e
    rw [hw]
    refine wpAny_bind (wpAny_pure ?_)
    show wpAny (model X.prog X.w) X.A (do rule "assign.swapped-stores"; let items ← unpackItems (.ref s1.heap.objs.size) xs.length none; assignInOrder (xs.reverse.map fun n => bindName X.env n) items.reverse; pure Flow.next) _ _ _
    rw [show xs.length = (u :: us).toArray.size by rw [List.size_toArray, hus, hl]]
    refine wpAny_bind (wpAny_rule (wpAny_bind (PyProof.Rows.unpackItems_tuple (items := (u :: us).toArray) (I.ok.hd hc) (PyProof.Rows.IsTup.new s1.heap _) fun h' hx' => ?_)))
    have I3 := I2.kept (h' := h') (t' := s1.toks) fun b o e => hx' b o (Nat.ne_of_lt (Heap.lt_size e)) e
    refine wpAny_bind (stores_ok hN is.reverse (vs := vs.reverse) (by simp [hl]) (by simp [q0]) (fun j i x e1 e2 => ?_) (vals_rev r1) I3 fun s3 I4 => wpAny_pure ?_)
    · have hj : j < is.length := by
        have := (List.getElem?_eq_some_iff.mp e1).1
        simpa using this
      rw [List.getElem?_reverse hj] at e1
      rw [List.getElem?_reverse (by rw [← hl]; exact hj), ← hl] at e2
      exact hx _ i x e1 e2
    · rw [setAll_rev q0.symm hnd] at I4
      exact ⟨_, H1, I4, q1⟩
theorem ResA.put {z : Fm} {F H : Hp} {σ : St} {env env' : Env'} {i : Nat} {v0 : V} {r0 : R} (h0 : Res K ct z F H σ env v0 r0) (e : putSl i r0 env = some env') : ∀ {vs : List V} {rs : List R}, ResA K ct z F H σ env vs rs → (∀ a, v0 = .ref a → (∃ d, r0 = .nw d) → a ∉ tmps vs rs) → (∀ r ∈ rs, ∀ j, r ≠ .sl j) →
    ResA K ct z F H (σ.set i (some v0)) env' vs rs
  | _, _, .nil, _, _ => .nil
  | _, _, .cons (v := v) (vs := vs) (r := r) (rs := rs) h t, hn, hs => by
    refine .cons ?_ (ResA.put h0 e t (fun a e1 e2 hm => hn a e1 e2 ?_) (fun r' hr => hs r' (List.mem_cons_of_mem _ hr)))
    · cases r with
      | dt d => exact h
      | sl j => exact (hs _ (List.mem_cons_self) j rfl).elim
      | nw d =>
        obtain ⟨a, rfl, g2, g3, g4, g5⟩ := h
        refine ⟨a, rfl, g2, g3, fun f => ?_, g5⟩
        obtain ⟨j, b, d', q, q'⟩ := f
        unfold putSl at e
        split at e
        · rename_i hf
          cases r0 with
          | dt d0 =>
            cases e
            rcases set_at q with ⟨rfl, w⟩ | ⟨hne, q⟩
            · cases w
            · rw [set_ne hne] at q'
              exact g4 ⟨j, b, d', q, q'⟩
          | nw d0 =>
            cases e
            rcases set_at q with ⟨rfl, w⟩ | ⟨hne, q⟩
            · obtain ⟨a0, rfl, _⟩ := h0
              rcases set_at q' with ⟨_, w'⟩ | ⟨w', _⟩
              · cases w'
                exact hn a rfl ⟨d0, rfl⟩ (by show a ∈ a :: tmps vs rs; exact List.mem_cons_self)
              · exact w' rfl
            · rw [set_ne hne] at q'
              exact g4 ⟨j, b, d', q, q'⟩
          | sl _ => cases e
        · cases e
    · cases v <;> cases r <;> first | exact hm | exact List.mem_cons_of_mem _ hm
theorem par_rel {z : Fm} {F H : Hp} : ∀ {is : List Nat} {vs : List V} {rs : List R} {σ : St} {env env' : Env'}, RelB K ct z F H σ env → ResA K ct z F H σ env vs rs → (tmps vs rs).Nodup → (∀ r ∈ rs, ∀ j, r ≠ .sl j) → parPut is rs env = some env' →
    RelB K ct z F H (setAll σ is vs) env' ∧ vs.length = is.length
  | [], _, _, σ, env, env', R0, .nil, _, _, e => by cases e; exact ⟨R0, rfl⟩
  | [], _, _, σ, env, env', R0, .cons _ _, _, _, e => by cases e
  | _ :: _, _, _, σ, env, env', R0, .nil, _, _, e => by cases e
  | i :: is, _, _, σ, env, env', R0, .cons (v := v) (vs := vs) (r := r) (rs := rs) h t, nd, hs, e => by
    unfold parPut at e
    cases q : putSl i r env with
    | none => rw [q] at e; cases e
    | some env1 =>
      rw [q] at e
      have R1 := putSl_rel R0 h q
      have nd' : (tmps vs rs).Nodup := by
        cases v <;> cases r <;> first | exact nd | exact (List.nodup_cons.mp nd).2
      have t' := t.put h q (fun a e1 ⟨d, e2⟩ hm => by
        subst e1 e2
        exact (List.nodup_cons.mp nd).1 hm) (fun r' hr => hs r' (List.mem_cons_of_mem _ hr))
      obtain ⟨h1, h2⟩ := par_rel (is := is) R1 t' nd' (fun r' hr => hs r' (List.mem_cons_of_mem _ hr)) e
      exact ⟨h1, congrArg (· + 1) h2⟩
theorem parPut_nosl : ∀ {is : List Nat} {rs : List R} {env env' : Env'}, parPut is rs env = some env' → ∀ r ∈ rs, ∀ j, r ≠ .sl j
  | [], [], _, _, _, r, hr, _ => nomatch hr
  | [], _ :: _, _, _, e, _, _, _ => nomatch e
  | _ :: _, [], _, _, e, _, _, _ => nomatch e
  | i :: is, r0 :: rs, env, env', e, r, hr, j => by
    unfold parPut at e
    cases q : putSl i r0 env with
    | none => rw [q] at e; cases e
    | some env1 =>
      rw [q] at e
      rcases List.mem_cons.mp hr with w | w
      · subst w
        intro hj
        subst hj
        unfold putSl at q
        split at q <;> cases q
      · exact parPut_nosl e r w j
theorem ps_parV {is : List Nat} {xs : List Str} {ts es : List Expr} {ms : Env' → Option (List R × Env')} {kt k2 : Nat} {pt pt2 : Pos} (hc : X.calm = true) (hN : X.N.Nodup) (hnd : is.Nodup) (hl : is.length = xs.length) (hz : is.length ≤ sizeLine) (h0 : is ≠ [])
    (hx : ∀ (j i : Nat) (x : Str), is[j]? = some i → xs[j]? = some x → X.N[i]? = some x ∧ X.env.scope.names.lookup x = some .local) (ha : PA X es (tRB X.K ct ms))
    (hw : swappedStores [.Tuple ts kt pt] (.Tuple es k2 pt2) X.env = pure (some xs)) :
    PS X (.Assign [.Tuple ts kt pt] (.Tuple es k2 pt2) pos) (tS X.K ct (parM is ms)) := by
  refine (ps_parN hc hN hnd hl hz h0 hx ha hw).vimp fun D σ H ⟨z, F, env, rel, fl, env', eq, k⟩ => ?_
  unfold parM at eq
  cases q : ms env with
  | none => rw [q] at eq; cases eq
  | some p =>
    obtain ⟨rs, env1⟩ := p
    rw [q] at eq
    simp only at eq
    cases q2 : parPut is rs env1 with
    | none => rw [q2] at eq; cases eq
    | some env2 =>
      rw [q2] at eq
      cases eq
      refine ⟨z, F, env, rel, rs, env1, q, fun vs F' H' ex R1 rb hn => ?_⟩
      obtain ⟨h1, h2⟩ := par_rel R1 rb.all rb.nd (parPut_nosl q2) q2
      exact ⟨h2, k _ F' H' ex h1⟩
def gSet (is : List Nat) : TGs := fun vs σ H Q => vs.length = is.length ∧ Q (setAll σ is vs) H
theorem pgs_set0 : PGs X [] (gSet []) := pgs_nil.vimp fun vs σ H Q ⟨h1, h2⟩ => by
  have e : vs = [] := List.length_eq_zero_iff.mp h1
  subst e
  exact ⟨rfl, h2⟩
theorem pgs_set1 {e : Expr} {es : List Expr} {i : Nat} {is : List Nat} (h1 : PG X e (gName i)) (h2 : PGs X es (gSet is)) (hs : (assignEach (e :: es) X.env).map (·.2) = assign e X.env :: (assignEach es X.env).map (·.2)) : PGs X (e :: es) (gSet (i :: is)) := by
  refine (pgs_cons h1 h2 hs).vimp fun vs σ H Q ⟨h1, h2⟩ => ?_
  cases vs with
  | nil => cases h1
  | cons v vs => exact ⟨v, vs, rfl, Nat.succ.inj h1, h2⟩
theorem ps_parT {is : List Nat} {ts es : List Expr} {ms : Env' → Option (List R × Env')} {kt k2 : Nat} {pt pt2 : Pos} (hc : X.calm = true) (hz : is.length ≤ sizeLine) (hg : PGs X ts (gSet is)) (hn : (assignEach ts X.env).length = is.length) (hst : (assignEach ts X.env).findIdx? (·.1) = none) (ha : PA X es (tRB X.K ct ms))
    (hw : swappedStores [.Tuple ts kt pt] (.Tuple es k2 pt2) X.env = pure none) :
    PS X (.Assign [.Tuple ts kt pt] (.Tuple es k2 pt2) pos) (tS X.K ct (parM is ms)) := by
  refine (ps_asg (pe_tup ha) (pg_tup hc hg hn hst) rfl hw rfl).vimp fun D σ H ⟨z, F, env, rel, fl, env', eq, k⟩ => ?_
  unfold parM at eq
  cases q : ms env with
  | none => rw [q] at eq; cases eq
  | some p =>
    obtain ⟨rs, env1⟩ := p
    rw [q] at eq
    simp only at eq
    cases q2 : parPut is rs env1 with
    | none => rw [q2] at eq; cases eq
    | some env2 =>
      rw [q2] at eq
      cases eq
      refine ⟨z, F, env, rel, rs, env1, q, fun vs F' H' ex R1 rb hn => ?_⟩
      obtain ⟨h1, h2⟩ := par_rel R1 rb.all rb.nd (parPut_nosl q2) q2
      refine ⟨by rw [h2]; exact hz, fun p np => ⟨p, vs, rfl, .inl (.inl upd_same), h2, h2, k _ F' _ ex (h1.heap (Ex.new np))⟩⟩
theorem swapsL_of {t : Expr} {l : Nat} {env : Env} (h : isComp e = false) : swapsWithSole [t] e l env = pure false := swaps_of h
/-! ### a tuple taken apart -/
theorem ps_tuV {is : List Nat} {ts : List Expr} {kt : Nat} {pt : Pos} (h : PE X e (tV X.K ct m)) (hg : PG X (.Tuple ts kt pt) (gD X.K ct (.tu is))) (hs : isComp e = false) (hw : swappedStores [.Tuple ts kt pt] e X.env = pure none) :
    PS X (.Assign [.Tuple ts kt pt] e pos) (tS X.K ct (asgTuM is m)) := by
  refine (ps_asg h.vfrz hg (swapsL_of hs) hw rfl).vimp fun D σ H ⟨z, F, env, rel, fl, env', eq, k⟩ => ?_
  unfold asgTuM at eq
  split at eq
  · rename_i ds env1 q
    cases q2 : putAll is ds env1 with
    | none => rw [q2] at eq; cases eq
    | some env2 =>
      rw [q2] at eq
      cases eq
      exact ⟨z, F, env, rel, _, _, q, fun v F' H' ex R1 rp => ⟨z, F', env1, .tup ds, _, R1, .inl rp, q2, fun σ' _ R2 => k σ' F' H' ex R2⟩⟩
  · cases eq
/-! ### places of lists -/
theorem setAt_rel {z : Fm} {F H : Hp} {σ : St} {env env' : Env'} {i : Nat} {k : Int} {v : V} {d : D} (R0 : RelB K ct z F H σ env) (rp : Rp K ct F v d) (e : setAt i k d env = some env') :
    ∃ a xs j, σ[i]? = some (some (.ref a)) ∧ H a = some (.lst xs) ∧ ixN xs.length k = some j ∧ RelB K ct z F (upd H a (.lst (xs.set j v))) σ env' := by
  unfold setAt at e
  split at e
  · rename_i b l q
    obtain ⟨a, xs, h1, h2, h3, h4⟩ := slot_lst R0 q
    split at e
    · rename_i j hj
      cases e
      exact ⟨a, xs, j, h1, h3, by rw [h4.length]; exact hj, R0.write q h1 (fun c hc => upd_ne hc) ⟨_, upd_same, h4.set rp j⟩⟩
    · cases e
  · cases e
theorem t_setIx {i : Nat} {mix : Env' → Option (R × Env')} {v : V} {σ : St} {H : Hp} {Q : St → Hp → Prop} {z : Fm} {F : Hp} {env env1 env2 : Env'} {kk : Int} {d : D} (rel : RelB K ct z F H σ env) (rp : Rp K ct F v d) (ho : isOw env i = true) (q : pz (mix env) = some (.dt (.int kk), env1)) (q2 : setAt i kk d env1 = some env2)
    (k : ∀ F' H', Ex F F' → RelB K ct z F' H' σ env2 → Q σ H') : gSub (tV K ct (varM i)) (tV K ct fun env => pz (mix env)) rSetL v σ H Q := by
  obtain ⟨b0, l0, q0⟩ := isOw_at ho
  refine ⟨z, F, env, rel, _, _, var_own (z := z) (F := F) (H := H) (σ := σ) q0, fun v1 F1 H1 e1 R1 p1 => ⟨z, F1, env, R1, _, _, q, fun v2 F2 H2 e2 R2 p2 => ?_⟩⟩
  cases p2
  obtain ⟨a, xs, j, h1, h2, h3, h4⟩ := setAt_rel R2 (rp.mono (e1.trans e2)) q2
  have p1' : σ[i]? = some (some v1) := p1
  rw [h1] at p1'; cases p1'
  exact ⟨a, xs, kk, j, rfl, rfl, h2, h3, k F2 _ (e1.trans e2) h4⟩
theorem assign_sub {o i : Expr} {p : Pos} (h : isSlice i = false) (env : Env) (v : Value) : assign (.Subscript o i p) env v = (do
      let ov ← holding [v] (eval o env)
      let iv ← holding [v, ov] (eval i env)
      standAt p
      holding [v, ov, iv] (setItem ov iv v)
      release [v, ov, iv] []) := by
  cases i <;> first | rfl | cases h
theorem ps_setIxV {i : Nat} {x : Str} {ie : Expr} {mix : Env' → Option (R × Env')} {p p' : Pos} (hv : PE X (.Name x p) (tV X.K ct (varM i))) (hx : PE X ie (tV X.K ct mix)) (h : PE X e (tV X.K ct m)) (hi : isSlice ie = false) (hs : isComp e = false) :
    PS X (.Assign [.Subscript (.Name x p) ie p'] e pos) (tS X.K ct (setIxM i mix m)) := by
  refine (ps_asg h.vfrz (pg_sub hv hx.vpz set_list (assign_sub hi X.env)) (swapsL_of hs) swapped_sub rfl).vimp fun D σ H ⟨z, F, env, rel, fl, env', eq, k⟩ => ?_
  unfold setIxM at eq
  split at eq
  · rename_i d env1 q
    split at eq
    · rename_i ho
      split at eq
      · rename_i kk env2 q2
        cases q3 : setAt i kk d env2 with
        | none => rw [q3] at eq; cases eq
        | some env3 =>
          rw [q3] at eq
          cases eq
          exact ⟨z, F, env, rel, _, _, q, fun v F' H' ex R1 rp => t_setIx R1 rp ho q2 q3 fun F2 H2 e2 R2 => k σ F2 H2 (ex.trans e2) R2⟩
      · cases eq
    · cases eq
  · cases eq
/-- several targets -/
def gT (K : PySem.W.Frag) (ct : Nat → Addr) (kt : List D → Env' → Option Env') : TGs := fun vs σ H Q => ∃ z F env ds env', RelB K ct z F H σ env ∧ RpA K ct F vs ds ∧ kt ds env = some env' ∧ ∀ σ' F' H', Ex F F' → RelB K ct z F' H' σ' env' → Q σ' H'
theorem pgs_nilT : PGs X [] (gT X.K ct tNilM) := by
  refine pgs_nil.vimp fun vs σ H Q ⟨z, F, env, ds, env', rel, rp, eq, k⟩ => ?_
  cases rp with
  | nil => cases eq; exact ⟨rfl, k σ F H (Ex.refl F) rel⟩
  | cons _ _ => cases eq
theorem pgs_nmT {es : List Expr} {i : Nat} {kt : List D → Env' → Option Env'} (h1 : PG X e (gD X.K ct (.nm i))) (h2 : PGs X es (gT X.K ct kt))
    (hs : (assignEach (e :: es) X.env).map (·.2) = assign e X.env :: (assignEach es X.env).map (·.2)) : PGs X (e :: es) (gT X.K ct (tNmM i kt)) := by
  refine (pgs_cons h1 h2 hs).vimp fun vs σ H Q ⟨z, F, env, ds, env', rel, rp, eq, k⟩ => ?_
  cases rp with
  | nil => cases eq
  | @cons v vs d ds h r =>
    unfold tNmM at eq
    simp only at eq
    cases q : putSl i (.dt d) env with
    | none => rw [q] at eq; cases eq
    | some env1 =>
      rw [q] at eq
      exact ⟨v, vs, rfl, z, F, env, d, env1, rel, .inl h, q, fun σ1 s1 R1 => ⟨z, F, env1, ds, env', R1, r, eq, k⟩⟩
theorem pgs_ixT {es : List Expr} {i : Nat} {x : Str} {ie : Expr} {mix : Env' → Option (R × Env')} {p p' : Pos} {kt : List D → Env' → Option Env'} (hv : PE X (.Name x p) (tV X.K ct (varM i))) (hx : PE X ie (tV X.K ct mix)) (hi : isSlice ie = false) (h2 : PGs X es (gT X.K ct kt))
    (hs : (assignEach (.Subscript (.Name x p) ie p' :: es) X.env).map (·.2) = assign (.Subscript (.Name x p) ie p') X.env :: (assignEach es X.env).map (·.2)) : PGs X (.Subscript (.Name x p) ie p' :: es) (gT X.K ct (tIxM i mix kt)) := by
  refine (pgs_cons (pg_sub hv hx.vpz set_list (assign_sub hi X.env)) h2 hs).vimp fun vs σ H Q ⟨z, F, env, ds, env', rel, rp, eq, k⟩ => ?_
  cases rp with
  | nil => cases eq
  | @cons v vs d ds h r =>
    unfold tIxM at eq
    simp only at eq
    split at eq
    · rename_i ho
      split at eq
      · rename_i kk env1 q
        cases q3 : setAt i kk d env1 with
        | none => rw [q3] at eq; cases eq
        | some env2 =>
          rw [q3] at eq
          exact ⟨v, vs, rfl, t_setIx rel h ho q q3 fun F2 H2 e2 R2 => ⟨z, F2, env2, ds, env', R2, r.mono e2, eq, fun σ' F' H' ex R' => k σ' F' H' (e2.trans ex) R'⟩⟩
      · cases eq
    · cases eq
theorem gT_len {ts : Ts} {P : Pg} {cf : Nat → List Sl → Option (R × List Sl)} : ∀ {ds : List D} {env env' : Env'}, True := trivial
theorem ps_asgTV {ts : List Expr} {n : Nat} {kt : Nat} {pt : Pos} {kk : List D → Env' → Option Env'} (hc : X.calm = true) (h : PE X e (tV X.K ct m)) (hg : PGs X ts (gT X.K ct kk)) (hn : (assignEach ts X.env).length = n) (hst : (assignEach ts X.env).findIdx? (·.1) = none) (hl : ∀ ds env env', kk ds env = some env' → ds.length = n)
    (hs : isComp e = false) (hw : swappedStores [.Tuple ts kt pt] e X.env = pure none) :
    PS X (.Assign [.Tuple ts kt pt] e pos) (tS X.K ct (asgTM kk m)) := by
  refine (ps_asg h.vfrz (pg_tup hc hg hn hst) (swapsL_of hs) hw rfl).vimp fun D σ H ⟨z, F, env, rel, fl, env', eq, k⟩ => ?_
  unfold asgTM at eq
  split at eq
  · rename_i ds env1 q
    cases q2 : kk ds env1 with
    | none => rw [q2] at eq; cases eq
    | some env2 =>
      rw [q2] at eq
      cases eq
      refine ⟨z, F, env, rel, _, _, q, fun v F' H' ex R1 rp => ?_⟩
      cases rp with
      | @tup a xs _ hq r => exact ⟨a, xs, rfl, (R1.r.sub.tpT hq).sq, by rw [r.length]; exact hl _ _ _ q2, z, F', env1, ds, _, R1, r, q2, fun σ' F2 H2 e2 R2 => k σ' F2 H2 (ex.trans e2) R2⟩
  · cases eq
/-! ### attributes -/
theorem ps_setFV {i : Nat} {x : Str} {f : Str} {p p' : Pos} (hcl : ∀ c, Cls X.K (ct c)) (hna : ∀ c, NoAttr X.K (ct c) f) (hv : PE X (.Name x p) (tV X.K ct (varM i))) (h : PE X e (tV X.K ct m)) (hs : isComp e = false) :
    PS X (.Assign [.Attribute (.Name x p) f p'] e pos) (tS X.K ct (setFM i f m)) := by
  refine (ps_fld hv h.vfrz (swaps_of hs)).vimp fun D σ H ⟨z, F, env, rel, fl, env', eq, k⟩ => ?_
  unfold setFM at eq
  split at eq
  · rename_i d env1 q
    split at eq
    · rename_i b c fs q0
      split at eq
      · rename_i hf
        cases eq
        refine ⟨z, F, env, rel, _, _, q, fun v F' H' ex R1 rp => ?_⟩
        have hvm : varM i env1 = some (.sl i, env1) := by unfold varM; rw [q0]
        refine ⟨z, F', env1, R1, _, _, hvm, fun v2 F2 H2 e2 R2 p2 => ?_⟩
        obtain ⟨a, h1, h2, dx, gs, h3, h4, h5⟩ := R2.r.ow i b _ q0
        have p2' : σ[i]? = some (some v2) := p2
        rw [h1] at p2'; cases p2'
        refine ⟨a, ct c, dx, gs, rfl, h3, hcl c, hna c, by rw [h5.length]; exact hf.1, ?_⟩
        exact k σ F2 _ (ex.trans e2) (R2.write (H' := upd H2 a (.ins (ct c) dx (putF f v gs))) q0 h1 (fun c hc => upd_ne hc) ⟨dx, _, upd_same, h4, h5.putNew (rp.mono e2) hf.2⟩)
      · cases eq
    · cases eq
  · cases eq
end
end VI
namespace VI
open PySem L2
section
variable {P : Program} {w : World} {K : PySem.W.Frag} {mg : Str → Option Value} {base : Heap}
/-- a def by its body -/
theorem fn_ofG {k : Nat} {f : Addr} {name qual : Str} {params : Arguments} {body : List Stmt} {scope : Scope} {dV kV doc pm cdv ctv oc : Value} {an od : Option Addr}
    {osl : Array (Option Value)} {N ps : List Str} {sp : List V → Hp → VK → Prop} (lk : K.lookup f = some ⟨oc, od, .func (PySem.W.fnOf name qual params body scope dV kV doc pm an cdv ctv), osl⟩) (hcd : PySem.W.codeIn K cdv qual = true) (S : FnScope N ps scope)
    (len : ∀ vs H Q, sp vs H Q → vs.length = ps.length)
    (hbody : ∀ (A : Around) (outer : List Env) (s : Shared) (H : Hp) (vs : List V) (Q : VK), Room k (A.deeper (PyProof.Rows.envOfC qual scope s.heap.objs.size f cdv)) → A.guards = some [] → sp vs H Q →
      ∃ t, PSs (cxOf CX0 P w K mg base N qual scope f cdv A outer s H E0).nox body t ∧ t { nx := fun _ H' => Q .non H', rt := Q } (start N vs) H) :
    FnG P w K mg base (k + 1) f (PySem.W.fnOf name qual params body scope dV kV doc pm an cdv ctv) ps sp := by
  refine ⟨len, fun A outer s H args us vs Q hr hgd e0 hb r hsp => ?_⟩
  have hl := len _ _ _ hsp
  have KX : K.In s.heap := e0.mod.kin.keeps fun b o e => (e0.bs b o e).1
  have lim : s.heap.NoLimit := e0.mod.nolimit.keeps fun b o e => (e0.bs b o e).1
  have hkind : ∀ y ∈ ps.zip us, scope.names.lookup y.1 = some .local ∨ (scope.names.lookup y.1 = some .cell ∧ ((cellsFrom (s.heap.objs.size + 1) scope.names []).lookup y.1).isSome = true) := fun ⟨n, v⟩ hy => by
    rcases S.par n (List.of_mem_zip hy).1 with q | q
    · exact .inl q
    · exact .inr ⟨q, PySem.W.cellsFrom_some _ _ _ (.inl q)⟩
  refine codeAny_call_function hr.depth (KX _ _ lk) rfl S.co S.gen rfl (PySem.W.codeRec_of KX hcd) (hb _ _ _ _ ?_)
  refine wpAny_newFunctionEnv_cells S.kind hkind fun env he s1 x => ?_
  subst he
  refine ⟨lim.keeps x.toInCall.keep, codeAny_func ?_⟩
  obtain ⟨t, ht, hq⟩ := hbody A outer s H vs Q (hr.deeper _) hgd hsp
  have I : L2.Inv (cxOf CX0 P w K mg base N qual scope f cdv A outer s H E0) [] (start N vs) H s1 := inv_start S hr.hd e0 hl r x
  refine wpAny_mono (ht.nox.run [] s1 (start N vs) H _ I hq) (fun fl s' hs => ?_) fun e s' hs => hs
  have fin : ∀ {σ' : St} {H' : Hp} {v : V} {u : Value}, L2.Inv (cxOf CX0 P w K mg base N qual scope f cdv A outer s H E0) [] σ' H' s' → RelV v u → Q v H' → CE outer P w H s Q u s' :=
    fun {σ' H' v u} J rv q => ⟨v, H', J.os, J.bare, J.base, J.hok, rv, q⟩
  cases fl with
  | ret u =>
    obtain ⟨v, σ', H', J, rv, q⟩ := hs
    exact fin J rv q
  | next =>
    obtain ⟨σ', H', J, q⟩ := hs
    exact fin (v := V.non) (u := Value.none) J rfl q
  | brk =>
    obtain ⟨_, _, _, q⟩ := hs
    exact False.elim q
  | cont =>
    obtain ⟨_, _, _, q⟩ := hs
    exact False.elim q
end
section
variable {K : PySem.W.Frag} {ct : Nat → Addr}
theorem app_at {α : Type} {l m : List α} {i : Nat} {x : α} (h : (l ++ m)[i]? = some x) : l[i]? = some x ∨ x ∈ m := by
  by_cases hi : i < l.length
  · rw [List.getElem?_append_left hi] at h; exact .inl h
  · rw [List.getElem?_append_right (by omega)] at h
    exact .inr (List.mem_of_getElem? h)
theorem startE_at {n : Nat} {ss : List Sl} {i : Nat} {s : Sl} (h : (startE n ss)[i]? = some s) : ss[i]? = some s ∨ s = .no := by
  rcases app_at h with w | w
  · exact .inl w
  · exact .inr (List.eq_of_mem_replicate w)
theorem start_at {N : List Str} {vs : List V} {i : Nat} (h : i < vs.length) : (start N vs)[i]? = (vs.map some)[i]? := by
  unfold L2.start
  rw [List.getElem?_append_left (by simpa using h)]
/-- the state at a def's entry -/
theorem rel_start {F H : Hp} {N : List Str} {vs : List V} {ss : List Sl} (R0 : Rel K ct F H (vs.map some) ss) (hf : ∀ (j : Nat) (d : D), ss[j]? ≠ some (.ow false d)) (hl : vs.length ≤ N.length) :
    RelB K ct (here (vs.map some) (fun a => H a ≠ none) F H (vs.map some) ss) F H (start N vs) (startE N.length ss) := by
  have len : ss.length = vs.length := by rw [← R0.len, List.length_map]
  have key : ∀ (i : Nat) (s : Sl), (startE N.length ss)[i]? = some s → s ≠ .no → ss[i]? = some s ∧ (start N vs)[i]? = (vs.map some)[i]? := fun (i : Nat) (s : Sl) h hn => by
    rcases startE_at h with w | w
    · have : i < ss.length := (List.getElem?_eq_some_iff.mp w).1
      exact ⟨w, start_at (by omega)⟩
    · exact (hn w).elim
  have ft : ∀ a, foot (start N vs) (startE N.length ss) a → foot (vs.map some) ss a := fun a ⟨i, b, d, q, q'⟩ => by
    obtain ⟨h1, h2⟩ := key i _ q (by simp)
    exact ⟨i, b, d, h1, h2 ▸ q'⟩
  refine ⟨⟨R0.sub, ?_, fun i d q => ?_, fun i b d q => ?_, fun i j b b' d d' a q1 q2 q3 q4 => ?_⟩, ⟨Ex.refl F, fun _ _ h _ => h, fun _ _ _ => rfl, fun _ h => h, fun a f => .inl (ft a f), fun i d q => (key i _ q (by simp)).2, fun a h => h, fun i d a q _ => (hf i d (key i _ q (by simp)).1).elim⟩⟩
  · unfold L2.start startE
    simp only [List.length_append, List.length_map, List.length_replicate]
    omega
  · obtain ⟨h1, h2⟩ := key i _ q (by simp)
    rw [h2]; exact R0.va i d h1
  · obtain ⟨h1, h2⟩ := key i _ q (by simp)
    rw [h2]; exact R0.ow i b d h1
  · obtain ⟨h1, h2⟩ := key i _ q1 (by simp)
    obtain ⟨h3, h4⟩ := key j _ q2 (by simp)
    exact R0.dj i j b b' d d' a h1 h3 (h2 ▸ q3) (h4 ▸ q4)
theorem clean_at {n i : Nat} {env : Env'} {s : Sl} (h : (cleanE n env)[i]? = some s) (hn : s ≠ .no) : i < n ∧ ∃ d, s = .ow true d ∧ env[i]? = some (.ow true d) := by
  unfold cleanE at h
  rw [List.getElem?_map] at h
  cases q : (List.range n)[i]? with
  | none => rw [q] at h; cases h
  | some j =>
    rw [q] at h
    have hj := List.getElem?_eq_some_iff.mp q
    obtain ⟨h1, h2⟩ := hj
    rw [List.getElem_range] at h2
    subst h2
    have h' : lentAt env i = s := by simpa using h
    unfold lentAt at h'
    split at h'
    · rename_i d q2
      exact ⟨by simpa using h1, d, h'.symm, q2⟩
    · exact (hn h'.symm).elim
/-- .. and at its end -/
theorem rel_end {z : Fm} {F H : Hp} {σ : St} {env : Env'} {L : St} (R0 : RelB K ct z F H σ env) (hL : z.L = L) : RelB K ct z F H L (cleanE L.length env) ∧ ∀ a, foot L (cleanE L.length env) a → foot σ env a := by
  have key : ∀ (i : Nat) (s : Sl), (cleanE L.length env)[i]? = some s → s ≠ .no → ∃ d, s = .ow true d ∧ env[i]? = some (.ow true d) ∧ L[i]? = σ[i]? := fun (i : Nat) (s : Sl) h hn => by
    obtain ⟨h1, d, h2, h3⟩ := clean_at h hn
    exact ⟨d, h2, h3, by rw [R0.n.lent i d h3, hL]⟩
  have ft : ∀ a, foot L (cleanE L.length env) a → foot σ env a := fun a ⟨i, b, d, q, q'⟩ => by
    obtain ⟨d', e1, e2, e3⟩ := key i _ q (by simp)
    cases e1
    exact ⟨i, true, d, e2, e3 ▸ q'⟩
  refine ⟨⟨⟨R0.r.sub, by simp [cleanE], fun i d q => ?_, fun i b d q => ?_, fun i j b b' d d' a q1 q2 q3 q4 => ?_⟩, ⟨R0.n.ex, R0.n.keep, R0.n.nofz, R0.n.th, fun a f => R0.n.fo a (ft a f), fun i d q => by rw [hL], R0.n.tz, fun i d a q q' => ?_⟩⟩, ft⟩
  · obtain ⟨d', e1, _⟩ := key i _ q (by simp); cases e1
  · obtain ⟨d', e1, e2, e3⟩ := key i _ q (by simp)
    cases e1
    rw [e3]; exact R0.r.ow i true d e2
  · obtain ⟨_, e1, e2, e3⟩ := key i _ q1 (by simp)
    obtain ⟨_, g1, g2, g3⟩ := key j _ q2 (by simp)
    cases e1; cases g1
    exact R0.r.dj i j true true d d' a e2 g2 (e3 ▸ q3) (g3 ▸ q4)
  · obtain ⟨d', e1, _⟩ := key i _ q (by simp); cases e1
/-- the promise of a def, read as its body's -/
theorem spF_body {P : Pg} {k f : Nat} {fn : Fn} {N : List Str} {vs : List V} {H : Hp} {Q : VK} (hf : P.fns[f]? = some fn) (hN : N.length = fn.n) (hle : fn.ps.length ≤ fn.n) (w : spF K ct (runN P (k + 1) f) fn.ps.length vs H Q) :
    tS K ct (exSs P (runN P k) fn.body) { nx := fun _ H' => Q .non H', rt := Q } (start N vs) H := by
  obtain ⟨hl, F, ss, R0, hno, r, ss', eq, k⟩ := w
  unfold runN at eq
  rw [hf] at eq
  simp only at eq
  split at eq
  · rename_i hs
    rw [← hN] at eq
    refine ⟨_, F, startE N.length ss, rel_start R0 hno (by omega), ?_⟩
    have hvl : (vs.map some).length = fn.ps.length := by rw [List.length_map]; exact hl
    cases q : exSs P (runN P _) fn.body (startE N.length ss) with
    | none => rw [q] at eq; cases eq
    | some p =>
      obtain ⟨fl, env'⟩ := p
      refine ⟨fl, env', rfl, ?_⟩
      rw [q] at eq
      cases fl with
      | next =>
        cases eq
        intro σ' F' H' ex R1
        obtain ⟨R2, ft⟩ := rel_end (L := vs.map some) R1 rfl
        rw [hvl] at R2
        exact k .non F' H' R2 .non
      | brk => cases eq
      | cnt => cases eq
      | ret r =>
        cases eq
        intro v σ' F' H' ex R1 rr
        obtain ⟨R2, ft⟩ := rel_end (L := vs.map some) R1 rfl
        rw [hvl] at R2 ft
        refine k v F' H' R2 ?_
        cases r with
        | dt d => exact rr
        | nw d =>
          obtain ⟨a, h1, h2, h3, h4, h5⟩ := rr
          exact ⟨a, h1, h2, h3, fun f => h4 (ft a f), Classical.not_not.mp h5⟩
        | sl i => exact rr.elim
  · cases eq
theorem spF_len {cf : List Sl → Option (R × List Sl)} {n : Nat} {vs : List V} {H : Hp} {Q : VK} (w : spF K ct cf n vs H Q) : vs.length = n := w.1
end
end VI
namespace VI
open PySem L2
/-- n turns, each with a new tuple; G: what is walked stands -/
def ItS (G : Hp → Prop) (n : Nat) (row : Nat → List V) : L2.It :=
  ⟨fun i H => G H ∧ i < n, fun i H v H' => ∃ T, v = .ref T ∧ H T = none ∧ H' = upd H T (.tup (row i)), fun i H => G H ∧ i = n⟩
section
variable {tg : Expr} {it : Addr} {fp fq wr : List Addr} {n : Nat}
theorem item_of {X : Cx} {pins : List (Addr × Obj)} {s : Shared} {σ : St} {H : Hp} {E : Value → Shared → Prop} {Y : Nat → Heap → Value → Heap → Prop} {St : Nat → Heap → Prop} {tn : Nat → Heap → Prop} {i : Nat} {xs : List V} (I : L2.Inv X pins σ H s) (hf : ∀ b ∈ fp, FpOk X pins H b) (hl : ∀ b ∈ fp, b < s.heap.objs.size)
    (hw : ∀ b ∈ wr, b ∈ fp) (W : GoesN X.prog X.w X.A tg it fq wr n Y St) (hst : St i s.heap) (hi : i < n) (hz : xs.length ≤ sizeLine)
    (hY : ∀ h v h', Y i h v h' → ∃ T vals, v = .ref T ∧ h.objs.size ≤ T ∧ Vals xs vals ∧ h'.IsTuple T vals.toArray) (ht : ∀ h, St (i + 1) h → tn (i + 1) h) :
    wpAny (model X.prog X.w) X.A (pyNext (.ref it)) (fun r s1 => ∃ u, r = some u ∧
      wpAny (model X.prog X.w) X.A (letOwnedTupleGo tg (.ref it) u) (fun _ s2 => ∃ x H', L2.Inv X pins σ H' s2 ∧ RelV x u ∧ (∃ T, x = .ref T ∧ H T = none ∧ H' = upd H T (.tup xs)) ∧ tn (i + 1) s2.heap ∧ ∀ b ∈ fp, H' b = none) E s1) E s := by
  refine W.goes i s (fun u s2 => ∃ x H', L2.Inv X pins σ H' s2 ∧ RelV x u ∧ (∃ T, x = .ref T ∧ H T = none ∧ H' = upd H T (.tup xs)) ∧ tn (i + 1) s2.heap ∧ ∀ b ∈ fp, H' b = none) E hi hst fun v h' tk y st' kp _ => ?_
  obtain ⟨T, vals, rfl, hT, rv, hI⟩ := hY _ _ _ y
  have hn : H T = none := I.hok.fresh hT
  have I1 : L2.Inv X pins σ (upd H T (.tup xs)) { s with heap := h', toks := tk } := I.turnedNew (ch := wr) kp (fun b hb => hf b (hw b hb)) hT ⟨hz, vals, rv, hI⟩
  refine ⟨.ref T, _, I1, rfl, ⟨T, rfl, hn, rfl⟩, ht _ st', fun b hb => ?_⟩
  rw [upd_ne (Nat.ne_of_lt (Nat.lt_of_lt_of_le (hl b hb) hT))]
  exact (hf b hb).1
theorem done_of {X : Cx} {pins : List (Addr × Obj)} {s : Shared} {σ : St} {H : Hp} {E : Value → Shared → Prop} {Y : Nat → Heap → Value → Heap → Prop} {St : Nat → Heap → Prop} (I : L2.Inv X pins σ H s) (hf : ∀ b ∈ fp, FpOk X pins H b)
    (hw : ∀ b ∈ wr, b ∈ fp) (W : GoesN X.prog X.w X.A tg it fq wr n Y St) (hst : St n s.heap) :
    wpAny (model X.prog X.w) X.A (pyNext (.ref it)) (fun r s1 => r = none ∧ L2.Inv X pins σ H s1) E s :=
  W.stops s _ E hst fun h' tk kp _ => I.turnedL (ch := wr) kp fun b hb => hf b (hw b hb)
end
theorem turn_enmT {P : Program} {w : World} {K : PySem.W.Frag} {elts : List Expr} {kk : Nat} {tpos : Pos} {xs : List V} (a e it : Addr) :
    Turn P w K (.Tuple elts kk tpos) (ItS (fun H => SqT K H a xs) xs.length (fun i => [.int (0 + (i : Int)), xs.getD i .non])) [e, it] e (fun i h => (∃ old, IsEnum h e it (0 + (i : Int)) old) ∧ h.IsTupleIter it a i ∧ e ≠ it ∧ a ≠ it ∧ a ≠ e) where
  mem := by simp
  obj := fun i h st b hb => by
    obtain ⟨⟨old, he⟩, ⟨o, ho, hc, hd⟩, _⟩ := st
    have e' : b = e ∨ b = it := by simpa using hb
    rcases e' with z | z
    · rw [z]; exact ⟨_, he, fun v q => nomatch q⟩
    · rw [z]; exact ⟨o, ho, fun v q => by rw [hd] at q; cases q⟩
  keep := fun i h h' st k => let ⟨⟨old, he⟩, hi, hne⟩ := st; ⟨⟨old, k e (by simp) _ he⟩, hi.at fun o q => k it (by simp) o q, hne⟩
  item := by
    intro X hP hw hK hc i pins s σ H E I hf st hg
    subst hP hw hK
    obtain ⟨hE, hit, hne, ha1, ha2⟩ := id st
    obtain ⟨hq, hi⟩ := hg
    obtain ⟨its, rv, p, hz⟩ := I.tuple hq
    have hlen : its.toArray.size = xs.length := by rw [List.size_toArray]; exact rv.length.symm
    have W := GoesN.enumFrom (elts := elts) (x1 := kk) (pos := tpos) (prog := X.prog) (w := X.w) (A := X.A) 0 (Draws.tuple (A := X.A.in1) (I.ok.hd hc) it a ha1 its.toArray) e hne (by simp [hne, Ne.symm ha2]) (by simp)
    have hel : e < s.heap.objs.size := by obtain ⟨_, q⟩ := hE; exact Heap.lt_size q
    have hil : it < s.heap.objs.size := by obtain ⟨_, q, _⟩ := hit; exact Heap.lt_size q
    refine item_of (fp := [e, it]) (wr := [e, it]) (tn := fun i h => (∃ old, IsEnum h e it (0 + (i : Int)) old) ∧ h.IsTupleIter it a i ∧ e ≠ it ∧ a ≠ it ∧ a ≠ e) (xs := [.int (0 + (i : Int)), xs.getD i .non]) I hf (fun b hb => ?_) (fun b hb => hb) W ⟨hE, hit, p⟩ (by rw [hlen]; exact hi) (by show 2 ≤ sizeLine; decide) (fun h v h' y => ?_) fun h q => ⟨q.1, q.2.1, hne, ha1, ha2⟩
    · have e' : b = e ∨ b = it := by simpa using hb
      rcases e' with z | z
      · rw [z]; exact hel
      · rw [z]; exact hil
    · obtain ⟨T, t, x, rfl, hT, hx, hI⟩ := y
      obtain ⟨u, hu, ru⟩ := rv.get (List.getElem?_eq_getElem hi)
      have hx' : its[i]? = some x := by simpa using hx
      rw [hu] at hx'; cases hx'
      refine ⟨T, [.int (0 + (i : Int)) t, x], rfl, hT, .cons (show RelV (.int _) (.int _ _) from ⟨_, rfl⟩) (.cons ?_ .nil), hI⟩
      rw [List.getD_eq_getElem?_getD, List.getElem?_eq_getElem hi]
      exact ru
  done := by
    intro X hP hw hK hc i pins s σ H E I hf st hg
    subst hP hw hK
    obtain ⟨hE, hit, hne, ha1, ha2⟩ := id st
    obtain ⟨hq, hi⟩ := hg
    obtain ⟨its, rv, p, hz⟩ := I.tuple hq
    have hlen : its.toArray.size = xs.length := by rw [List.size_toArray]; exact rv.length.symm
    have W := GoesN.enumFrom (elts := elts) (x1 := kk) (pos := tpos) (prog := X.prog) (w := X.w) (A := X.A) 0 (Draws.tuple (A := X.A.in1) (I.ok.hd hc) it a ha1 its.toArray) e hne (by simp [hne, Ne.symm ha2]) (by simp)
    subst hi
    rw [hlen] at W
    exact done_of (fp := [e, it]) (wr := [e, it]) I hf (fun b hb => hb) W ⟨hE, hit, p⟩
  self := fun A i s Q E st h => let ⟨⟨_, he⟩, _⟩ := st; wpAny_pyIter_enum he h
theorem turn_enmL {P : Program} {w : World} {K : PySem.W.Frag} {elts : List Expr} {kk : Nat} {tpos : Pos} {xs : List V} (a e it : Addr) :
    Turn P w K (.Tuple elts kk tpos) (ItS (fun H => SqL K H a xs) xs.length (fun i => [.int (0 + (i : Int)), xs.getD i .non])) [e, it] e (fun i h => (∃ old, IsEnum h e it (0 + (i : Int)) old) ∧ h.IsListIter it a i ∧ e ≠ it ∧ a ≠ it ∧ a ≠ e) where
  mem := by simp
  obj := fun i h st b hb => by
    obtain ⟨⟨old, he⟩, ⟨o, ho, hc, hd⟩, _⟩ := st
    have e' : b = e ∨ b = it := by simpa using hb
    rcases e' with z | z
    · rw [z]; exact ⟨_, he, fun v q => nomatch q⟩
    · rw [z]; exact ⟨o, ho, fun v q => by rw [hd] at q; cases q⟩
  keep := fun i h h' st k => let ⟨⟨old, he⟩, hi, hne⟩ := st; ⟨⟨old, k e (by simp) _ he⟩, hi.at fun o q => k it (by simp) o q, hne⟩
  item := by
    intro X hP hw hK hc i pins s σ H E I hf st hg
    subst hP hw hK
    obtain ⟨hE, hit, hne, ha1, ha2⟩ := id st
    obtain ⟨hq, hi⟩ := hg
    obtain ⟨its, rv, p, hz⟩ := I.list hq
    have hlen : its.toArray.size = xs.length := by rw [List.size_toArray]; exact rv.length.symm
    have W := GoesN.enumFrom (elts := elts) (x1 := kk) (pos := tpos) (prog := X.prog) (w := X.w) (A := X.A) 0 (Draws.list (A := X.A.in1) (I.ok.hd hc) it a ha1 its.toArray) e hne (by simp [hne, Ne.symm ha2]) (by simp)
    have hel : e < s.heap.objs.size := by obtain ⟨_, q⟩ := hE; exact Heap.lt_size q
    have hil : it < s.heap.objs.size := by obtain ⟨_, q, _⟩ := hit; exact Heap.lt_size q
    refine item_of (fp := [e, it]) (wr := [e, it]) (tn := fun i h => (∃ old, IsEnum h e it (0 + (i : Int)) old) ∧ h.IsListIter it a i ∧ e ≠ it ∧ a ≠ it ∧ a ≠ e) (xs := [.int (0 + (i : Int)), xs.getD i .non]) I hf (fun b hb => ?_) (fun b hb => hb) W ⟨hE, hit, p.isList⟩ (by rw [hlen]; exact hi) (by show 2 ≤ sizeLine; decide) (fun h v h' y => ?_) fun h q => ⟨q.1, q.2.1, hne, ha1, ha2⟩
    · have e' : b = e ∨ b = it := by simpa using hb
      rcases e' with z | z
      · rw [z]; exact hel
      · rw [z]; exact hil
    · obtain ⟨T, t, x, rfl, hT, hx, hI⟩ := y
      obtain ⟨u, hu, ru⟩ := rv.get (List.getElem?_eq_getElem hi)
      have hx' : its[i]? = some x := by simpa using hx
      rw [hu] at hx'; cases hx'
      refine ⟨T, [.int (0 + (i : Int)) t, x], rfl, hT, .cons (show RelV (.int _) (.int _ _) from ⟨_, rfl⟩) (.cons ?_ .nil), hI⟩
      rw [List.getD_eq_getElem?_getD, List.getElem?_eq_getElem hi]
      exact ru
  done := by
    intro X hP hw hK hc i pins s σ H E I hf st hg
    subst hP hw hK
    obtain ⟨hE, hit, hne, ha1, ha2⟩ := id st
    obtain ⟨hq, hi⟩ := hg
    obtain ⟨its, rv, p, hz⟩ := I.list hq
    have hlen : its.toArray.size = xs.length := by rw [List.size_toArray]; exact rv.length.symm
    have W := GoesN.enumFrom (elts := elts) (x1 := kk) (pos := tpos) (prog := X.prog) (w := X.w) (A := X.A) 0 (Draws.list (A := X.A.in1) (I.ok.hd hc) it a ha1 its.toArray) e hne (by simp [hne, Ne.symm ha2]) (by simp)
    subst hi
    rw [hlen] at W
    exact done_of (fp := [e, it]) (wr := [e, it]) I hf (fun b hb => hb) W ⟨hE, hit, p.isList⟩
  self := fun A i s Q E st h => let ⟨⟨_, he⟩, _⟩ := st; wpAny_pyIter_enum he h
theorem meets_enum1 {v : Value} {o : Obj} {H : Heap → Prop} (B : Begins v o H) :
    Meets (Builtin.«enumerate.__new__» ⟨[.type "enumerate", v], []⟩) (fun _ R s => H s.heap ∧
      R (.ok (.ret (.ref (s.heap.push o).objs.size))) { s with heap := (s.heap.push o).push { cls := .type "enumerate", data := .fields #[.none, .bool false, .ref s.heap.objs.size, rawInt 0, .none, .none] } }) :=
  .of_wp fun prog w A R s h => by
    obtain ⟨hp, g, d, tk, os⟩ := s; obtain ⟨h1, h⟩ := h
    have hsub := sub_enumerate
    have q1 : ∀ {A' : Around} {E : Value → Shared → Prop} {Q : Value → Shared → Prop}, Q (.ref hp.objs.size) ⟨hp.push o, g, d, tk, os⟩ → wpAny (model prog w) A' (pyIter v) Q E ⟨hp, g, d, tk, os⟩ :=
      fun q => B.iter prog w _ _ ⟨hp, g, d, tk, os⟩ _ h1 q
    wp_walk using q1
    refine wpAny_stack_any fun st => wpAny_pure ?_
    split
    · rename_i c _ _ _ _ _
      cases (c == Value.type "enumerate")
      · wp_walk using q1
        exact ⟨_, rfl, h⟩
      · wp_walk using q1
        exact ⟨_, rfl, h⟩
    · wp_walk using q1
      exact ⟨_, rfl, h⟩
theorem enum_begins1 {prog : Program} {w : World} {A : Around} {E : Value → Shared → Prop} {s : Shared} {v : Value} {o : Obj} {H : Heap → Prop} {Q : Value → Shared → Prop} (B : Begins v o H) (h1 : H s.heap)
    (h : ∀ h', IsEnum h' (s.heap.objs.size + 1) s.heap.objs.size 0 .none → h'.get? s.heap.objs.size = some o → h'.objs.size = s.heap.objs.size + 2 →
      (∀ b o, s.heap.get? b = some o → h'.get? b = some o) → Q (.ref (s.heap.objs.size + 1)) { s with heap := h' }) :
    wpAny (model prog w) A (call (.type "enumerate") [v]) Q E s := by
  refine callType_new F.called_enumerate (by decide) (F.typeCall_enumerate_1 _) (F.newCall_enumerate_1 _) (fun obj => F.args_object_init_2 obj _) F.entry_enumerate_new
    (meets_enum1 B) ⟨h1, ?_⟩
  have hz : (s.heap.push o).objs.size = s.heap.objs.size + 1 := Heap.size_push ..
  show _ ∧ _
  rw [hz]
  have he : IsEnum ((s.heap.push o).push { cls := .type "enumerate", data := .fields #[.none, .bool false, .ref s.heap.objs.size, rawInt 0, .none, .none] }) (s.heap.objs.size + 1) s.heap.objs.size 0 .none := by
    have := Heap.get?_push_size (s.heap.push o) (o := { cls := .type "enumerate", data := .fields #[.none, .bool false, .ref s.heap.objs.size, rawInt 0, .none, .none] }) rfl
    rw [hz] at this; exact this
  refine ⟨⟨_, he, rfl⟩, h _ he (Heap.get?_push_of_some _ (Heap.get?_push_size _ B.free)) (by rw [Heap.size_push, hz]) fun b o x => Heap.get?_push_of_some _ (Heap.get?_push_of_some _ x)⟩
section
variable {X : Cx} {K : PySem.W.Frag} {ct : Nat → Addr}
theorem walk_enm {F : Hp} {G : Hp → Prop} {xs : List V} {ds : List D} (hG : ∀ H, Ex F H → G H) (r : RpA K ct F xs ds) :
    Walk (ItS G xs.length (fun i => [.int (0 + (i : Int)), xs.getD i .non])) (ds.zipIdx.map fun p => D.tup [.int (p.2 : Nat), p.1]).length (Ex F) (Yl K ct true F (ds.zipIdx.map fun p => D.tup [.int (p.2 : Nat), p.1])) := by
  have hl : (ds.zipIdx.map fun p => D.tup [.int (p.2 : Nat), p.1]).length = xs.length := by rw [List.length_map, List.length_zipIdx, r.length]
  rw [hl]
  refine ⟨fun i H hi e => ⟨hG H e, hi⟩, fun H e => ⟨hG H e, rfl⟩, fun i H v H' hi e y => ?_⟩
  obtain ⟨T, rfl, hT, rfl⟩ := y
  obtain ⟨d, hd, rp⟩ := r.get' (List.getElem?_eq_getElem hi)
  refine ⟨.tup [.int (i : Nat), d], ?_, .inr ⟨T, _, hT, rfl, fun F2 e2 n2 => .inr ⟨rfl, T, _, _, rfl, rfl, .inl (.inl upd_same), ?_⟩⟩⟩
  · rw [List.getElem?_map, List.getElem?_zipIdx, hd]
    simp
  · have e0 : (0 + (i : Int)) = (i : Int) := by omega
    have e1 : xs.getD i .non = xs[i] := by rw [List.getD_eq_getElem?_getD, List.getElem?_eq_getElem hi] <;> rfl
    simp only [e0, e1]
    exact .cons (.int _) (.cons (rp.mono (e2.trans (Ex.new n2))) .nil)
theorem pi_enmV {e : Expr} {m : Env' → Option (R × Env')} {p pos tpos : Pos} {elts : List Expr} {kk : Nat} (hg : Gl X "enumerate") (hm : X.mg "enumerate" = none) (h : PE X e (tV X.K ct m)) (hs : isStar e = false) :
    PI X (.Tuple elts kk tpos) (.Call (.Name "enumerate" p) [e] [] pos) (tI X.K ct true (enmM m)) := by
  refine ⟨fun pins s σ H R I w => ?_⟩
  obtain ⟨z, F, env, rel, xs, env', eq, k⟩ := w
  unfold enmM at eq
  have pa := pa_cons h.vfrz (pa_nil (X := X)) (star_of hs)
  split at eq
  · rename_i d env1 q
    cases d with
    | tup l =>
      cases eq
      refine PyProof.Rows.Call_ (ld_blt I hg hm PyProof.Rows.boot_enumerate (PyProof.Rows.callWith_type1 (thn (pa.run pos pins s σ H (fun vs H1 => ∃ a xs F', vs = [.ref a] ∧ TpT F' a xs ∧ RpA X.K ct F' xs l ∧ Ex F' H1 ∧ R (ItS (fun H => SqT X.K H a xs) xs.length (fun i => [.int (0 + (i : Int)), xs.getD i .non])) H1) I ⟨z, F, env, rel, _, _, q, fun v F' H' ex rl rp => ?_⟩) fun us s1 ⟨vs, H1, I1, r1, q1⟩ => ?_) (star_of hs) rfl))
      · cases rp with
        | @tup a ys _ hq r => exact ⟨a, ys, F', rfl, hq, r, rl.r.sub, k _ F' H' ex rl (walk_enm (fun H2 e2 => (e2.tpT hq).sq) r)⟩
      · obtain ⟨a, ys, F', rfl, hq, r, sub, q1⟩ := q1
        cases r1 with
        | cons r2 rr =>
          cases rr
          cases r2
          obtain ⟨its, rv, p', hz⟩ := I1.tuple (sub.tpT hq).sq
          have hal : a < s1.heap.objs.size := by obtain ⟨o, ho, _⟩ := id p'; exact Heap.lt_size ho
          refine enum_begins1 (begins_tuple a its.toArray) p' fun h' he hit hsz hk => wpAny_pyIter_enum he ?_
          have I2 : L2.Inv X pins σ H1 { s1 with heap := h' } := I1.kept (t' := s1.toks) hk
          refine ⟨s1.heap.objs.size + 1, [s1.heap.objs.size + 1, s1.heap.objs.size], _, _, H1, rfl, I2, turn_enmT a (s1.heap.objs.size + 1) s1.heap.objs.size, ⟨⟨.none, by simpa using he⟩, ⟨_, hit, rfl, rfl⟩, Nat.succ_ne_self _, Nat.ne_of_lt hal, Nat.ne_of_lt (Nat.lt_succ_of_lt hal)⟩, fun b hb => ?_, q1⟩
          have e' : b = s1.heap.objs.size + 1 ∨ b = s1.heap.objs.size := by simpa using hb
          have hle : s1.heap.objs.size ≤ b := by
            rcases e' with z | z
            · rw [z]; exact Nat.le_add_right _ _
            · rw [z]; exact Nat.le_refl _
          exact I1.fpOk hle (I1.hok.fresh hle)
    | lst l =>
      cases eq
      refine PyProof.Rows.Call_ (ld_blt I hg hm PyProof.Rows.boot_enumerate (PyProof.Rows.callWith_type1 (thn (pa.run pos pins s σ H (fun vs H1 => ∃ a xs F', vs = [.ref a] ∧ F' a = some (.lst xs) ∧ RpA X.K ct F' xs l ∧ Ex F' H1 ∧ R (ItS (fun H => SqL X.K H a xs) xs.length (fun i => [.int (0 + (i : Int)), xs.getD i .non])) H1) I ⟨z, F, env, rel, _, _, q, fun v F' H' ex rl rp => ?_⟩) fun us s1 ⟨vs, H1, I1, r1, q1⟩ => ?_) (star_of hs) rfl))
      · cases rp with
        | @lst a ys _ hq r => exact ⟨a, ys, F', rfl, hq, r, rl.r.sub, k _ F' H' ex rl (walk_enm (fun H2 e2 => SqL.of (e2 _ _ hq)) r)⟩
      · obtain ⟨a, ys, F', rfl, hq, r, sub, q1⟩ := q1
        cases r1 with
        | cons r2 rr =>
          cases rr
          cases r2
          obtain ⟨its, rv, p', hz⟩ := I1.list (SqL.of (sub _ _ hq))
          have hal : a < s1.heap.objs.size := p'.lt
          refine enum_begins1 (begins_list a its.toArray) p'.isList fun h' he hit hsz hk => wpAny_pyIter_enum he ?_
          have I2 : L2.Inv X pins σ H1 { s1 with heap := h' } := I1.kept (t' := s1.toks) hk
          refine ⟨s1.heap.objs.size + 1, [s1.heap.objs.size + 1, s1.heap.objs.size], _, _, H1, rfl, I2, turn_enmL a (s1.heap.objs.size + 1) s1.heap.objs.size, ⟨⟨.none, by simpa using he⟩, ⟨_, hit, rfl, rfl⟩, Nat.succ_ne_self _, Nat.ne_of_lt hal, Nat.ne_of_lt (Nat.lt_succ_of_lt hal)⟩, fun b hb => ?_, q1⟩
          have e' : b = s1.heap.objs.size + 1 ∨ b = s1.heap.objs.size := by simpa using hb
          have hle : s1.heap.objs.size ≤ b := by
            rcases e' with z | z
            · rw [z]; exact Nat.le_add_right _ _
            · rw [z]; exact Nat.le_refl _
          exact I1.fpOk hle (I1.hok.fresh hle)
    | _ => cases eq
  · cases eq
end
end VI
/-! a zip of two tuples that goes into dict(..) -/
namespace VI
open PySem L2
section
variable {prog : Program} {w : World} {A : Around} {E : Value → Shared → Prop} {s : Shared}
/-- the next pair while the one before is still about -/
theorem zt_item {zz ti to T a1 a2 t1 t2 : Addr} {fl : Bool} {ob : Obj} {m1 m2 : Nat} {us vs : Array Value} {u v : Value} {Q : Value → Shared → Prop} (D : ZipApart zz ti to a1 a2 t1 t2)
    (gz : IsZipHeld s.heap zz ti to T fl) (gT : s.heap.get? T = some ob) (gi : IsPair s.heap ti (.ref a1) (.ref a2))
    (g1 : s.heap.IsTupleIter a1 t1 m1) (g2 : s.heap.IsTupleIter a2 t2 m2) (p1 : s.heap.IsTuple t1 us) (p2 : s.heap.IsTuple t2 vs) (e1 : us[m1]? = some u) (e2 : vs[m2]? = some v)
    (fin : ∀ h', IsZipHeld h' zz ti to T true → h'.IsTupleIter a1 t1 (m1 + 1) → h'.IsTupleIter a2 t2 (m2 + 1) → IsPair h' s.heap.objs.size u v → h'.objs.size = s.heap.objs.size + 1 →
      (∀ c o, c ≠ zz → c ≠ a1 → c ≠ a2 → s.heap.get? c = some o → h'.get? c = some o) → Q (.ref s.heap.objs.size) { s with heap := h' }) :
    wpAny (model prog w) A (Builtin.«zip.__next__» ⟨[.ref zz], []⟩) (fun f s' => ∃ r, f = .done (.ret r) ∧ Q r s') E s := by
  show wpAny _ _ (field (.ref zz) 2 >>= _) _ _ _
  refine wpAny_bind (wpAny_field gz rfl (x := .bool false) rfl ?_)
  show wpAny _ _ (field (.ref zz) 3 >>= _) _ _ _
  refine wpAny_bind (wpAny_field gz rfl (x := .ref ti) rfl ?_)
  refine wpAny_bind (wpAny_seqItems gi rfl ?_)
  show wpAny _ _ (Builtin.SmallTypes.ownedTupleIsFree (.ref zz) >>= _) _ _ _
  refine wpAny_bind (wpAny_tupleHeld_zip gz gT fun b₁ gz₁ sb₁ => ?_)
  simp only [Bool.false_eq_true, if_false]
  refine wpAny_bind ?_
  rw [← Array.forIn_toList]
  simp only [List.forIn_cons, List.forIn_nil]
  refine wpAny_bind (wpAny_bind (wpAny_holding ?_))
  show wpAny _ _ (Builtin.SmallTypes.nextOf (.ref a1) >>= _) _ _ _
  refine wpAny_bind (RZ.nextOf_tuple_item (s := { s with heap := b₁ }) (g1.extBut sb₁.extBut D.i1z) (p1.extBut sb₁.extBut D.l1z) e1 fun b₂ g1₂ sb₂ => wpAny_pure ?_)
  refine wpAny_pure ?_
  refine wpAny_bind (wpAny_bind (wpAny_holding ?_))
  show wpAny _ _ (Builtin.SmallTypes.nextOf (.ref a2) >>= _) _ _ _
  refine wpAny_bind (RZ.nextOf_tuple_item (s := { s with heap := b₂ }) ((g2.extBut sb₁.extBut D.i2z).extBut sb₂.extBut D.i12.symm) ((p2.extBut sb₁.extBut D.l2z).extBut sb₂.extBut D.l2i1) e2 fun b₃ g2₃ sb₃ => wpAny_pure ?_)
  refine wpAny_pure (wpAny_pure ?_)
  show wpAny _ _ (newTuple [u, v] >>= _) _ _ _
  refine wpAny_bind (wpAny_newTuple ?_)
  have zsz : b₃.objs.size = s.heap.objs.size := by rw [sb₃.1, sb₂.1, sb₁.1]
  have gz₃ : IsZipHeld b₃ zz ti to T true := sb₃.extBut _ _ D.i2z.symm (sb₂.extBut _ _ D.i1z.symm gz₁)
  have kk : ∀ c o, c ≠ zz → c ≠ a1 → c ≠ a2 → s.heap.get? c = some o → b₃.get? c = some o := fun c o c1 c2 c3 e => sb₃.extBut _ _ c3 (sb₂.extBut _ _ c2 (sb₁.extBut _ _ c1 e))
  have g1₃ : b₃.IsTupleIter a1 t1 (m1 + 1) := g1₂.extBut sb₃.extBut D.i12
  refine wpAny_pure ⟨_, rfl, ?_⟩
  show Q (.ref b₃.objs.size) _
  have gp : IsPair (b₃.push { cls := .type "tuple", data := .seq #[u, v] }) b₃.objs.size u v := Heap.get?_push_size _ rfl
  have z4 : (b₃.push { cls := .type "tuple", data := .seq #[u, v] }).objs.size = b₃.objs.size + 1 := Heap.size_push ..
  rw [zsz] at gp z4 ⊢
  exact fin _ (Heap.get?_push_of_some _ gz₃) (g1₃.at fun o e => Heap.get?_push_of_some _ e) (g2₃.at fun o e => Heap.get?_push_of_some _ e) gp z4 fun c o c1 c2 c3 e => Heap.get?_push_of_some _ (kk c o c1 c2 c3 e)
theorem zt_end {zz ti to T a1 a2 t1 t2 : Addr} {fl : Bool} {ob : Obj} {m1 m2 : Nat} {us vs : Array Value} {Q : Fin → Shared → Prop} (hh : A.handled = none) (D : ZipApart zz ti to a1 a2 t1 t2)
    (gz : IsZipHeld s.heap zz ti to T fl) (gT : s.heap.get? T = some ob) (gi : IsPair s.heap ti (.ref a1) (.ref a2))
    (g1 : s.heap.IsTupleIter a1 t1 m1) (g2 : s.heap.IsTupleIter a2 t2 m2) (p1 : s.heap.IsTuple t1 us) (p2 : s.heap.IsTuple t2 vs) (en : us[m1]? = none ∨ vs[m2]? = none)
    (out : ∀ h' e, (∀ c o, c ≠ zz → c ≠ a1 → c ≠ a2 → s.heap.get? c = some o → h'.get? c = some o) → (∃ o, h'.get? e = some o ∧ o.cls = .type "StopIteration") → E (.ref e) { s with heap := h' }) :
    wpAny (model prog w) A (Builtin.«zip.__next__» ⟨[.ref zz], []⟩) Q E s := by
  show wpAny _ _ (field (.ref zz) 2 >>= _) _ _ _
  refine wpAny_bind (wpAny_field gz rfl (x := .bool false) rfl ?_)
  show wpAny _ _ (field (.ref zz) 3 >>= _) _ _ _
  refine wpAny_bind (wpAny_field gz rfl (x := .ref ti) rfl ?_)
  refine wpAny_bind (wpAny_seqItems gi rfl ?_)
  show wpAny _ _ (Builtin.SmallTypes.ownedTupleIsFree (.ref zz) >>= _) _ _ _
  refine wpAny_bind (wpAny_tupleHeld_zip gz gT fun b₁ gz₁ sb₁ => ?_)
  simp only [Bool.false_eq_true, if_false]
  refine wpAny_bind ?_
  rw [← Array.forIn_toList]
  simp only [List.forIn_cons, List.forIn_nil]
  refine wpAny_bind (wpAny_bind (wpAny_holding ?_))
  show wpAny _ _ (Builtin.SmallTypes.nextOf (.ref a1) >>= _) _ _ _
  cases e1 : us[m1]? with
  | none =>
    refine wpAny_bind (RZ.nextOf_tuple_end (s := { s with heap := b₁ }) hh (g1.extBut sb₁.extBut D.i1z) (p1.extBut sb₁.extBut D.l1z) e1 fun b₂ e sb₂ he => ?_)
    exact out b₂ e (fun c o c1 c2 _ q => sb₂ _ _ c2 (sb₁.extBut _ _ c1 q)) he
  | some u =>
    have e2 : vs[m2]? = none := by rcases en with q | q; rw [e1] at q; cases q; exact q
    refine wpAny_bind (RZ.nextOf_tuple_item (s := { s with heap := b₁ }) (g1.extBut sb₁.extBut D.i1z) (p1.extBut sb₁.extBut D.l1z) e1 fun b₂ g1₂ sb₂ => wpAny_pure ?_)
    refine wpAny_pure ?_
    refine wpAny_bind (wpAny_bind (wpAny_holding ?_))
    show wpAny _ _ (Builtin.SmallTypes.nextOf (.ref a2) >>= _) _ _ _
    refine wpAny_bind (RZ.nextOf_tuple_end (s := { s with heap := b₂ }) hh ((g2.extBut sb₁.extBut D.i2z).extBut sb₂.extBut D.i12.symm) ((p2.extBut sb₁.extBut D.l2z).extBut sb₂.extBut D.l2i1) e2 fun b₃ e sb₃ he => ?_)
    exact out b₃ e (fun c o c1 c2 c3 q => sb₃ _ _ c3 (sb₂.extBut _ _ c2 (sb₁.extBut _ _ c1 q))) he
theorem zt_nextI {zz ti to T a1 a2 t1 t2 : Addr} {fl : Bool} {ob : Obj} {m1 m2 : Nat} {us vs : Array Value} {u v : Value} {Q : Option Value → Shared → Prop} (D : ZipApart zz ti to a1 a2 t1 t2)
    (gz : IsZipHeld s.heap zz ti to T fl) (gT : s.heap.get? T = some ob) (gi : IsPair s.heap ti (.ref a1) (.ref a2))
    (g1 : s.heap.IsTupleIter a1 t1 m1) (g2 : s.heap.IsTupleIter a2 t2 m2) (p1 : s.heap.IsTuple t1 us) (p2 : s.heap.IsTuple t2 vs) (e1 : us[m1]? = some u) (e2 : vs[m2]? = some v)
    (fin : ∀ h', IsZipHeld h' zz ti to T true → h'.IsTupleIter a1 t1 (m1 + 1) → h'.IsTupleIter a2 t2 (m2 + 1) → IsPair h' s.heap.objs.size u v → h'.objs.size = s.heap.objs.size + 1 →
      (∀ c o, c ≠ zz → c ≠ a1 → c ≠ a2 → s.heap.get? c = some o → h'.get? c = some o) → Q (some (.ref s.heap.objs.size)) { s with heap := h' }) :
    wpAny (model prog w) A (pyNext (.ref zz)) Q E s := by
  have ty : s.TypeIs (.ref zz) "zip" := ⟨_, gz, rfl⟩
  unfold pyNext
  exact wpAny_bind (wpAny_attempt (wpAny_callSpecial?_slot (name := Str.ofString "__next__") ty F.slot_zip_next (wpAny_call_entry F.slot_zip_next ty F.entry_zip_next (zt_item D gz gT gi g1 g2 p1 p2 e1 e2 fun h' q1 q2 q3 q4 q5 q6 => wpAny_pure (fin h' q1 q2 q3 q4 q5 q6)) (F.args_zip_next_1 _))))
theorem zt_nextE {zz ti to T a1 a2 t1 t2 : Addr} {fl : Bool} {ob : Obj} {m1 m2 : Nat} {us vs : Array Value} {Q : Option Value → Shared → Prop} (hh : A.handled = none) (D : ZipApart zz ti to a1 a2 t1 t2)
    (gz : IsZipHeld s.heap zz ti to T fl) (gT : s.heap.get? T = some ob) (gi : IsPair s.heap ti (.ref a1) (.ref a2))
    (g1 : s.heap.IsTupleIter a1 t1 m1) (g2 : s.heap.IsTupleIter a2 t2 m2) (p1 : s.heap.IsTuple t1 us) (p2 : s.heap.IsTuple t2 vs) (en : us[m1]? = none ∨ vs[m2]? = none)
    (fin : ∀ h', (∀ c o, c ≠ zz → c ≠ a1 → c ≠ a2 → s.heap.get? c = some o → h'.get? c = some o) → Q none { s with heap := h' }) : wpAny (model prog w) A (pyNext (.ref zz)) Q E s := by
  have ty : s.TypeIs (.ref zz) "zip" := ⟨_, gz, rfl⟩
  unfold pyNext
  refine wpAny_bind (wpAny_attempt (wpAny_callSpecial?_slot (name := Str.ofString "__next__") ty F.slot_zip_next (wpAny_call_entry F.slot_zip_next ty F.entry_zip_next (zt_end hh D gz gT gi g1 g2 p1 p2 en fun h' e kk he => ?_) (F.args_zip_next_1 _))))
  obtain ⟨o, ho, hc⟩ := he
  exact wpAny_bind (wpAny_isInstance (T := "StopIteration") (b := true) ⟨o, ho, hc⟩ isSubtype_stop (wpAny_pure (fin _ kk)))
end
def ZtOk (zz ti to a1 a2 t1 t2 : Addr) (us vs : Array Value) (h : Heap) : Prop :=
  IsZip h zz ti to .none ∧ IsPair h ti (.ref a1) (.ref a2) ∧ (∃ p q, IsPair h to p q) ∧ h.IsTupleIter a1 t1 0 ∧ h.IsTupleIter a2 t2 0 ∧ h.IsTuple t1 us ∧ h.IsTuple t2 vs
theorem isTuple_at {h h' : Heap} {a : Addr} {us : Array Value} (x : h.IsTuple a us) (e : ∀ o, h.get? a = some o → h'.get? a = some o) : h'.IsTuple a us := let ⟨o, ho, r⟩ := x; ⟨o, e o ho, r⟩
theorem pair_zt {prog : Program} {w : World} (zz ti to a1 a2 t1 t2 : Addr) (D : ZipApart zz ti to a1 a2 t1 t2) (us vs : Array Value) :
    PairArg prog w "zip" zz [zz, ti, to, a1, a2, t1, t2] [zz, to, a1, a2] (min us.size vs.size) (fun i k v => us[i]? = some k ∧ vs[i]? = some v) (ZtOk zz ti to a1 a2 t1 t2 us vs) where
  type := fun s ok => ⟨_, ok.1, rfl⟩
  notDict := by decide
  keep := fun h h' ok kk => by
    obtain ⟨gz, gi, ⟨p, q, go⟩, g1, g2, p1, p2⟩ := ok
    exact ⟨kk _ _ gz, kk _ _ gi, ⟨p, q, kk _ _ go⟩, g1.at fun o e => kk _ o e, g2.at fun o e => kk _ o e, isTuple_at p1 fun o e => kk _ o e, isTuple_at p2 fun o e => kk _ o e⟩
  there := fun h ok b hb => by
    obtain ⟨gz, gi, ⟨p, q, go⟩, ⟨o1, g1, _⟩, ⟨o2, g2, _⟩, ⟨o3, p1, _⟩, ⟨o4, p2, _⟩⟩ := ok
    have hb' : b = zz ∨ b = ti ∨ b = to ∨ b = a1 ∨ b = a2 ∨ b = t1 ∨ b = t2 := by simpa using hb
    rcases hb' with rfl | rfl | rfl | rfl | rfl | rfl | rfl
    · exact ⟨_, gz⟩
    · exact ⟨_, gi⟩
    · exact ⟨_, go⟩
    · exact ⟨_, g1⟩
    · exact ⟨_, g2⟩
    · exact ⟨_, p1⟩
    · exact ⟨_, p2⟩
  sub := fun b hb => by
    have hb' : b = zz ∨ b = to ∨ b = a1 ∨ b = a2 := by simpa using hb
    rcases hb' with rfl | rfl | rfl | rfl <;> simp
  noKeys := fun A s Q E hA ok q => getAttrOr_miss_zip ok.1 rfl rfl rfl zip_no_keys (by decide +kernel) hA q
  iter := fun A s d Q E hA ok hd hdf q => by
    obtain ⟨gz, gi, ⟨p0, q0, go⟩, g1, g2, p1, p2⟩ := ok
    simp only [List.mem_cons, List.not_mem_nil, or_false, not_or] at hdf
    obtain ⟨dz, dti, dto, da1, da2, dt1, dt2⟩ := hdf
    refine wpAny_pyIter_zip gz (q zz [zz, to, a1, a2] (fun i h => IsPair h ti (.ref a1) (.ref a2) ∧ h.IsTupleIter a1 t1 i ∧ h.IsTupleIter a2 t2 i ∧ h.IsTuple t1 us ∧ h.IsTuple t2 vs ∧
      ((IsZip h zz ti to .none ∧ ∃ a b, IsPair h to a b) ∨ ∃ T f oT, IsZipHeld h zz ti to T f ∧ h.get? T = some oT ∧ T ≠ zz ∧ T ≠ a1 ∧ T ≠ a2 ∧ T ≠ d)) s.heap s.toks ?_ ⟨gi, g1, g2, p1, p2, .inl ⟨gz, p0, q0, go⟩⟩ (fun _ _ e => e) fun b hb => .inl hb)
    exact {
      off := fun hm => by
        have hm' : d = zz ∨ d = to ∨ d = a1 ∨ d = a2 := by simpa using hm
        rcases hm' with e | e | e | e
        · exact dz e
        · exact dto e
        · exact da1 e
        · exact da2 e
      frame := fun i h₁ h₂ st kk => by
        obtain ⟨gi, g1, g2, p1, p2, zc⟩ := st
        refine ⟨kk _ _ (Ne.symm dti) gi, g1.at fun o e => kk _ o (Ne.symm da1) e, g2.at fun o e => kk _ o (Ne.symm da2) e, isTuple_at p1 fun o e => kk _ o (Ne.symm dt1) e, isTuple_at p2 fun o e => kk _ o (Ne.symm dt2) e, ?_⟩
        rcases zc with ⟨gz, a, b, go⟩ | ⟨T, f, oT, gz, gT, r1, r2, r3, r4⟩
        · exact .inl ⟨kk _ _ (Ne.symm dz) gz, a, b, kk _ _ (Ne.symm dto) go⟩
        · exact .inr ⟨T, f, oT, kk _ _ (Ne.symm dz) gz, kk _ _ r4 gT, r1, r2, r3, r4⟩
      item := fun i s₁ Q₁ E₁ hi st hds fin => by
        obtain ⟨gi, g1, g2, p1, p2, zc⟩ := st
        have lx : i < us.size := Nat.lt_of_lt_of_le hi (Nat.min_le_left ..)
        have ly : i < vs.size := Nat.lt_of_lt_of_le hi (Nat.min_le_right ..)
        have ex := Array.getElem?_eq_getElem lx
        have ey := Array.getElem?_eq_getElem ly
        have lt : ∀ {c o}, s₁.heap.get? c = some o → s₁.heap.objs.size ≠ c := fun e => Nat.ne_of_gt (Heap.lt_size e)
        have n1 : s₁.heap.objs.size ≠ a1 := let ⟨_, e, _⟩ := g1; lt e
        have n2 : s₁.heap.objs.size ≠ a2 := let ⟨_, e, _⟩ := g2; lt e
        rcases zc with ⟨gz, a, b, go⟩ | ⟨T, f, oT, gz, gT, r1, r2, r3, r4⟩
        · refine RZ.pyNext_zipT_item D gz gi go g1 g2 p1 p2 ex ey fun h' q1 q2 q3 q4 q5 q6 kk => ?_
          refine fin s₁.heap.objs.size _ _ h' s₁.toks ⟨ex, ey⟩ (.inl ⟨_, q5, rfl, _, rfl⟩) ⟨kk _ _ D.TIz D.TITO D.TIi1 D.TIi2 gi, q3, q4, isTuple_at p1 fun o e => kk _ o D.l1z D.l1TO D.l1i1 D.l1i2 e, isTuple_at p2 fun o e => kk _ o D.l2z D.l2TO D.l2i1 D.l2i2 e, .inr ⟨s₁.heap.objs.size, false, _, q1, q5, lt gz, n1, n2, Nat.ne_of_gt hds⟩⟩ fun c o hc e => ?_
          exact kk c o (fun x => hc (by simp [x])) (fun x => hc (by simp [x])) (fun x => hc (by simp [x])) (fun x => hc (by simp [x])) e
        · refine zt_nextI D gz gT gi g1 g2 p1 p2 ex ey fun h' q1 q3 q4 q5 q6 kk => ?_
          refine fin s₁.heap.objs.size _ _ h' s₁.toks ⟨ex, ey⟩ (.inl ⟨_, q5, rfl, _, rfl⟩) ⟨kk _ _ D.TIz D.TIi1 D.TIi2 gi, q3, q4, isTuple_at p1 fun o e => kk _ o D.l1z D.l1i1 D.l1i2 e, isTuple_at p2 fun o e => kk _ o D.l2z D.l2i1 D.l2i2 e, .inr ⟨T, true, oT, q1, kk _ _ r1 r2 r3 gT, r1, r2, r3, r4⟩⟩ fun c o hc e => ?_
          exact kk c o (fun x => hc (by simp [x])) (fun x => hc (by simp [x])) (fun x => hc (by simp [x])) e
      done := fun s₁ Q₁ E₁ st fin => by
        obtain ⟨gi, g1, g2, p1, p2, zc⟩ := st
        have en : us[min us.size vs.size]? = none ∨ vs[min us.size vs.size]? = none := by
          rcases Nat.le_total us.size vs.size with q | q
          · exact .inl (Array.getElem?_eq_none (by rw [Nat.min_eq_left q]; exact Nat.le_refl _))
          · exact .inr (Array.getElem?_eq_none (by rw [Nat.min_eq_right q]; exact Nat.le_refl _))
        rcases zc with ⟨gz, a, b, go⟩ | ⟨T, f, oT, gz, gT, r1, r2, r3, r4⟩
        · exact RZ.pyNext_zipT_end hA D gz gi go g1 g2 p1 p2 en fun h' kk => fin h' s₁.toks fun c o hc e => kk c o (fun x => hc (by simp [x])) (fun x => hc (by simp [x])) (fun x => hc (by simp [x])) (fun x => hc (by simp [x])) e
        · exact zt_nextE hA D gz gT gi g1 g2 p1 p2 en fun h' kk => fin h' s₁.toks fun c o hc e => kk c o (fun x => hc (by simp [x])) (fun x => hc (by simp [x])) (fun x => hc (by simp [x])) e }
end VI
namespace VI
open PySem L2
section
variable {X : Cx} {K : PySem.W.Frag} {ct : Nat → Addr}
/-! ### zip of two -/
theorem zip_get {l m : List D} {i : Nat} {x y : D} (h1 : l[i]? = some x) (h2 : m[i]? = some y) : ((l.zip m).map fun p => D.tup [p.1, p.2])[i]? = some (.tup [x, y]) := by
  rw [List.getElem?_map, (List.getElem?_zip_eq_some (z := (x, y))).mpr ⟨h1, h2⟩] <;> rfl
theorem walk_zipG {J : L2.It} {F : Hp} {xs ys : List V} {l m : List D} (r1 : RpA K ct F xs l) (r2 : RpA K ct F ys m)
    (go : ∀ i H, Ex F H → i < min xs.length ys.length → J.go i H) (st : ∀ H, Ex F H → J.stop (min xs.length ys.length) H)
    (yl : ∀ i H v H', Ex F H → J.yld i H v H' → ∃ T x y, v = .ref T ∧ H T = none ∧ H' = upd H T (.tup [x, y]) ∧ xs[i]? = some x ∧ ys[i]? = some y) :
    Walk J ((l.zip m).map fun p => D.tup [p.1, p.2]).length (Ex F) (Yl K ct true F ((l.zip m).map fun p => D.tup [p.1, p.2])) := by
  have hl : ((l.zip m).map fun p => D.tup [p.1, p.2]).length = min xs.length ys.length := by rw [List.length_map, List.length_zip, r1.length, r2.length]
  rw [hl]
  refine ⟨fun i H hi e => go i H e hi, fun H e => st H e, fun i H v H' hi e y => ?_⟩
  obtain ⟨T, x, y, rfl, hT, rfl, h1, h2⟩ := yl i H v H' e y
  obtain ⟨d1, g1, p1⟩ := r1.get' h1
  obtain ⟨d2, g2, p2⟩ := r2.get' h2
  exact ⟨.tup [d1, d2], zip_get g1 g2, .inr ⟨T, _, hT, rfl, fun F2 e2 n2 => .inr ⟨rfl, T, _, _, rfl, rfl, .inl (.inl upd_same), .cons (p1.mono (e2.trans (Ex.new n2))) (.cons (p2.mono (e2.trans (Ex.new n2))) .nil)⟩⟩⟩
theorem two_of {vs : List V} {F : Hp} {x y : D} (r : RpA K ct F vs [x, y]) : ∃ v w, vs = [v, w] ∧ Rp K ct F v x ∧ Rp K ct F w y := by
  cases r with
  | cons h r =>
    cases r with
    | cons h2 r => cases r; exact ⟨_, _, rfl, h, h2⟩
theorem pi_zipV {e e2 : Expr} {m m2 : Env' → Option (R × Env')} {p pos tpos : Pos} {elts : List Expr} {kk : Nat} (hg : Gl X "zip") (hm : X.mg "zip" = none) (h : PE X e (tV X.K ct m)) (h2 : PE X e2 (tV X.K ct m2)) (hs : isStar e = false) (hs2 : isStar e2 = false) :
    PI X (.Tuple elts kk tpos) (.Call (.Name "zip" p) [e, e2] [] pos) (tI X.K ct true (zipM (consV m (consV m2 nilD)))) := by
  refine ⟨fun pins s σ H R I w => ?_⟩
  obtain ⟨z, F, env, rel, xs, env', eq, k⟩ := w
  have ha : PA X [e, e2] (tA X.K ct (consV m (consV m2 nilD))) := pa_consV h (pa_consV h2 pa_nilV (star_of hs2)) (star_of hs)
  unfold zipM at eq
  split at eq
  · rename_i x y env1 q
    refine (RZ.pi_zipA hg hm ha (star_of hs) (nostar_any (by simp [hs2]))).run pins s σ H R I ⟨z, F, env, rel, _, _, q, fun vs F' H' ex rl rp => ?_⟩
    obtain ⟨v, u, rfl, p1, p2⟩ := two_of rp
    cases x with
    | tup l =>
      cases y with
      | tup l2 =>
        cases eq
        cases p1 with
        | @tup a ys _ t1 r1 =>
          cases p2 with
          | @tup b zs _ t2 r2 =>
            refine ⟨a, b, ys, zs, rfl, .inr ⟨(rl.r.sub.tpT t1).sq, (rl.r.sub.tpT t2).sq, k _ F' H' ex rl (walk_zipG r1 r2 (fun i H e hi => ?_) (fun H e => ?_) fun i H v H' e y => ?_)⟩⟩
            · have h1 : i < ys.length := by omega
              have h2 : i < zs.length := by omega
              exact ⟨ys, zs, ys[i], zs[i], (e.tpT t1).sq, (e.tpT t2).sq, by simp [h1], by simp [h2]⟩
            · exact ⟨ys, zs, (e.tpT t1).sq, (e.tpT t2).sq, by omega⟩
            · obtain ⟨T, x, y, rfl, hT, rfl, f1, f2⟩ := y
              exact ⟨T, x, y, rfl, hT, rfl, f1 _ (e.tpT t1).sq, f2 _ (e.tpT t2).sq⟩
      | _ => cases eq
    | lst l =>
      cases y with
      | lst l2 =>
        cases eq
        cases p1 with
        | @lst a ys _ t1 r1 =>
          cases p2 with
          | @lst b zs _ t2 r2 =>
            refine ⟨a, b, ys, zs, rfl, .inl ⟨SqL.of (rl.r.sub _ _ t1), SqL.of (rl.r.sub _ _ t2), k _ F' H' ex rl (walk_zipG r1 r2 (fun i H e hi => ?_) (fun H e => ?_) fun i H v H' e y => ?_)⟩⟩
            · have h1 : i < ys.length := by omega
              have h2 : i < zs.length := by omega
              exact ⟨ys, zs, ys[i], zs[i], SqL.of (e _ _ t1), SqL.of (e _ _ t2), by simp [h1], by simp [h2]⟩
            · exact ⟨ys, zs, SqL.of (e _ _ t1), SqL.of (e _ _ t2), by omega⟩
            · obtain ⟨T, x, y, rfl, hT, rfl, f1, f2⟩ := y
              exact ⟨T, x, y, rfl, hT, rfl, f1 _ (SqL.of (e _ _ t1)), f2 _ (SqL.of (e _ _ t2))⟩
      | _ => cases eq
    | _ => cases eq
  · cases eq
/-! ### dict(zip(..)) -/
theorem keyIs_str (x : Str) (t : Tok) : (mixKind X.prog X.w).is (Sum.inr x) (.str x t) = true := by simp [mixKind, keyIs, Value.isStrOf]
theorem merge_nodup : ∀ (more kvs : List (Key × V)), (kvs ++ more).map (·.1) |>.Nodup → mergeK kvs more = kvs ++ more
  | [], kvs, _ => by simp [mergeK]
  | (k, v) :: more, kvs, h => by
    have hn : (kvs.any fun kv => decide (kv.1 = k)) = false := by
      rw [List.any_eq_false]
      intro p hp
      simp only [decide_eq_true_eq]
      intro e
      rw [List.map_append, List.nodup_append] at h
      exact h.2.2 p.1 (List.mem_map_of_mem hp) k (by simp) e
    have e1 : putK kvs k v = kvs ++ [(k, v)] := by unfold putK; rw [hn]; rfl
    show mergeK (putK kvs k v) more = _
    rw [e1, merge_nodup more (kvs ++ [(k, v)]) (by simpa using h)]
    simp
theorem zipK : ∀ {F : Hp} {ys : List Str} {ws : List V} {m : List D}, RpA K ct F ws m → RpK K ct F ((ys.zip ws).map fun p => ((Sum.inr p.1 : Key), p.2)) ((ys.zip m).map fun p => (D.str p.1, p.2))
  | _, [], _, _, _ => .nil
  | _, _ :: _, _, _, .nil => .nil
  | _, y :: ys, _, _, .cons h r => .cons (k := Sum.inr y) h (zipK r)
theorem zipKV {ys : List Str} : ∀ {ws : List V} {us : List Value}, Vals ws us → KV ((ys.zip ws).map fun p => ((Sum.inr p.1 : Key), p.2)) ((ys.zip us).map fun p => ((Sum.inr p.1 : Key), p.2)) := by
  induction ys with
  | nil => intro ws us _; exact .nil
  | cons y ys ih =>
    intro ws us r
    cases r with
    | nil => exact .nil
    | cons h r => exact .cons ⟨rfl, h⟩ (ih r)
theorem zip_keys {α : Type} : ∀ (ys : List Str) (ws : List α), ∃ n, ((ys.zip ws).map fun p => ((Sum.inr p.1 : Key), p.2)).map (·.1) = (ys.take n).map Sum.inr
  | [], _ => ⟨0, rfl⟩
  | _ :: _, [] => ⟨0, rfl⟩
  | y :: ys, w :: ws => by
    obtain ⟨n, e⟩ := zip_keys ys ws
    refine ⟨n + 1, ?_⟩
    rw [List.zip_cons_cons, List.map_cons, List.map_cons, e]
    rfl
theorem strs_vals : ∀ {ys : List Str} {us : List Value}, Vals (ys.map V.str) us → ∀ (i : Nat) (k : Value), us[i]? = some k → ∃ y t, ys[i]? = some y ∧ k = .str y t := by
  intro ys
  induction ys with
  | nil => intro us r i k e; cases r; simp at e
  | cons y ys ih =>
    intro us r i k e
    cases r with
    | cons h r =>
      cases i with
      | zero =>
        simp at e
        obtain ⟨t, rfl⟩ := (show ∃ t, _ = Value.str y t from h)
        exact ⟨y, t, rfl, e.symm⟩
      | succ i =>
        obtain ⟨y', t, h1, h2⟩ := ih r i k (by simpa using e)
        exact ⟨y', t, by simpa using h1, h2⟩
theorem pe_dzV {e e2 : Expr} {m m2 : Env' → Option (R × Env')} {p p2 pos q : Pos} (hc : X.calm = true) (hg : Gl X "dict") (hm : X.mg "dict" = none) (hg2 : Gl X "zip") (hm2 : X.mg "zip" = none) (h : PE X e (tV X.K ct m)) (h2 : PE X e2 (tV X.K ct m2)) (hs : isStar e = false) (hs2 : isStar e2 = false) :
    PE X (.Call (.Name "dict" p) [.Call (.Name "zip" p2) [e, e2] [] q] [] pos) (tV X.K ct (dzM (consV m (consV m2 nilD)))) := by
  refine ⟨fun pins s σ H Q I w => ?_⟩
  obtain ⟨z, F, env, rel, r, env', eq, k⟩ := w
  have ha : PA X [e, e2] (tA X.K ct (consV m (consV m2 nilD))) := pa_consV h (pa_consV h2 pa_nilV (star_of hs2)) (star_of hs)
  unfold dzM at eq
  split at eq
  · rename_i l l2 env1 q0
    split at eq
    · rename_i ys ey
      split at eq
      · rename_i hnd
        cases eq
        refine PyProof.Rows.Call_ (ld_blt I hg hm PyProof.Rows.boot_dict ?_)
        refine PyProof.Rows.callWith_type1 (PyProof.Rows.args_cons ?_ rfl) rfl rfl
        refine PyProof.Rows.Call_ (ld_blt I hg2 hm2 PyProof.Rows.boot_zip (PyProof.Rows.callWith_type1 (thn (ha.run q pins s σ H (fun vs H1 => ∃ a b ws F', vs = [.ref a, .ref b] ∧ TpT F' a (ys.map V.str) ∧ TpT F' b ws ∧ RpA X.K ct F' ws l2 ∧ Ex F F' ∧ RelB X.K ct z F' H1 σ env') I ⟨z, F, env, rel, _, _, q0, fun vs F' H' ex rl rp => ?_⟩) fun us s1 ⟨vs, H1, I1, r1, q1⟩ => ?_) (star_of hs) (nostar_any (by simp [hs2]))))
        · obtain ⟨v, u, rfl, p1, p2⟩ := two_of rp
          cases p1 with
          | @tup a xs _ t1 r1 =>
            cases p2 with
            | @tup b ws _ t2 r2 =>
              have e1 := r1.txts ey
              subst e1
              exact ⟨a, b, ws, F', rfl, t1, t2, r2, ex, rl⟩
        · obtain ⟨a, b, ws, F', rfl, t1, t2, r2, ex, rl⟩ := q1
          cases r1 with
          | cons ra rr =>
            cases rr with
            | cons rb rr =>
              cases rr
              cases ra
              cases rb
              obtain ⟨its, rv, p1, hz1⟩ := I1.tuple (rl.r.sub.tpT t1).sq
              obtain ⟨its2, rv2, p2, hz2⟩ := I1.tuple (rl.r.sub.tpT t2).sq
              obtain ⟨o1, ho1, _⟩ := id p1
              obtain ⟨o2, ho2, _⟩ := id p2
              refine RZ.call_zipT (show s1.heap.IsTuple a its.toArray from p1) (show s1.heap.IsTuple b its2.toArray from p2) fun h' hz hTI hTO g1 g2 hsz hk => ?_
              refine PyProof.Rows.args_nil ?_
              have I2 : L2.Inv X pins σ H1 { s1 with heap := h' } := I1.kept (t' := s1.toks) hk
              have ok : ZtOk (s1.heap.objs.size + 4) (s1.heap.objs.size + 2) (s1.heap.objs.size + 3) s1.heap.objs.size (s1.heap.objs.size + 1) a b its.toArray its2.toArray h' :=
                ⟨hz, hTI, ⟨_, _, hTO⟩, g1, g2, isTuple_at p1 fun o e => hk _ o e, isTuple_at p2 fun o e => hk _ o e⟩
              have len1 : its.length = ys.length := by rw [← rv.length, List.length_map]
              have len2 : its2.length = ws.length := rv2.length.symm
              refine PySem.call_dict_pairs (knd := mixKind X.prog X.w) (kvs := (ys.zip its2).map fun p => ((Sum.inr p.1 : Key), p.2)) (s := { s1 with heap := h' }) (pair_zt _ _ _ _ _ _ _ (PySem.W.ktu_apart s1.heap.objs.size a b (Heap.lt_size ho1) (Heap.lt_size ho2)) its.toArray its2.toArray) (I.ok.hd hc) ok ⟨?_, fun i key v hr => ?_⟩ ?_ fun h'' tk hd' hkeep => ?_
              · rw [List.length_map, List.length_zip]; simp only [List.size_toArray]; rw [len1]
              · obtain ⟨e1, e2⟩ := hr
                have e1' : its[i]? = some key := by simpa using e1
                have e2' : its2[i]? = some v := by simpa using e2
                obtain ⟨y, t, hy, rfl⟩ := strs_vals rv i key e1'
                refine ⟨Sum.inr y, ?_, keyIs_str y t⟩
                rw [List.getElem?_map, (List.getElem?_zip_eq_some (z := (y, v))).mpr ⟨hy, e2'⟩] <;> rfl
              · simp only [List.size_toArray]
                have := hnd.2
                omega
              · have fresh : ∀ c, s1.heap.objs.size ≤ c → FpOk X pins H1 c := fun c hle => I1.fpOk hle (I1.hok.fresh hle)
                have big : s1.heap.objs.size ≤ h'.objs.size := by rw [hsz]; omega
                have nT : H1 h'.objs.size = none := I1.hok.fresh big
                have hm : (h'.objs.size == sysModules) = false := beq_eq_false_iff_ne.mpr (Nat.ne_of_gt I2.big)
                have nd : (([] : List (Key × V)) ++ ((ys.zip ws).map fun p => ((Sum.inr p.1 : Key), p.2))).map (·.1) |>.Nodup := by
                  obtain ⟨n, en⟩ := zip_keys ys ws
                  rw [List.nil_append, en]
                  exact List.pairwise_map.mpr ((List.Nodup.sublist (List.take_sublist n ys) hnd.1).imp fun hne e => hne (Sum.inr.inj e))
                have em := merge_nodup _ _ nd
                rw [List.nil_append] at em
                have hlen : ((ys.zip ws).map fun p => ((Sum.inr p.1 : Key), p.2)).length ≤ sizeLine := by
                  rw [List.length_map, List.length_zip]; have := hnd.2; omega
                have kv : KV (mergeK [] ((ys.zip ws).map fun p => ((Sum.inr p.1 : Key), p.2))) (merged [] ((ys.zip its2).map fun p => ((Sum.inr p.1 : Key), p.2))) := KV.merge (zipKV rv2) .nil
                rw [em] at kv
                have I3 : L2.Inv X pins σ (upd H1 h'.objs.size (.dK ((ys.zip ws).map fun p => ((Sum.inr p.1 : Key), p.2)))) { s1 with heap := h'', toks := tk } :=
                  I2.turnedNew (t' := tk) (ch := [s1.heap.objs.size + 4, s1.heap.objs.size + 3, s1.heap.objs.size, s1.heap.objs.size + 1]) (fun b o hb e => hkeep b o hb e) (fun b hb => by
                    have e' : b = s1.heap.objs.size + 4 ∨ b = s1.heap.objs.size + 3 ∨ b = s1.heap.objs.size ∨ b = s1.heap.objs.size + 1 := by simpa using hb
                    rcases e' with q | q | q | q <;> (rw [q]; first | exact fresh _ (Nat.le_add_right _ _) | exact fresh _ (Nat.le_refl _))) (Nat.le_refl _) (show ObjOk X.prog X.w _ _ _ (.dK _) from ⟨hlen, hm, _, kv, hd'⟩)
                exact ⟨.ref h'.objs.size, _, I3, rfl, k _ F' _ ex (rl.heap (Ex.new nT)) ⟨_, rfl, noneF rl.r.sub nT, ⟨_, upd_same, zipK r2⟩, rl.noFoot nT, rl.noZ nT⟩⟩
      · cases eq
    · cases eq
  · cases eq
end
end VI
namespace VI
open PySem L2
/-! ### isinstance -/
def tyNs : List String := ["str", "tuple", "int", "bool"]
def btNs : List String := ["NoneType", "bool", "int", "str", "tuple", "list", "dict"]
structure KitF (K : PySem.W.Frag) (ct : Nat → Addr) (n : Nat) : Prop where
  own : ∀ c, c < n → Cls K (ct c) ∧ PySem.W.findIn K (.ref (ct c)) "__class__" = some (some (.builtin "object.__class__")) ∧ PySem.W.specialIn K (.builtin "object.__class__") "__get__" = some (some (.builtin "getset_descriptor.__get__")) ∧
    PySem.W.takesIn K (.builtin "object.__class__") = some true ∧ PySem.W.mroIn K (ct c) (.type "object") = some true
  ty : ∀ c, c < n → ∀ T ∈ tyNs, PySem.W.kitOne K (.ref (ct c)) (.type T) = some false
  cls : ∀ c, c < n → ∀ k, k < n → PySem.W.kitOne K (.ref (ct c)) (.ref (ct k)) = some (c == k)
  bt : ∀ k, k < n → ∀ T ∈ btNs, PySem.W.kitOne K (.type T) (.ref (ct k)) = some false
def isNm : Bi → String
  | .isStr => "str"
  | .isTuple => "tuple"
  | .isInt => "int"
  | .isBool => "bool"
  | _ => ""
def isTyB : Bi → Bool
  | .isStr => true
  | .isTuple => true
  | .isInt => true
  | .isBool => true
  | _ => false
section
variable {X : Cx} {K : PySem.W.Frag} {ct : Nat → Addr} {n : Nat}
def dTy : D → String
  | .non => "NoneType"
  | .bl _ => "bool"
  | .int _ => "int"
  | .str _ => "str"
  | .tup _ => "tuple"
  | .lst _ => "list"
  | .scr _ => "list"
  | .dic _ => "dict"
  | .ins _ _ => ""
theorem dTy_bt {d : D} (h : ∀ c l, d ≠ .ins c l) : dTy d ∈ btNs := by
  cases d <;> first | (exact (h _ _ rfl).elim) | (simp [dTy, btNs])
theorem tyx_of {F H : Hp} {v : V} {d : D} (hd : ∀ c l, d ≠ .ins c l) (h : OpAt K ct F H v d) (s : Ex F H) : TyX K H v (.type (dTy d)) := by
  cases d with
  | non => rw [h.non]; exact .base .non
  | bl b => rw [h.bl]; exact .base (.bl b)
  | int i => rw [h.int]; exact .base (.int i)
  | str x => rw [h.str]; exact .base (.str x)
  | tup l =>
    have := h.tupR
    cases this with
    | tup t r => obtain ⟨o, e, _⟩ := t; exact .fTuple (s _ _ e)
  | lst l => obtain ⟨a, xs, rfl, e, _⟩ := h.lst s; exact .base (.lst e)
  | dic l => obtain ⟨a, kvs, rfl, e, _⟩ := h.dic s; exact .base (.dK e)
  | ins c l => exact (hd c l rfl).elim
  | scr l =>
    obtain ⟨a, rfl, q⟩ := h.scr s
    rcases q with (q | ⟨o, q⟩) | ⟨o, its, m, q, hc, _⟩
    · exact .base (.lst q)
    · exact .base (.frz q)
    · exact .kList q hc
def clsV (ct : Nat → Addr) : Bi → V
  | .isCls c => .ref (ct c)
  | b => .ty (isNm b)
def clsU (ct : Nat → Addr) : Bi → Value
  | .isCls c => .ref (ct c)
  | b => .type (isNm b)
theorem isi_ok {F H : Hp} {v : V} {d : D} {b : Bi} {r : Bool} (Kf : KitF K ct n) (h : OpAt K ct F H v d) (s : Ex F H) (e : isI n b d = some r) : ∃ t, ClsV (clsV ct b) (clsU ct b) ∧ TyX K H v t ∧ PySem.W.kitOne K t (clsU ct b) = some r := by
  have cv : ClsV (clsV ct b) (clsU ct b) := by cases b <;> first | exact .own _ | exact .ty _
  cases d with
  | ins c l =>
    have key : c < n → PySem.W.kitOne K (.ref (ct c)) (clsU ct b) = some r → ∃ t, ClsV (clsV ct b) (clsU ct b) ∧ TyX K H v t ∧ PySem.W.kitOne K t (clsU ct b) = some r := fun hc q0 => by
      obtain ⟨k1, k2, k3, k4, k5⟩ := Kf.own c hc
      obtain ⟨a, dx, fs, rfl, q, _⟩ := h.ins s
      exact ⟨.ref (ct c), cv, .base (.ins q k1 k2 k3 k4 k5), q0⟩
    unfold isI at e
    cases b with
    | isCls k =>
      simp only at e
      split at e
      · rename_i hk
        cases e
        exact key hk.1 (Kf.cls c hk.1 k hk.2)
      · cases e
    | isStr =>
      simp only at e
      split at e
      · rename_i hc; cases e; exact key hc (Kf.ty c hc _ (by decide))
      · cases e
    | isTuple =>
      simp only at e
      split at e
      · rename_i hc; cases e; exact key hc (Kf.ty c hc _ (by decide))
      · cases e
    | isInt =>
      simp only at e
      split at e
      · rename_i hc; cases e; exact key hc (Kf.ty c hc _ (by decide))
      · cases e
    | isBool =>
      simp only at e
      split at e
      · rename_i hc; cases e; exact key hc (Kf.ty c hc _ (by decide))
      · cases e
    | _ => cases e
  | _ =>
    refine ⟨_, cv, tyx_of (fun c l q => by cases q) h s, ?_⟩
    cases b with
    | isCls k =>
      unfold isI at e
      simp only at e
      split at e
      · rename_i hk
        cases e
        exact Kf.bt k hk _ (dTy_bt fun c l q => by cases q)
      · cases e
    | isStr => cases e; exact kit_ty (by simp only [dTy, tyD, isNm]; decide +kernel)
    | isTuple => cases e; exact kit_ty (by simp only [dTy, tyD, isNm]; decide +kernel)
    | isInt => cases e; exact kit_ty (by simp only [dTy, tyD, isNm]; decide +kernel)
    | isBool => cases e; exact kit_ty (by simp only [dTy, tyD, isNm]; decide +kernel)
    | _ => cases e
def tC1 (v : V) : TE := fun σ H Q => Q v H
theorem pe_isiV {e c : Expr} {m : Env' → Option (R × Env')} {b : Bi} {p pos : Pos} (Kf : KitF X.K ct n) (hg : Gl X "isinstance") (hm : X.mg "isinstance" = none) (h : PE X e (tV X.K ct m)) (hc : PE X c (tC (clsV ct b))) (hs : isStar e = false) (hs2 : isStar c = false) :
    PE X (.Call (.Name "isinstance" p) [e, c] [] pos) (tV X.K ct (isM n b m)) := by
  refine (pe_callB call_isi hg hm (by decide +kernel) (pa_cons h.vpz (pa_cons hc pa_nil (star_of hs2)) (star_of hs)) (by decide) (by decide) (star_of hs) (nostar_any (by simp [hs2]))).vimp fun σ H Q w => ?_
  obtain ⟨z, F, env, rel, r, env', eq, k⟩ := w
  unfold isM at eq
  split at eq
  · rename_i r0 env1 q
    split at eq
    · rename_i d q1
      cases q2 : isI n b d with
      | none => rw [q2] at eq; cases eq
      | some b1 =>
        rw [q2] at eq
        cases eq
        refine ⟨z, F, env, rel, r0, env', q, fun v F' H' ex rl res => ?_⟩
        obtain ⟨t, c1, c2, c3⟩ := isi_ok Kf (OpAt.of rl res q1) rl.r.sub q2
        exact ⟨v, clsV ct b, t, _, b1, rfl, c1, c2, c3, k _ F' H' ex rl (.bl _)⟩
    · cases eq
  · cases eq
/-! ### is True -/
theorem pe_isTV {a : Expr} {m : Env' → Option (R × Env')} {j : Nat} {p pos : Pos} (h : PE X a (tV X.K ct m)) : PE X (.Compare a [.Is] [.Constant (.bool true) j p] pos) (tV X.K ct (isTM m)) := by
  refine (pe_cmpR op_isBl h pe_bl (nomark _)).vimp fun σ H Q w => ?_
  obtain ⟨z, F, env, rel, r, env', eq, k⟩ := w
  unfold isTM at eq
  split at eq
  · rename_i b env1 q
    cases eq
    refine ⟨z, F, env, rel, _, _, q, fun v F' H' ex rl res => ?_⟩
    cases res
    refine ⟨b, true, rfl, rfl, ?_⟩
    have e : decide (b = true) = b := by cases b <;> rfl
    rw [e]
    exact k _ F' H' ex rl (.bl _)
  · cases eq
theorem pe_notTV {a : Expr} {m : Env' → Option (R × Env')} {j : Nat} {p pos : Pos} (h : PE X a (tV X.K ct m)) : PE X (.Compare a [.IsNot] [.Constant (.bool true) j p] pos) (tV X.K ct (notTM m)) := by
  refine (pe_cmpR op_notBl h pe_bl (nomark _)).vimp fun σ H Q w => ?_
  obtain ⟨z, F, env, rel, r, env', eq, k⟩ := w
  unfold notTM at eq
  split at eq
  · rename_i b env1 q
    cases eq
    refine ⟨z, F, env, rel, _, _, q, fun v F' H' ex rl res => ?_⟩
    cases res
    refine ⟨b, true, rfl, rfl, ?_⟩
    have e : (!decide (b = true)) = !b := by cases b <;> rfl
    rw [e]
    exact k _ F' H' ex rl (.bl _)
  · cases eq
theorem pt_isTV {a : Expr} {m : Env' → Option (R × Env')} {j : Nat} {p pos : Pos} (h : PE X a (tV X.K ct m)) : PT X (.Compare a [.Is] [.Constant (.bool true) j p] pos) (VI.tB X.K ct (boolM (isTM m))) := by
  refine (pt_cmpR op_isBl h pe_bl (nomark _)).vimp fun σ H Q w => ?_
  obtain ⟨z, F, env, rel, r, env', eq, k⟩ := w
  unfold boolM isTM at eq
  cases q : m env with
  | none => rw [q] at eq; cases eq
  | some pr =>
    obtain ⟨r0, env1⟩ := pr
    rw [q] at eq
    cases r0 with
    | dt d =>
      cases d with
      | bl b =>
        cases eq
        refine ⟨z, F, env, rel, _, _, q, fun v F' H' ex rl res => ?_⟩
        cases res
        refine ⟨r, true, rfl, rfl, _, ?_, k F' H' ex rl⟩
        cases r <;> rfl
      | _ => cases eq
    | _ => cases eq
theorem pt_notTV {a : Expr} {m : Env' → Option (R × Env')} {j : Nat} {p pos : Pos} (h : PE X a (tV X.K ct m)) : PT X (.Compare a [.IsNot] [.Constant (.bool true) j p] pos) (VI.tB X.K ct (boolM (notTM m))) := by
  refine (pt_cmpR op_notBl h pe_bl (nomark _)).vimp fun σ H Q w => ?_
  obtain ⟨z, F, env, rel, r, env', eq, k⟩ := w
  unfold boolM notTM at eq
  cases q : m env with
  | none => rw [q] at eq; cases eq
  | some pr =>
    obtain ⟨r0, env1⟩ := pr
    rw [q] at eq
    cases r0 with
    | dt d =>
      cases d with
      | bl b =>
        cases eq
        refine ⟨z, F, env, rel, _, _, q, fun v F' H' ex rl res => ?_⟩
        cases res
        refine ⟨b, true, rfl, rfl, _, ?_, k F' H' ex rl⟩
        cases b <;> rfl
      | _ => cases eq
    | _ => cases eq
/-! ### dict comprehensions -/
theorem t_dc {vs : List Nat} {t : Tg} {mi : Env' → Option (List D × Env')} {mc : Env' → Option (Bool × Env')} {mk me : Env' → Option (R × Env')} {Q : VK} {b0 : Bool} {σ : St} {H : Hp} (hb : b0 = true → isTu t = true) (ht : ∀ j ∈ tgIx t, j ∈ vs) (w : tV K ct (dcM vs t mi mc mk me) σ H Q) :
    tDc (tI K ct b0 mi) (gD K ct t) (VI.tB K ct mc) (tV K ct (frzM mk)) (tV K ct (frzM me)) vs σ H Q := by
  obtain ⟨z, F, env, rel, r, env', eq, k⟩ := w
  unfold dcM at eq
  cases q : mi env with
  | none => rw [q] at eq; cases eq
  | some p =>
    obtain ⟨xs, env1⟩ := p
    rw [q] at eq
    simp only at eq
    split at eq
    · rename_i hp
      cases q2 : dcL t vs mc mk me xs [] env1 with
      | none => rw [q2] at eq; cases eq
      | some p2 =>
        obtain ⟨ds, env2⟩ := p2
        rw [q2] at eq
        cases eq
        refine ⟨z, F, env, rel, xs, env1, q, fun J F1 H1 ex1 R1 wk D hD => ?_⟩
        let Pv : Nat → Hp → Prop := fun i Hc => ∃ Fc envc acc av, Ex F1 Fc ∧ RelB K ct z Fc Hc (wipe σ vs) (wipeE envc vs) ∧ dcL t vs mc mk me (xs.drop i) acc envc = some (ds, env2) ∧ Hc D = some (.dK av) ∧ RpK K ct Fc av acc ∧ Fc D = none ∧ ¬ foot (wipe σ vs) (wipeE envc vs) D ∧ z.H D = none
        refine ⟨fun i m Hc => m = xs.length - i ∧ i ≤ xs.length ∧ Pv i Hc, ⟨xs.length, by simp, Nat.zero_le _, ?_⟩, ?_⟩
        · have nF := noneF R1.r.sub hD
          have R2 := (R1.heap (H' := upd H1 D (.dK [])) (Ex.new hD)).wiped vs
          exact ⟨F1, env1, [], [], Ex.refl _, R2, q2, upd_same, .nil, nF, fun f => R1.noFoot hD (foot_wipe f), R1.noZ hD⟩
        · rintro i m Hc ⟨rfl, hi, Fc, envc, acc, av, e1, Rc, el, hav, rav, hFD, hfD, hzD⟩
          have eG : Ex F1 Hc := fun a o h => Rc.r.sub a o (e1 a o h)
          by_cases hlt : i < xs.length
          · refine .inr ⟨wk.goes i Hc hlt eG, fun H' => Pv (i + 1) H', fun H' p' => ⟨xs.length - (i + 1), by omega, rfl, hlt, p'⟩, fun x H' y0 => ?_⟩
            have y := wk.yields i Hc x H' hlt eG y0
            obtain ⟨d, F2, hd, e2, R2, rp, eh, kF⟩ := Rc.item e1 y
            have hxs : xs.drop i = d :: xs.drop (i + 1) := by
              rw [List.getElem?_eq_some_iff] at hd
              obtain ⟨hlt, hd⟩ := hd
              rw [← hd]; exact List.drop_eq_getElem_cons hlt
            rw [hxs] at el
            unfold dcL at el
            have hH'D : H' D = some (.dK av) := eh _ _ hav
            have hF2D : F2 D = none := (kF D (by rw [hav]; simp)).trans hFD
            have S2 := R2.start
            have keep : ∀ {F4 H4 : Hp} {σ4 : St} {env4 : Env'}, RelB K ct (here z.L z.W F2 H' (wipe σ vs) (wipeE envc vs)) F4 H4 σ4 env4 → H4 D = some (.dK av) ∧ F4 D = none ∧ ¬ foot σ4 env4 D := fun {F4 H4 σ4 env4} R4 => by
              refine ⟨R4.n.keep D _ hH'D hfD, (R4.n.nofz D (by show H' D ≠ none; rw [hH'D]; simp) hfD).trans hF2D, fun f => ?_⟩
              rcases R4.n.fo D f with w | w
              · exact hfD w
              · have w' : H' D = none := w
                rw [hH'D] at w'; cases w'
            cases q3 : putTg t d (wipeE envc vs) with
            | none => rw [q3] at el; cases el
            | some env3 =>
              rw [q3] at el
              simp only at el
              have hw2 : ∀ σ2, SameOff (tgIx t) (wipe σ vs) σ2 → wipe σ2 vs = wipe σ vs := fun σ2 so => by
                rw [wipe_eq (σ := wipe σ vs) so.1 fun j hj => so.2 j fun hm => hj (ht j hm)]
                exact wipe_wipe
              refine ⟨_, F2, wipeE envc vs, d, env3, S2, rp.up hb, q3, fun σ2 so R3 => ⟨hw2 σ2 so, ?_⟩⟩
              have hw := hw2 σ2 so
              cases q4 : mc env3 with
              | none => rw [q4] at el; cases el
              | some p4 =>
                obtain ⟨b, env4⟩ := p4
                refine ⟨_, F2, env3, R3, b, env4, q4, fun F4 H4 e4 R4 => ?_⟩
                rw [q4] at el
                cases b with
                | false =>
                  simp only at el
                  simp only [Bool.false_eq_true, if_false]
                  obtain ⟨k1, k2, k3⟩ := keep R4
                  have RZ := (R2.outer R4).wiped vs
                  rw [hw] at RZ
                  exact ⟨F4, env4, acc, av, (e1.trans e2).trans e4, RZ, el, k1, rav.mono (e2.trans e4), k2, fun f => k3 (foot_wipe (hw ▸ f)), hzD⟩
                | true =>
                  simp only at el
                  simp only [if_true]
                  cases q5 : frzM mk env4 with
                  | none => rw [q5] at el; cases el
                  | some p5 =>
                    obtain ⟨r5, env5⟩ := p5
                    rw [q5] at el
                    cases r5 with
                    | dt d5 =>
                      cases d5 with
                      | str y5 =>
                        simp only at el
                        refine ⟨_, F4, env4, R4, _, _, q5, fun v F5 H5 e5 R5 rp5 => ?_⟩
                        cases q6 : frzM me env5 with
                        | none => rw [q6] at el; cases el
                        | some p6 =>
                          obtain ⟨r6, env6⟩ := p6
                          rw [q6] at el
                          cases r6 with
                          | dt d6 =>
                            simp only at el
                            split at el
                            · rename_i hlen
                              refine ⟨_, F5, env5, R5, _, _, q6, fun v6 F6 H6 e6 R6 rp6 => ?_⟩
                              obtain ⟨k1, k2, k3⟩ := keep R6
                              cases rp5
                              refine ⟨av, Sum.inr y5, rfl, k1, by rw [rav.length]; exact hlen, ?_⟩
                              have RZ := ((R2.outer R6).side (H' := upd H6 D (.dK (putK av (Sum.inr y5) v6))) (fun c hc => upd_ne hc) upd_same k2 k3 hzD).wiped vs
                              rw [hw] at RZ
                              exact ⟨F6, env6, _, _, (((e1.trans e2).trans e4).trans e5).trans e6, RZ, el, upd_same, (rav.mono (((e2.trans e4).trans e5).trans e6)).put rp6, k2, fun f => k3 (foot_wipe (hw ▸ f)), hzD⟩
                            · cases el
                          | nw d6 => cases el
                          | sl i6 => cases el
                      | _ => cases el
                    | nw d5 => cases el
                    | sl i5 => cases el
          · have e' : i = xs.length := by omega
            subst e'
            refine .inl ⟨wk.stops Hc eG, ?_⟩
            rw [List.drop_length] at el
            unfold dcL at el
            cases el
            obtain ⟨Rb, fb⟩ := Rc.back R1 e1 hp
            exact k _ Fc Hc (ex1.trans e1) Rb ⟨D, rfl, hFD, ⟨av, hav, rav⟩, fun f => hfD (fb D f), hzD⟩
    · cases eq
section
variable {kx elt tg iter : Expr} {ifs : List Expr} {scope : Scope} {own : List (Str × Nat)} {t : Tg} {mi : Env' → Option (List D × Env')} {mc : Env' → Option (Bool × Env')} {b0 : Bool} {mk m : Env' → Option (R × Env')} {pos : Pos}
theorem pe_dcV (hb0 : b0 = true → isTu t = true) (hc : X.calm = true) (hN : X.N.Nodup) (hi : PI X tg iter (tI X.K ct b0 mi)) (ok : BlkOk X.N X.env.scope scope own)
    (hg : ∀ (s : Shared) (H : Hp) (C : Addr) (cl : List (Str × Addr)) (fp : List Addr), PG (X.blk s H scope (compEnvC scope cl C X.env) fp) tg (gD X.K ct t)) (ht : ∀ (s : Shared) (H : Hp) (C : Addr) (cl : List (Str × Addr)) (fp : List Addr), PTs (X.blk s H scope (compEnvC scope cl C X.env) fp) ifs (VI.tB X.K ct mc))
    (hk : ∀ (s : Shared) (H : Hp) (C : Addr) (cl : List (Str × Addr)) (fp : List Addr), PE (X.blk s H scope (compEnvC scope cl C X.env) fp) kx (tV X.K ct mk)) (he : ∀ (s : Shared) (H : Hp) (C : Addr) (cl : List (Str × Addr)) (fp : List Addr), PE (X.blk s H scope (compEnvC scope cl C X.env) fp) elt (tV X.K ct m)) (hs : isSetE iter = false) (hv : ∀ j ∈ tgIx t, j ∈ own.map (·.2)) :
    PE X (.DictComp kx elt [⟨tg, iter, ifs, 0⟩] scope pos) (tV X.K ct (dcM (own.map (·.2)) t mi mc mk m)) :=
  (pe_dc hc hN hi ok hg ht (fun s H C cl fp => (hk s H C cl fp).vfrz) (fun s H C cl fp => (he s H C cl fp).vfrz) (folded_of hs)).vimp fun σ H Q w => t_dc hb0 hv w
end
end
end VI
namespace VI
open PySem L2
/-! ### the text against the small tree -/
def visB (sc : Scope) (x : Str) : Bool := match sc.names.lookup x with
  | some .local => true
  | some .cell => true
  | some .free => true
  | _ => false
def locB (sc : Scope) (x : Str) : Bool := match sc.names.lookup x with
  | some .local => true
  | some .cell => true
  | _ => false
def isLocB (sc : Scope) (x : Str) : Bool := match sc.names.lookup x with
  | some .local => true
  | _ => false
def glB (sc : Scope) (x : Str) : Bool := match sc.names.lookup x with
  | some .globalImplicit => true
  | _ => false
theorem vis_of {sc : Scope} {x : Str} (h : visB sc x = true) : Vis sc x := by
  unfold visB at h
  split at h
  · exact .inl (by assumption)
  · exact .inr (.inl (by assumption))
  · exact .inr (.inr (by assumption))
  · cases h
theorem loc_of {sc : Scope} {x : Str} (h : locB sc x = true) : Loc sc x := by
  unfold locB at h
  split at h
  · exact .inl (by assumption)
  · exact .inr (by assumption)
  · cases h
theorem isLoc_of {sc : Scope} {x : Str} (h : isLocB sc x = true) : sc.names.lookup x = some .local := by
  unfold isLocB at h
  split at h
  · assumption
  · cases h
theorem gl_of {X : Cx} {sc : Scope} {x : Str} (hs : X.env.scope = sc) (h : glB sc x = true) : Gl X x := by
  unfold glB at h
  split at h
  · subst hs; assumption
  · cases h
/-- a block's scope as it is within a def -/
def relS (scope sc : Scope) : Scope :=
  { scope with names := scope.names.map fun (n, k) => if (k == .free && sc.kind == .function && sc.names.lookup n == some .cell) then (n, .cell) else (n, k) }
theorem relS_look {scope sc : Scope} {x : Str} {k : NameKind} (h : scope.names.lookup x = some k) (hk : k ≠ .free) : (relS scope sc).names.lookup x = some k := by
  unfold relS
  simp only
  generalize scope.names = l at h
  induction l with
  | nil => cases h
  | cons p l ih =>
    obtain ⟨n, k'⟩ := p
    rw [List.lookup_cons] at h
    rw [List.map_cons]
    cases q : x == n with
    | true =>
      rw [q] at h
      cases h
      have : (k == NameKind.free) = false := by cases k <;> first | rfl | exact (hk rfl).elim
      simp only [this, Bool.false_and, Bool.false_eq_true, if_false]
      rw [List.lookup_cons, q]
    | false =>
      rw [q] at h
      have e : ∀ p : Str × NameKind, p.1 = n → ((p :: l.map fun (n, k) => if (k == .free && sc.kind == .function && sc.names.lookup n == some .cell) then (n, .cell) else (n, k)).lookup x) = some k := fun p hp => by
        rw [List.lookup_cons, hp, q]
        exact ih h
      apply e
      split <;> rfl
def tstB (x : Expr) : Bool := match x with
  | .IfExp _ _ _ _ => false
  | _ => true
def biName : Bi → String
  | .len => "len"
  | .all => "all"
  | .any => "any"
  | .tuple => "tuple"
  | .list => "list"
  | .int => "int"
  | .abs => "abs"
  | .max2 => "max"
  | .min2 => "min"
  | .divmod => "divmod"
  | .repr => "repr"
  | _ => "None"
def biKnown : Bi → Bool
  | .len => true
  | .all => true
  | .any => true
  | .tuple => true
  | .list => true
  | .int => true
  | .abs => true
  | .max2 => true
  | .min2 => true
  | .divmod => true
  | .repr => true
  | _ => false
def bmName : Bm → String
  | .join => "join"
  | .split => "split"
  | .partition => "partition"
  | .index => "index"
def bxName : Bx → String
  | .append => "append"
  | .popAt => "pop"
  | .extend => "extend"
def ctB (c : Const) (ctt : Ct) : Bool := match c, ctt with
    | .none, .non => true
    | .bool b, .bl b' => decide (b = b')
    | .int i, .int i' => decide (i = i')
    | .str x, .str x' => decide (x = x')
    | _, _ => false
def boB : BO → Operator → Bool
  | .add, .Add => true
  | .sub, .Sub => true
  | .mul, .Mult => true
  | .mod, .Mod => true
  | .fdiv, .FloorDiv => true
  | .pow, .Pow => true
  | _, _ => false
def coB : CO → CmpOp → Bool
  | .eq, .Eq => true
  | .ne, .NotEq => true
  | .lt, .Lt => true
  | .le, .LtE => true
  | .gt, .Gt => true
  | .ge, .GtE => true
  | .isin, .In => true
  | .notin, .NotIn => true
  | _, _ => false
theorem bo_of {o : BO} {p : Operator} (h : boB o p = true) : p = bop o := by cases o <;> cases p <;> first | rfl | cases h
theorem co_of {o : CO} {p : CmpOp} (h : coB o p = true) : p = cop o := by cases o <;> cases p <;> first | rfl | cases h
def nmB (N : List Str) (i : Nat) (y : Str) : Bool := decide (N[i]? = some y) && !(y == ("__debug__" : Str)) && !(y == ("__classdict__" : Str))
/-- walks whose items are only taken apart -/
def itB : It → Bool
  | .enm _ => true
  | .zip2 _ _ => true
  | .zip3 _ _ _ => true
  | _ => false
section
variable (P : Pg) (N : List Str)
def tgB (sc : Scope) : List Nat → List Expr → Bool
  | [], [] => true
  | i :: is, .Name y _ :: es => nmB N i y && locB sc y && tgB sc is es
  | _, _ => false
def chkTg (sc : Scope) (t : Tg) (x : Expr) : Bool := match t, x with
  | .nm i, .Name y _ => nmB N i y && locB sc y
  | .tu is, .Tuple es _ _ => tgB N sc is es
  | _, _ => false
def ownOf (vs : List Nat) : List (Str × Nat) := vs.map fun v => (N.getD v "", v)
def isiB (sc : Scope) (b : Bi) (t : Str) : Bool := match b with
  | .isCls c => (match P.cls[c]? with
    | some cl => decide (cl.name = t) && glB sc t && !(t == ("__debug__" : Str))
    | none => false)
  | b => isTyB b && decide (t = (isNm b : Str)) && decide (t ∈ P.free) && glB sc t
mutual
def chkE : E → Scope → Expr → Bool
  | .var i => fun sc x => match x with
    | .Name y _ => nmB N i y && visB sc y
    | _ => false
  | .cst c => fun sc x => match x with
    | .Constant k _ _ => ctB k c
    | .Name y _ => glB sc y && decide (P.cs.lookup y = some c) && !(y == ("__debug__" : Str))
    | _ => false
  | .tup es => fun sc x => match x with
    | .Tuple l _ _ => chkEs es sc l
    | _ => false
  | .lst es => fun sc x => match x with
    | .List l _ => chkEs es sc l
    | _ => false
  | .bin o a b => fun sc x => match x with
    | .BinOp l op r _ => boB o op && chkE a sc l && chkE b sc r
    | _ => false
  | .cmp o a b => fun sc x => match x with
    | .Compare l [op] [r] _ => coB o op && chkE a sc l && chkE b sc r && !isSet r
    | _ => false
  | .chain o o' a b c => fun sc x => match x with
    | .Compare l [op, op'] [m, r] _ => coB o op && coB o' op' && chkE a sc l && chkE b sc m && chkE c sc r && !isSet r
    | _ => false
  | .isN a => fun sc x => match x with
    | .Compare l [.Is] [.Constant .none _ _] _ => chkE a sc l
    | _ => false
  | .notN a => fun sc x => match x with
    | .Compare l [.IsNot] [.Constant .none _ _] _ => chkE a sc l
    | _ => false
  | .and a b => fun sc x => match x with
    | .BoolOp .And [y, y2] _ => chkE a sc y && chkE b sc y2 && tstB y && tstB y2
    | .BoolOp .And (y :: y2 :: y3 :: r) p => chkE a sc y && tstB y && chkE b sc (.BoolOp .And (y2 :: y3 :: r) p)
    | _ => false
  | .or a b => fun sc x => match x with
    | .BoolOp .Or [y, y2] _ => chkE a sc y && chkE b sc y2 && tstB y && tstB y2
    | .BoolOp .Or (y :: y2 :: y3 :: r) p => chkE a sc y && tstB y && chkE b sc (.BoolOp .Or (y2 :: y3 :: r) p)
    | _ => false
  | .not a => fun sc x => match x with
    | .UnaryOp .Not y _ => chkE a sc y && tstB y
    | _ => false
  | .neg a => fun sc x => match x with
    | .UnaryOp .USub y _ => chkE a sc y
    | _ => false
  | .ife c a b => fun sc x => match x with
    | .IfExp y l r _ => chkE c sc y && chkE a sc l && chkE b sc r && tstB y
    | _ => false
  | .ix a b => fun sc x => match x with
    | .Subscript l r _ => chkE a sc l && chkE b sc r && !isSlice r
    | _ => false
  | .sli a lo hi => fun sc x => match x with
    | .Subscript l (.Slice u v none _) _ => chkE a sc l && chkO lo sc u && chkO hi sc v
    | _ => false
  | .call f es => fun sc x => match x with
    | .Call (.Name y _) args [] _ => (match P.fns[f]? with
      | some fn => fn.glo && decide (fn.name = y) && glB sc y && !(y == ("__debug__" : Str)) && chkEs es sc args
      | none => false)
    | _ => false
  | .callK f perm es => fun sc x => match x with
    | .Call (.Name y _) [] kws _ => (match P.fns[f]? with
      | some fn => fn.glo && decide (fn.name = y) && glB sc y && !(y == ("__debug__" : Str)) && chkK es sc kws && kwAll kws && decide ((f, kwNames kws, 0, perm) ∈ P.kws)
      | none => false)
    | _ => false
  | .make c es => fun sc x => match x with
    | .Call (.Name y _) (a :: args) [] _ => (match P.cls[c]? with
      | some cl => decide (cl.name = y) && decide (cl.init < P.fns.length) && glB sc y && !(y == ("__debug__" : Str)) && chkEs es sc (a :: args)
      | none => false)
    | _ => false
  | .makeK c perm es => fun sc x => match x with
    | .Call (.Name y _) [] kws _ => (match P.cls[c]? with
      | some cl => decide (cl.name = y) && decide (cl.init < P.fns.length) && glB sc y && !(y == ("__debug__" : Str)) && chkK es sc kws && kwAll kws && decide ((cl.init, kwNames kws, 1, perm) ∈ P.kws)
      | none => false)
    | _ => false
  | .mcall c m f o es => fun sc x => match x with
    | .Call (.Attribute y mm apos) args [] pos => (match P.cls[c]? with
      | some cl => decide (mm = m) && decide (cl.meths.lookup m = some f) && decide (f < P.fns.length) && !isNoArg y && (apos.endLine == pos.line) && decide (args.length < 20) && chkE o sc y && chkEs es sc args
      | none => false)
    | _ => false
  | .mcallL c m f i es => fun sc x => match x with
    | .Call (.Attribute (.Name y _) mm apos) args [] pos => (match P.cls[c]? with
      | some cl => decide (mm = m) && decide (cl.meths.lookup m = some f) && decide (f < P.fns.length) && (apos.endLine == pos.line) && decide (args.length < 20) && nmB N i y && visB sc y && chkEs es sc args
      | none => false)
    | _ => false
  | .mcallK c m f perm o es => fun sc x => match x with
    | .Call (.Attribute y mm apos) [] kws pos => (match P.cls[c]? with
      | some cl => decide (mm = m) && decide (cl.meths.lookup m = some f) && decide (f < P.fns.length) && !isNoArg y && (apos.endLine == pos.line) && decide (kws.length < 20) && chkE o sc y && chkK es sc kws && kwAll kws && decide ((f, kwNames kws, 1, perm) ∈ P.kws)
      | none => false)
    | _ => false
  | .bi b es => fun sc x => match x with
    | .Call (.Name y _) (a :: args) [] _ => biKnown b && decide (y = (biName b : Str)) && decide (y ∈ P.free) && glB sc y && chkEs es sc (a :: args)
    | _ => false
  | .isi b e => fun sc x => match x with
    | .Call (.Name y _) [a, .Name t _] [] _ => decide (y = ("isinstance" : Str)) && decide (("isinstance" : Str) ∈ P.free) && glB sc "isinstance" && chkE e sc a && !isStar a && isiB P sc b t
    | _ => false
  | .isT a => fun sc x => match x with
    | .Compare l [.Is] [.Constant (.bool true) _ _] _ => chkE a sc l
    | _ => false
  | .notT a => fun sc x => match x with
    | .Compare l [.IsNot] [.Constant (.bool true) _ _] _ => chkE a sc l
    | _ => false
  | .dz a b => fun sc x => match x with
    | .Call (.Name y _) [.Call (.Name y2 _) [l, r] [] _] [] _ => decide (y = ("dict" : Str)) && decide (y2 = ("zip" : Str)) && decide (("dict" : Str) ∈ P.free) && decide (("zip" : Str) ∈ P.free) && glB sc "dict" && glB sc "zip" && chkE a sc l && chkE b sc r && !isStar l && !isStar r
    | _ => false
  | .dc vs t it c k e => fun sc x => match x with
    | .DictComp kx elt [⟨tg, iter, ifs, 0⟩] scope _ => blkC N sc scope (ownOf N vs) && chkTg N scope t tg && (tgIx t).all (fun j => decide (j ∈ vs)) && (!itB it || isTu t) && chkI it sc tg iter && !isSetE iter && chkC c (relS scope sc) ifs && chkE e (relS scope sc) elt && chkE k (relS scope sc) kx
    | _ => false
  | .bm m o es => fun sc x => match x with
    | .Call (.Attribute y mm apos) [a] [] pos => decide (mm = (bmName m : Str)) && !isNoArg y && (apos.endLine == pos.line) && chkE o sc y && chkEs es sc [a]
    | _ => false
  | .bx m i e => fun sc x => match x with
    | .Call (.Attribute (.Name y _) mm apos) [a] [] pos => decide (mm = (bxName m : Str)) && (apos.endLine == pos.line) && nmB N i y && visB sc y && chkE e sc a && !isStar a
    | _ => false
  | .fld o f => fun sc x => match x with
    | .Attribute y g _ => decide (g = f) && decide (f ∈ P.flds) && !isNoArg y && chkE o sc y
    | _ => false
  | .lc vs t it c e => fun sc x => match x with
    | .ListComp elt [⟨tg, iter, ifs, 0⟩] scope _ => blkC N sc scope (ownOf N vs) && chkTg N scope t tg && (tgIx t).all (fun j => decide (j ∈ vs)) && (!itB it || isTu t) && chkI it sc tg iter && !isSetE iter && chkC c (relS scope sc) ifs && chkE e (relS scope sc) elt
    | _ => false
  | .lc2 _ _ _ _ _ _ _ _ _ => fun _ _ => false
def chkEs : Es → Scope → List Expr → Bool
  | .nil => fun _ l => match l with
    | [] => true
    | _ => false
  | .cons e es => fun sc l => match l with
    | x :: xs => chkE e sc x && !isStar x && chkEs es sc xs
    | [] => false
def chkK : Es → Scope → List Keyword → Bool
  | .nil => fun _ l => match l with
    | [] => true
    | _ => false
  | .cons e es => fun sc l => match l with
    | x :: xs => chkE e sc x.value && chkK es sc xs
    | [] => false
def chkO : Eo → Scope → Option Expr → Bool
  | .no => fun _ l => match l with
    | none => true
    | _ => false
  | .so e => fun sc l => match l with
    | some x => chkE e sc x
    | none => false
def chkC : Eo → Scope → List Expr → Bool
  | .no => fun _ l => match l with
    | [] => true
    | _ => false
  | .so e => fun sc l => match l with
    | [x] => chkE e sc x && tstB x
    | _ => false
def chkI : It → Scope → Expr → Expr → Bool
  | .seq e => fun sc _ x => chkE e sc x
  | .rng1 e => fun sc _ x => match x with
    | .Call (.Name y _) [a] [] _ => decide (y = ("range" : Str)) && decide (("range" : Str) ∈ P.free) && glB sc "range" && chkE e sc a && !isStar a
    | _ => false
  | .rng2 a b => fun sc _ x => match x with
    | .Call (.Name y _) [l, r] [] _ => decide (y = ("range" : Str)) && decide (("range" : Str) ∈ P.free) && glB sc "range" && chkE a sc l && !isStar l && chkE b sc r && !isStar r
    | _ => false
  | .enm e => fun sc tg x => match tg with
    | .Tuple _ _ _ => (match x with
      | .Call (.Name y _) [a] [] _ => decide (y = ("enumerate" : Str)) && decide (("enumerate" : Str) ∈ P.free) && glB sc "enumerate" && chkE e sc a && !isStar a
      | _ => false)
    | _ => false
  | .zip2 a b => fun sc tg x => match tg with
    | .Tuple _ _ _ => (match x with
      | .Call (.Name y _) [l, r] [] _ => decide (y = ("zip" : Str)) && decide (("zip" : Str) ∈ P.free) && glB sc "zip" && chkE a sc l && chkE b sc r && !isStar l && !isStar r
      | _ => false)
    | _ => false
  | .zip3 _ _ _ => fun _ _ _ => false
end
end
end VI
namespace VI
open PySem L2
/-- what is known of the module -/
structure Gf (P : Pg) (ct fa : Nat → Addr) (fd : Nat → FuncData) (cf : Nat → List Sl → Option (R × List Sl)) (k : Nat) (Pr : Program) (w : World) (K : PySem.W.Frag) (mg : Str → Option Value) (base : Heap) : Prop where
  fn : ∀ (f : Nat) (fn : Fn), P.fns[f]? = some fn → FnG Pr w K mg base k (fa f) (fd f) fn.ps (spF K ct (cf f) fn.ps.length)
  bn : ∀ (f : Nat) (fn : Fn), P.fns[f]? = some fn → Binds K (fd f) fn.ps []
  glo : ∀ (f : Nat) (fn : Fn), P.fns[f]? = some fn → fn.glo = true → mg fn.name = some (.ref (fa f)) ∧ PySem.W.keepIn K (.ref (fa f)) = true
  kw : ∀ (f : Nat) (ks : List Str) (n : Nat) (perm : List Nat) (fn : Fn), (f, ks, n, perm) ∈ P.kws → P.fns[f]? = some fn → KwB K (fd f) fn.ps ks n perm
  cl : ∀ (c : Nat) (cl : Cl), P.cls[c]? = some cl → mg cl.name = some (.ref (ct c)) ∧ Mk K (ct c) (fa cl.init)
  mt : ∀ (c : Nat) (cl : Cl), P.cls[c]? = some cl → ∀ (m : Str) (f : Nat), cl.meths.lookup m = some f → Meth K (ct c) m (fa f)
  ok : ∀ c, Cls K (ct c)
  na : ∀ c, ∀ f ∈ P.flds, NoAttr K (ct c) f
  cs : ∀ (x : Str) (c : Ct), P.cs.lookup x = some c → ∃ u, mg x = some u ∧ RelV c.v u
  free : ∀ x ∈ P.free, mg x = none
  kit : KitF K ct P.cls.length
  len : ∀ (f : Nat) (fn : Fn) ss r ss', P.fns[f]? = some fn → cf f ss = some (r, ss') → ss.length = fn.ps.length ∧ ss'.length = ss.length
section
variable {P : Pg} {N : List Str} {ct fa : Nat → Addr} {fd : Nat → FuncData} {cf : Nat → List Sl → Option (R × List Sl)} {k : Nat}
structure CtV (P : Pg) (N : List Str) (ct fa : Nat → Addr) (fd : Nat → FuncData) (cf : Nat → List Sl → Option (R × List Sl)) (k : Nat) (X : Cx) (sc : Scope) : Prop where
  g : Gf P ct fa fd cf k X.prog X.w X.K X.mg X.base
  hN : X.N = N
  nd : N.Nodup
  hsc : X.env.scope = sc
  kind : sc.kind = .function
  calm : X.calm = true
  gd : X.A.guards = some []
  room : Room (k + 3) X.A
theorem nm_of {i : Nat} {y : Str} (h : nmB N i y = true) : N[i]? = some y ∧ (y == ("__debug__" : Str)) = false ∧ (y == ("__classdict__" : Str)) = false := by
  unfold nmB at h
  simp only [Bool.and_eq_true, Bool.not_eq_true', decide_eq_true_eq] at h
  exact ⟨h.1.1, h.1.2, h.2⟩
theorem CtV.var {X : Cx} {sc : Scope} {i : Nat} {y : Str} {p : Pos} (C : CtV P N ct fa fd cf k X sc) (h : nmB N i y = true) (hv : visB sc y = true) : PE X (.Name y p) (tV X.K ct (varM i)) := by
  obtain ⟨h1, h2, h3⟩ := nm_of h
  exact pe_varV (by rw [C.hN]; exact h1) (by rw [C.hsc]; exact vis_of hv) h2 h3
/-- names that may be stored to -/
def Sto (X : Cx) (osc : Scope) : Prop := ∀ x, locB osc x = true → Loc X.env.scope x ∧ (X.fn x = true ∨ X.env.scope.names.lookup x = some .local)
theorem pgs_ofB {X : Cx} {osc : Scope} (hN : X.N = N) (nd : N.Nodup) (hs : Sto X osc) : ∀ {is : List Nat} {es : List Expr}, tgB N osc is es = true → PGs X es (gDs X.K ct is) ∧ (assignEach es X.env).length = is.length ∧ (assignEach es X.env).findIdx? (·.1) = none
  | [], [], _ => ⟨pgs_nilV, rfl, rfl⟩
  | [], _ :: _, h => nomatch h
  | _ :: _, [], h => nomatch h
  | i :: is, e :: es, h => by
    cases e with
    | Name y p =>
      unfold tgB at h
      simp only [Bool.and_eq_true] at h
      obtain ⟨⟨h1, h2⟩, h3⟩ := h
      obtain ⟨a1, a2, a3⟩ := pgs_ofB hN nd hs h3
      obtain ⟨b1, b2⟩ := hs y h2
      refine ⟨pgs_consV (pg_nmV (by rw [hN]; exact nd) (by rw [hN]; exact (nm_of h1).1) b1 b2) a1 rfl, congrArg (· + 1) a2, ?_⟩
      show List.findIdx? _ ((false, _) :: assignEach es X.env) = none
      rw [List.findIdx?_cons, a3]; rfl
    | _ => cases h
theorem pgs_setB {X : Cx} {osc : Scope} (hN : X.N = N) (nd : N.Nodup) (hs : Sto X osc) : ∀ {is : List Nat} {es : List Expr}, tgB N osc is es = true → PGs X es (gSet is) ∧ (assignEach es X.env).length = is.length ∧ (assignEach es X.env).findIdx? (·.1) = none
  | [], [], _ => ⟨pgs_set0, rfl, rfl⟩
  | [], _ :: _, h => nomatch h
  | _ :: _, [], h => nomatch h
  | i :: is, e :: es, h => by
    cases e with
    | Name y p =>
      unfold tgB at h
      simp only [Bool.and_eq_true] at h
      obtain ⟨⟨h1, h2⟩, h3⟩ := h
      obtain ⟨a1, a2, a3⟩ := pgs_setB hN nd hs h3
      obtain ⟨b1, b2⟩ := hs y h2
      refine ⟨pgs_set1 (pg_name (by rw [hN]; exact nd) (by rw [hN]; exact (nm_of h1).1) b1 b2) a1 rfl, congrArg (· + 1) a2, ?_⟩
      show List.findIdx? _ ((false, _) :: assignEach es X.env) = none
      rw [List.findIdx?_cons, a3]; rfl
    | _ => cases h
theorem pg_ofB {X : Cx} {osc : Scope} {t : Tg} {tg : Expr} (hN : X.N = N) (nd : N.Nodup) (hc : X.calm = true) (hs : Sto X osc) (h : chkTg N osc t tg = true) : PG X tg (gD X.K ct t) := by
  unfold chkTg at h
  split at h
  · simp only [Bool.and_eq_true] at h
    obtain ⟨b1, b2⟩ := hs _ h.2
    exact pg_nmV (by rw [hN]; exact nd) (by rw [hN]; exact (nm_of h.1).1) b1 b2
  · obtain ⟨a1, a2, a3⟩ := pgs_ofB hN nd hs h
    exact pg_tuV hc a1 a2 a3
  · cases h
theorem CtV.blk {X : Cx} {sc scope : Scope} (C : CtV P N ct fa fd cf k X sc) (hk : scope.kind = .function) (s : Shared) (H : Hp) (Ca : Addr) (cl : List (Str × Addr)) (fp : List Addr) :
    CtV P N ct fa fd cf k (X.blk s H scope (compEnvC scope cl Ca X.env) fp) (relS scope sc) := by
  refine ⟨C.g, C.hN, C.nd, ?_, hk, C.calm, C.gd, C.room⟩
  show relS scope X.env.scope = relS scope sc
  rw [C.hsc]
theorem Sto.blk {X : Cx} {scope : Scope} (s : Shared) (H : Hp) (Ca : Addr) (cl : List (Str × Addr)) (fp : List Addr) : Sto (X.blk s H scope (compEnvC scope cl Ca X.env) fp) scope := fun x h => by
  have e : (X.blk s H scope (compEnvC scope cl Ca X.env) fp).env.scope = relS scope X.env.scope := rfl
  rw [e]
  rcases loc_of h with q | q
  · exact ⟨.inl (relS_look q (by decide)), .inr (relS_look q (by decide))⟩
  · refine ⟨.inr (relS_look q (by decide)), .inl ?_⟩
    show (scope.names.lookup x == some .cell) = true
    rw [q]; rfl
theorem pe_negV {X : Cx} {a : Expr} {ma : Env' → Option (R × Env')} {pos : Pos} (h : PE X a (tV X.K ct ma)) : PE X (.UnaryOp .USub a pos) (tV X.K ct (negM ma)) := by
  refine (pe_un un_neg h).vimp fun σ H Q ⟨z, F, env, rel, r, env', eq, k⟩ => ?_
  unfold negM at eq
  split at eq
  · rename_i i env1 q
    cases eq
    refine ⟨z, F, env, rel, _, _, q, fun v F' H' ex R1 rp => ?_⟩
    cases rp
    exact ⟨i, rfl, k _ F' H' ex R1 (.int _)⟩
  · cases eq
theorem CtV.isi {X : Cx} {sc : Scope} {b : Bi} {t : Str} {p : Pos} (C : CtV P N ct fa fd cf k X sc) (h : isiB P sc b t = true) : PE X (.Name t p) (tC (clsV ct b)) := by
  unfold isiB at h
  split at h
  · rename_i c
    split at h
    · rename_i cl hc
      simp only [Bool.and_eq_true, Bool.not_eq_true', decide_eq_true_eq] at h
      obtain ⟨⟨h1, h2⟩, h3⟩ := h
      subst h1
      exact pe_glob (gl_of C.hsc h2) (C.g.cl c cl hc).1 rfl h3
    · cases h
  · simp only [Bool.and_eq_true, decide_eq_true_eq] at h
    obtain ⟨⟨⟨h1, h2⟩, h3⟩, h4⟩ := h
    subst h2
    have g := gl_of C.hsc h4
    have m := C.g.free _ h3
    cases b with
    | isStr => exact pe_bltn (u := .type "str") g m (by decide +kernel) rfl (by decide) (by decide)
    | isTuple => exact pe_bltn (u := .type "tuple") g m (by decide +kernel) rfl (by decide) (by decide)
    | isInt => exact pe_bltn (u := .type "int") g m (by decide +kernel) rfl (by decide) (by decide)
    | isBool => exact pe_bltn (u := .type "bool") g m (by decide +kernel) rfl (by decide) (by decide)
    | _ => cases h1
/-! ### built-in functions -/
theorem pe_biV {X : Cx} {sc : Scope} {b : Bi} {y : Str} {p pos : Pos} {a : Expr} {args : List Expr} {ms : Env' → Option (List R × Env')} (C : CtV P N ct fa fd cf k X sc) (hk : biKnown b = true) (hy : y = (biName b : Str)) (hf : y ∈ P.free) (hg : glB sc y = true) (ha : PA X (a :: args) (tR X.K ct ms))
    (hs : isStar a = false) (hss : (args.all fun e => !isStar e) = true) : PE X (.Call (.Name y p) (a :: args) [] pos) (tV X.K ct (biM (biD b) ms)) := by
  have g := gl_of C.hsc hg
  have m := C.g.free y hf
  subst hy
  cases b with
  | len => exact pe_biB bi_len g m (by rfl) ha (by decide) (by decide) hs hss
  | all => exact pe_biB (bi_all C.calm) g m (by rfl) ha (by decide) (by decide) hs hss
  | any => exact pe_biB (bi_any C.calm) g m (by rfl) ha (by decide) (by decide) hs hss
  | tuple => exact pe_biT bi_tuple g m (by rfl) ha (by decide) (by decide) hs hss
  | list => exact pe_biT bi_list g m (by rfl) ha (by decide) (by decide) hs hss
  | int => exact pe_biT bi_int g m (by rfl) ha (by decide) (by decide) hs hss
  | abs => exact pe_biB bi_abs g m (by rfl) ha (by decide) (by decide) hs hss
  | max2 => exact pe_biB (bi_max2 C.calm) g m (by rfl) ha (by decide) (by decide) hs hss
  | min2 => exact pe_biB (bi_min2 C.calm) g m (by rfl) ha (by decide) (by decide) hs hss
  | divmod => exact pe_biB bi_divmod g m (by rfl) ha (by decide) (by decide) hs hss
  | repr => exact pe_biB (bi_repr C.gd (by have := C.room.un; omega)) g m (by rfl) ha (by decide) (by decide) hs hss
  | _ => cases hk
end
end VI
namespace VI
open PySem L2
section
variable {X : Cx} {ct : Nat → Addr} {m : Env' → Option (R × Env')} {ms : Env' → Option (List R × Env')}
/-! a method of a tuple -/
def tBT (r : V → List V → Hp → VK → Prop) (to : TE) (t : TA) : TE := fun σ H Q => to σ H fun x H1 => (∃ a xs, x = .ref a ∧ TpT H1 a xs) ∧ t σ H1 fun xs H2 => r x xs H2 Q
theorem pe_bmTup {o e : Expr} {es : List Expr} {to : TE} {t : TA} {name : Str} {apos cpos : Pos} {id : String} {r : V → List V → Hp → VK → Prop} (slot : Slot "tuple" name id) (hty : typeOf (.builtin id) = pure (.type "method_descriptor")) (hm : MtR X id r) (ho : PE X o to) (ha : PA X (e :: es) t)
    (hbase : attributeBase o name X.env (eval o X.env) = eval o X.env)
    (hfew : ((backTo cpos (starEach (e :: es) X.env)).all (fun x => !x.1) && (backToKw cpos (keywordEach [] X.env)).all (fun x => x.1.isSome)
      && decide ((e :: es).length + ([] : List Keyword).length + (if ([] : List Keyword).isEmpty then 0 else 1) < 30)) = true)
    (hline : (apos.endLine == cpos.line) = true) (hs : starEach (e :: es) X.env = (false, eval e X.env) :: starEach es X.env) (hplain : (backTo cpos (starEach es X.env)).any (·.1) = false) :
    PE X (.Call (.Attribute o name apos) (e :: es) [] cpos) (tBT r to t) := by
  refine ⟨fun pins s σ H Q I h => ?_⟩
  refine wpAny_Call_method_late hbase hfew hline rfl (thn (ho.run pins s σ H _ I h) fun v s1 ⟨x, H1, I1, r1, ⟨a, xs, ex, o1, ht, hc, hd⟩, q1⟩ => ?_)
  subst ex
  cases r1
  have hg : s1.heap.get? a = some o1 := (I1.hok a _ ht).1
  refine ⟨"tuple", id, PySem.F.plainAttrs_tuple, slot, hty, ⟨o1, hg, hc⟩, fun b e => by cases e; exact ⟨o1, hg, hd⟩, ?_⟩
  have hA := ha.run cpos pins s1 σ H1 _ I1 q1
  rw [hs] at hA ⊢
  refine Calls.callWith_builtin (by show (false || (backTo cpos (starEach es X.env)).any (·.1)) = false; rw [hplain] <;> rfl) (Calls.evalArgs_plain ?_)
  exact thn hA fun us s2 ⟨vs, H2, I2, r2, q2⟩ => hm pins s2 σ H2 (.ref a) vs (.ref a) us Q I2 rfl r2 q2
theorem t_bt {K : PySem.W.Frag} {f : D → List D → Option R} {σ : St} {H : Hp} {Q : VK} (ht : ∀ d ds r, f d ds = some r → ∃ l, d = .tup l) (hk : ∀ env env1 r, pz (m env) = some (r, env1) → ∃ d, r = .dt d)
    (w : tV K ct (bmM f m ms) σ H Q) : tBT (rM K ct f) (tV K ct fun env => pz (m env)) (tR K ct ms) σ H Q := by
  obtain ⟨z, F, env, rel, r, env', eq, k⟩ := w
  unfold bmM at eq
  cases q : pz (m env) with
  | none => rw [q] at eq; cases eq
  | some p =>
    obtain ⟨x, env1⟩ := p
    rw [q] at eq
    simp only at eq
    cases q2 : ms env1 with
    | none => rw [q2] at eq; cases eq
    | some p2 =>
      obtain ⟨rs, env2⟩ := p2
      rw [q2] at eq
      simp only at eq
      cases o1 : opD env2 x with
      | none => rw [o1] at eq; cases eq
      | some d =>
        cases q3 : rs.mapM (opD env2) with
        | none => rw [o1, q3] at eq; cases eq
        | some ds =>
          rw [o1, q3] at eq
          simp only at eq
          cases hf : f d ds with
          | none => rw [hf] at eq; cases eq
          | some r0 =>
            rw [hf] at eq
            cases eq
            obtain ⟨d0, rfl⟩ := hk env env1 x q
            cases o1
            refine ⟨z, F, env, rel, _, env1, q, fun v1 F1 H1 e1 R1 p1 => ⟨?_, z, F1, env1, R1, rs, _, q2, fun vs F2 H2 e2 R2 ra => ?_⟩⟩
            · obtain ⟨l, rfl⟩ := ht _ _ _ hf
              cases p1 with
              | tup h _ => exact ⟨_, _, rfl, R1.r.sub.tpT h⟩
            · refine ⟨F2, d, ds, _, R2.r.sub, .inl (Rp.mono e2 p1), mapM_ops R2 ra q3, hf, fun v F3 H3 o => ?_⟩
              obtain ⟨e3, R3, p3⟩ := o.rel R2
              exact k v F3 H3 ((e1.trans e2).trans e3) R3 p3
theorem idx_tup {d : D} {ds : List D} {r : R} (e : bmIndex d ds = some r) : ∃ l, d = .tup l := by
  unfold bmIndex at e
  split at e
  · exact ⟨_, rfl⟩
  · cases e
theorem pe_bmV {b : Bm} {o a : Expr} {mm : Str} {apos pos : Pos} (hm : mm = (bmName b : Str)) (ho : PE X o (tV X.K ct m)) (ha : PA X [a] (tR X.K ct ms)) (hs : isStar a = false) (hn : isNoArg o = false) (hl : (apos.endLine == pos.line) = true) :
    PE X (.Call (.Attribute o mm apos) [a] [] pos) (tV X.K ct (bmM (bmD b) (dataM m) ms)) := by
  subst hm
  cases b with
  | join =>
    refine (pe_bm PySem.F.plainAttrs_str PySem.F.slot_str_join PySem.F.type_str_join bm_join ho.vdata.vpz ha (base_of hn) (few_one hs) hl (star_of hs) rfl).vimp fun σ H Q w => t_bm (fun F H v d ds r s h e => ?_) (fun env env1 r h => dataM_k h) w
    unfold bmD bmJoin at e
    split at e <;> first | exact str_tyV h | cases e
  | split =>
    refine (pe_bm PySem.F.plainAttrs_str PySem.F.slot_str_split PySem.F.type_str_split bm_split ho.vdata.vpz ha (base_of hn) (few_one hs) hl (star_of hs) rfl).vimp fun σ H Q w => t_bm (fun F H v d ds r s h e => ?_) (fun env env1 r h => dataM_k h) w
    unfold bmD bmSplit at e
    split at e <;> first | exact str_tyV h | cases e
  | partition =>
    refine (pe_bm PySem.F.plainAttrs_str PySem.F.slot_str_partition PySem.F.type_str_partition bm_partition ho.vdata.vpz ha (base_of hn) (few_one hs) hl (star_of hs) rfl).vimp fun σ H Q w => t_bm (fun F H v d ds r s h e => ?_) (fun env env1 r h => dataM_k h) w
    unfold bmD bmPartition at e
    split at e <;> first | exact str_tyV h | cases e
  | index => exact (pe_bmTup PySem.F.slot_tuple_index PySem.F.type_tuple_index bm_index ho.vdata.vpz ha (base_of hn) (few_one hs) hl (star_of hs) rfl).vimp fun σ H Q w => t_bt (fun d ds r e => idx_tup e) (fun env env1 r h => dataM_k h) w
theorem kwNames_len : ∀ {kws : List Keyword}, kwAll kws = true → (kwNames kws).length = kws.length
  | [], _ => rfl
  | ⟨none, _, _⟩ :: _, h => by unfold kwAll at h; cases h
  | ⟨some x, _, _⟩ :: kws, h => by
    unfold kwAll at h
    unfold kwNames
    exact congrArg (· + 1) (kwNames_len h)
def isBo : Expr → Bool
  | .BoolOp _ _ _ => true
  | _ => false
/-- an expression as a value, as a test -/
structure Trip (X : Cx) (ct : Nat → Addr) (x : Expr) (m : Env' → Option (R × Env')) : Prop where
  pe : PE X x (tV X.K ct m)
  pt : tstB x = true → PT X x (VI.tB X.K ct (boolM m))
  pw : isBo x = true → PW X x (VI.tB X.K ct (boolM m))
theorem Trip.plain {x : Expr} (h : PE X x (tV X.K ct m)) (hp : isPlainT x = true) (hb : isBo x = false) : Trip X ct x m := ⟨h, fun _ => pt_valV h hp, fun q => by rw [hb] at q; cases q⟩
end
section
variable (P : Pg) (N : List Str) (ct fa : Nat → Addr) (fd : Nat → FuncData) (cf : Nat → List Sl → Option (R × List Sl)) (k : Nat)
def GoodE (e : E) : Prop := ∀ sc x, chkE P N e sc x = true → ∀ X, CtV P N ct fa fd cf k X sc → Trip X ct x (evE P cf e)
structure PEs (X : Cx) (es : Es) (l : List Expr) : Prop where
  v : PA X l (tA X.K ct (evV P cf es))
  p : PA X l (tR X.K ct (evPs P cf es))
  a : ∀ mt, PA X l (tRB X.K ct (evA P cf es mt))
  r : PA X l (tRB X.K ct (evR P cf es))
  s : (l.all fun e => !isStar e) = true
  n : es = .nil ↔ l = []
def GoodEs (es : Es) : Prop := ∀ sc l, chkEs P N es sc l = true → ∀ X, CtV P N ct fa fd cf k X sc → PEs P ct cf X es l
def GoodK (es : Es) : Prop := ∀ sc l, chkK P N es sc l = true → ∀ X, CtV P N ct fa fd cf k X sc → PK X l (tA X.K ct (evV P cf es)) ∧ ∀ env ds env', evV P cf es env = some (ds, env') → ds.length = l.length
def GoodO (e : Eo) : Prop := ∀ sc l, chkO P N e sc l = true → ∀ X, CtV P N ct fa fd cf k X sc → PO X l (tOi X.K ct (evO P cf e))
def GoodC (e : Eo) : Prop := ∀ sc l, chkC P N e sc l = true → ∀ X, CtV P N ct fa fd cf k X sc → PTs X l (VI.tB X.K ct (evC P cf e))
def GoodI (e : It) : Prop := ∀ sc tg x, chkI P N e sc tg x = true → ∀ X, CtV P N ct fa fd cf k X sc → PI X tg x (tI X.K ct (itB e) (evI P cf e))
end
section
variable {P : Pg} {N : List Str} {ct fa : Nat → Addr} {fd : Nat → FuncData} {cf : Nat → List Sl → Option (R × List Sl)} {k : Nat}
theorem CtV.units {X : Cx} {sc : Scope} (C : CtV P N ct fa fd cf k X sc) : X.A.units + 65 < cLine := by have := C.room.un; omega
theorem CtV.rm {X : Cx} {sc : Scope} (C : CtV P N ct fa fd cf k X sc) : Room k X.A := C.room.mono (by omega)
theorem CtV.rm1 {X : Cx} {sc : Scope} (C : CtV P N ct fa fd cf k X sc) : Room (k + 1) X.A := C.room.mono (by omega)
theorem fn_at {f : Nat} (h : f < P.fns.length) : ∃ fn, P.fns[f]? = some fn := ⟨_, List.getElem?_eq_getElem h⟩
/-- the parts of a comprehension -/
structure LcP (b0 : Bool) (X : Cx) (ct : Nat → Addr) (sc scope : Scope) (N : List Str) (vs : List Nat) (t : Tg) (tg iter elt : Expr) (ifs : List Expr) (mi : Env' → Option (List D × Env')) (mc : Env' → Option (Bool × Env')) (me : Env' → Option (R × Env')) : Prop where
  hb : b0 = true → isTu t = true
  hi : PI X tg iter (tI X.K ct b0 mi)
  ok : BlkOk X.N X.env.scope scope (ownOf N vs)
  hg : ∀ (s : Shared) (H : Hp) (C : Addr) (cl : List (Str × Addr)) (fp : List Addr), PG (X.blk s H scope (compEnvC scope cl C X.env) fp) tg (gD X.K ct t)
  ht : ∀ (s : Shared) (H : Hp) (C : Addr) (cl : List (Str × Addr)) (fp : List Addr), PTs (X.blk s H scope (compEnvC scope cl C X.env) fp) ifs (VI.tB X.K ct mc)
  he : ∀ (s : Shared) (H : Hp) (C : Addr) (cl : List (Str × Addr)) (fp : List Addr), PE (X.blk s H scope (compEnvC scope cl C X.env) fp) elt (tV X.K ct me)
  hs : isSetE iter = false
  hv : ∀ j ∈ tgIx t, j ∈ (ownOf N vs).map (·.2)
theorem own_ix {vs : List Nat} : (ownOf N vs).map (·.2) = vs := by
  unfold ownOf
  rw [List.map_map]
  have : ((fun x : Str × Nat => x.2) ∘ fun v => (N.getD v "", v)) = id := rfl
  rw [this, List.map_id]
theorem lc_parts {vs : List Nat} {t : Tg} {it : It} {c : Eo} {e : E} {sc scope : Scope} {elt tg iter : Expr} {ifs : List Expr} {pos : Pos} (gi : GoodI P N ct fa fd cf k it) (gc : GoodC P N ct fa fd cf k c) (ge : GoodE P N ct fa fd cf k e)
    (h : chkE P N (.lc vs t it c e) sc (.ListComp elt [⟨tg, iter, ifs, 0⟩] scope pos) = true) {X : Cx} (C : CtV P N ct fa fd cf k X sc) : LcP (itB it) X ct sc scope N vs t tg iter elt ifs (evI P cf it) (evC P cf c) (evE P cf e) := by
  unfold chkE at h
  simp only [Bool.and_eq_true, Bool.not_eq_true', List.all_eq_true, decide_eq_true_eq] at h
  obtain ⟨⟨⟨⟨⟨⟨⟨h1, h2⟩, h3⟩, h0⟩, h4⟩, h5⟩, h6⟩, h7⟩ := h
  have ok := blkOk_by h1
  refine ⟨fun q => by rw [q] at h0; simpa using h0, gi sc tg iter h4 X C, by rw [C.hN, C.hsc]; exact ok, fun s H Ca cl fp => ?_, fun s H Ca cl fp => gc _ _ h6 _ (C.blk ok.kind s H Ca cl fp), fun s H Ca cl fp => (ge _ _ h7 _ (C.blk ok.kind s H Ca cl fp)).pe, h5, fun j hj => by rw [own_ix]; exact h3 j hj⟩
  exact pg_ofB (X := X.blk s H scope (compEnvC scope cl Ca X.env) fp) C.hN C.nd C.calm (Sto.blk s H Ca cl fp) h2
theorem dc_parts {vs : List Nat} {t : Tg} {it : It} {c : Eo} {kk e : E} {sc scope : Scope} {kx elt tg iter : Expr} {ifs : List Expr} {pos : Pos} (gi : GoodI P N ct fa fd cf k it) (gc : GoodC P N ct fa fd cf k c) (gk : GoodE P N ct fa fd cf k kk) (ge : GoodE P N ct fa fd cf k e)
    (h : chkE P N (.dc vs t it c kk e) sc (.DictComp kx elt [⟨tg, iter, ifs, 0⟩] scope pos) = true) {X : Cx} (C : CtV P N ct fa fd cf k X sc) : LcP (itB it) X ct sc scope N vs t tg iter elt ifs (evI P cf it) (evC P cf c) (evE P cf e) ∧
      ∀ (s : Shared) (H : Hp) (C : Addr) (cl : List (Str × Addr)) (fp : List Addr), PE (X.blk s H scope (compEnvC scope cl C X.env) fp) kx (tV X.K ct (evE P cf kk)) := by
  unfold chkE at h
  simp only [Bool.and_eq_true, Bool.not_eq_true', List.all_eq_true, decide_eq_true_eq] at h
  obtain ⟨⟨⟨⟨⟨⟨⟨⟨h1, h2⟩, h3⟩, h0⟩, h4⟩, h5⟩, h6⟩, h7⟩, h8⟩ := h
  have ok := blkOk_by h1
  refine ⟨⟨fun q => by rw [q] at h0; simpa using h0, gi sc tg iter h4 X C, by rw [C.hN, C.hsc]; exact ok, fun s H Ca cl fp => ?_, fun s H Ca cl fp => gc _ _ h6 _ (C.blk ok.kind s H Ca cl fp), fun s H Ca cl fp => (ge _ _ h7 _ (C.blk ok.kind s H Ca cl fp)).pe, h5, fun j hj => by rw [own_ix]; exact h3 j hj⟩, fun s H Ca cl fp => (gk _ _ h8 _ (C.blk ok.kind s H Ca cl fp)).pe⟩
  exact pg_ofB (X := X.blk s H scope (compEnvC scope cl Ca X.env) fp) C.hN C.nd C.calm (Sto.blk s H Ca cl fp) h2
end
end VI
namespace VI
open PySem L2
section
variable {P : Pg} {N : List Str} {ct fa : Nat → Addr} {fd : Nat → FuncData} {cf : Nat → List Sl → Option (R × List Sl)} {k : Nat}
mutual
theorem sndE : ∀ e : E, GoodE P N ct fa fd cf k e
  | .var i => fun sc x h X C => by
    unfold chkE at h
    split at h
    · simp only [Bool.and_eq_true] at h
      unfold evE
      exact .plain (C.var h.1 h.2) rfl rfl
    · cases h
  | .cst c => fun sc x h X C => by
    unfold chkE at h
    split at h
    · unfold evE
      exact .plain (pe_cstV h) rfl rfl
    · simp only [Bool.and_eq_true, Bool.not_eq_true', decide_eq_true_eq] at h
      obtain ⟨u, h1, h2⟩ := C.g.cs _ _ h.1.2
      unfold evE
      exact .plain (pe_globV (gl_of C.hsc h.1.1) h1 h2 h.2) rfl rfl
    · cases h
  | .tup es => fun sc x h X C => by
    unfold chkE at h
    split at h
    · unfold evE
      exact .plain (pe_tupV (sndEs es sc _ h X C).v) rfl rfl
    · cases h
  | .lst es => fun sc x h X C => by
    unfold chkE at h
    split at h
    · unfold evE
      exact .plain (pe_lstV (sndEs es sc _ h X C).v) rfl rfl
    · cases h
  | .bin o a b => fun sc x h X C => by
    unfold chkE at h
    split at h
    · simp only [Bool.and_eq_true] at h
      have e := bo_of h.1.1
      subst e
      unfold evE
      exact .plain (pe_binV (sndE a sc _ h.1.2 X C).pe (sndE b sc _ h.2 X C).pe) rfl rfl
    · cases h
  | .cmp o a b => fun sc x h X C => by
    unfold chkE at h
    split at h
    · simp only [Bool.and_eq_true, Bool.not_eq_true'] at h
      obtain ⟨⟨⟨h1, h2⟩, h3⟩, h4⟩ := h
      have e := co_of h1
      subst e
      unfold evE
      exact ⟨pe_cmpV C.units (sndE a sc _ h2 X C).pe (sndE b sc _ h3 X C).pe (marks_of h4), fun _ => pt_cmpV C.units (sndE a sc _ h2 X C).pe (sndE b sc _ h3 X C).pe (marks_of h4), fun q => nomatch q⟩
    · cases h
  | .chain o o' a b c => fun sc x h X C => by
    unfold chkE at h
    split at h
    · simp only [Bool.and_eq_true, Bool.not_eq_true'] at h
      obtain ⟨⟨⟨⟨⟨h1, h2⟩, h3⟩, h4⟩, h5⟩, h6⟩ := h
      have e := co_of h1
      have e' := co_of h2
      subst e e'
      unfold evE
      exact ⟨pe_chainV C.units (sndE a sc _ h3 X C).pe (sndE b sc _ h4 X C).pe (sndE c sc _ h5 X C).pe h6, fun _ => pt_chainV C.units (sndE a sc _ h3 X C).pe (sndE b sc _ h4 X C).pe (sndE c sc _ h5 X C).pe h6, fun q => nomatch q⟩
    · cases h
  | .isN a => fun sc x h X C => by
    unfold chkE at h
    split at h
    · unfold evE
      exact ⟨pe_isNV (sndE a sc _ h X C).pe, fun _ => pt_isNV (sndE a sc _ h X C).pe, fun q => nomatch q⟩
    · cases h
  | .notN a => fun sc x h X C => by
    unfold chkE at h
    split at h
    · unfold evE
      exact ⟨pe_notNV (sndE a sc _ h X C).pe, fun _ => pt_notNV (sndE a sc _ h X C).pe, fun q => nomatch q⟩
    · cases h
  | .and a b => fun sc x h X C => by
    unfold chkE at h
    split at h
    · simp only [Bool.and_eq_true] at h
      obtain ⟨⟨⟨h1, h2⟩, h3⟩, h4⟩ := h
      have ga := sndE a sc _ h1 X C
      have gb := sndE b sc _ h2 X C
      unfold evE
      have pw := pw_andV (pos := by assumption) (ga.pt h3) (pw_and1 (gb.pt h4))
      exact ⟨pe_andV ga.pe (pe_one gb.pe), fun _ => pw.pt, fun _ => pw⟩
    · simp only [Bool.and_eq_true] at h
      obtain ⟨⟨h1, h3⟩, h2⟩ := h
      have ga := sndE a sc _ h1 X C
      have gb := sndE b sc _ h2 X C
      unfold evE
      have pw := pw_andV (ga.pt h3) (gb.pw rfl)
      exact ⟨pe_andV ga.pe gb.pe, fun _ => pw.pt, fun _ => pw⟩
    · cases h
  | .or a b => fun sc x h X C => by
    unfold chkE at h
    split at h
    · simp only [Bool.and_eq_true] at h
      obtain ⟨⟨⟨h1, h2⟩, h3⟩, h4⟩ := h
      have ga := sndE a sc _ h1 X C
      have gb := sndE b sc _ h2 X C
      unfold evE
      have pw := pw_orV (pos := by assumption) (ga.pt h3) (pw_or1 (gb.pt h4))
      exact ⟨pe_orV ga.pe (pe_one gb.pe), fun _ => pw.pt, fun _ => pw⟩
    · simp only [Bool.and_eq_true] at h
      obtain ⟨⟨h1, h3⟩, h2⟩ := h
      have ga := sndE a sc _ h1 X C
      have gb := sndE b sc _ h2 X C
      unfold evE
      have pw := pw_orV (ga.pt h3) (gb.pw rfl)
      exact ⟨pe_orV ga.pe gb.pe, fun _ => pw.pt, fun _ => pw⟩
    · cases h
  | .not a => fun sc x h X C => by
    unfold chkE at h
    split at h
    · simp only [Bool.and_eq_true] at h
      have ga := sndE a sc _ h.1 X C
      unfold evE
      exact ⟨pe_notV ga.pe, fun _ => pt_notV (ga.pt h.2), fun q => nomatch q⟩
    · cases h
  | .neg a => fun sc x h X C => by
    unfold chkE at h
    split at h
    · unfold evE
      exact .plain (pe_negV (sndE a sc _ h X C).pe) rfl rfl
    · cases h
  | .ife c a b => fun sc x h X C => by
    unfold chkE at h
    split at h
    · simp only [Bool.and_eq_true] at h
      obtain ⟨⟨⟨h1, h2⟩, h3⟩, h4⟩ := h
      unfold evE
      exact ⟨pe_ifeV ((sndE c sc _ h1 X C).pt h4) (sndE a sc _ h2 X C).pe (sndE b sc _ h3 X C).pe, (fun q => nomatch q), (fun q => nomatch q)⟩
    · cases h
  | .ix a b => fun sc x h X C => by
    unfold chkE at h
    split at h
    · simp only [Bool.and_eq_true, Bool.not_eq_true'] at h
      unfold evE
      exact .plain (pe_ixV (by have := C.units; omega) (sndE a sc _ h.1.1 X C).pe (sndE b sc _ h.1.2 X C).pe (plainIx_of h.2)) rfl rfl
    · cases h
  | .sli a lo hi => fun sc x h X C => by
    unfold chkE at h
    split at h
    · simp only [Bool.and_eq_true] at h
      unfold evE
      exact .plain (pe_sliV (sndE a sc _ h.1.1 X C).pe (sndO lo sc _ h.1.2 X C) (sndO hi sc _ h.2 X C)) rfl rfl
    · cases h
  | .call f es => fun sc x h X C => by
    unfold chkE at h
    split at h
    · rename_i y p args pos
      split at h
      · rename_i fn hf
        simp only [Bool.and_eq_true, Bool.not_eq_true', decide_eq_true_eq] at h
        obtain ⟨⟨⟨⟨h1, h2⟩, h3⟩, h4⟩, h5⟩ := h
        subst h2
        have g := sndEs es sc _ h5 X C
        obtain ⟨m1, m2⟩ := C.g.glo f fn hf h1
        have hl := fun ss r ss' e => (C.g.len f fn ss r ss' hf e).1
        unfold evE
        cases args with
        | nil =>
          have e := g.n.mpr rfl
          subst e
          have w := pe_call0V (ct := ct) (cf := cf f) (mt := mtOf P f) (p := p) (pos := pos) (C.g.fn f fn hf) C.rm C.gd (gl_of C.hsc h3) m1 m2 (C.g.bn f fn hf) hl h4
          exact .plain w rfl rfl
        | cons a args =>
          have hs := g.s
          simp only [List.all_cons, Bool.and_eq_true, Bool.not_eq_true'] at hs
          exact .plain (pe_callV (C.g.fn f fn hf) C.rm C.gd (gl_of C.hsc h3) m1 m2 (C.g.bn f fn hf) hl (g.a _) h4 hs.1 (by simpa using hs.2)) rfl rfl
      · cases h
    · cases h
  | .callK f perm es => fun sc x h X C => by
    unfold chkE at h
    split at h
    · split at h
      · rename_i fn hf
        simp only [Bool.and_eq_true, Bool.not_eq_true', decide_eq_true_eq] at h
        obtain ⟨⟨⟨⟨⟨⟨h1, h2⟩, h3⟩, h4⟩, h5⟩, h6⟩, h7⟩ := h
        subst h2
        obtain ⟨g1, g2⟩ := sndK es sc _ h5 X C
        obtain ⟨m1, m2⟩ := C.g.glo f fn hf h1
        unfold evE
        exact .plain (pe_callKV (C.g.fn f fn hf) C.rm C.gd (gl_of C.hsc h3) m1 m2 (C.g.kw f _ _ _ fn h7 hf) (fun ss r ss' e => (C.g.len f fn ss r ss' hf e).1) g1 h4 h6 (fun env ds env' e => by rw [kwNames_len h6]; exact g2 env ds env' e)) rfl rfl
      · cases h
    · cases h
  | .make c es => fun sc x h X C => by
    unfold chkE at h
    split at h
    · split at h
      · rename_i cl hc
        simp only [Bool.and_eq_true, Bool.not_eq_true', decide_eq_true_eq] at h
        obtain ⟨⟨⟨⟨h1, h2⟩, h3⟩, h4⟩, h5⟩ := h
        subst h1
        have g := sndEs es sc _ h5 X C
        obtain ⟨m1, m2⟩ := C.g.cl c cl hc
        obtain ⟨fn, hf⟩ := fn_at h2
        have hi : initOf P c = cl.init := by unfold initOf; rw [hc]
        unfold evE
        rw [hi]
        have hs := g.s
        simp only [List.all_cons, Bool.and_eq_true, Bool.not_eq_true'] at hs
        exact .plain (pe_makeV m2 (C.g.fn _ fn hf) C.rm1 C.gd (gl_of C.hsc h3) m1 (C.g.bn _ fn hf) (fun ss r ss' e => (C.g.len _ fn ss r ss' hf e).1) (fun ss r ss' e => (C.g.len _ fn ss r ss' hf e).2) g.v h4 hs.1 (by simpa using hs.2)) rfl rfl
      · cases h
    · cases h
  | .makeK c perm es => fun sc x h X C => by
    unfold chkE at h
    split at h
    · split at h
      · rename_i cl hc
        simp only [Bool.and_eq_true, Bool.not_eq_true', decide_eq_true_eq] at h
        obtain ⟨⟨⟨⟨⟨⟨h1, h2⟩, h3⟩, h4⟩, h5⟩, h6⟩, h7⟩ := h
        subst h1
        obtain ⟨g1, g2⟩ := sndK es sc _ h5 X C
        obtain ⟨m1, m2⟩ := C.g.cl c cl hc
        obtain ⟨fn, hf⟩ := fn_at h2
        have hi : initOf P c = cl.init := by unfold initOf; rw [hc]
        unfold evE
        rw [hi]
        exact .plain (pe_makeKV m2 (C.g.fn _ fn hf) C.rm1 C.gd (gl_of C.hsc h3) m1 (C.g.kw _ _ _ _ fn h7 hf) (fun ss r ss' e => (C.g.len _ fn ss r ss' hf e).1) (fun ss r ss' e => (C.g.len _ fn ss r ss' hf e).2) g1 h4 h6 (fun env ds env' e => by rw [kwNames_len h6]; exact g2 env ds env' e)) rfl rfl
      · cases h
    · cases h
  | .mcall c m f o es => fun sc x h X C => by
    unfold chkE at h
    split at h
    · rename_i y mm apos args pos
      split at h
      · rename_i cl hc
        simp only [Bool.and_eq_true, Bool.not_eq_true', decide_eq_true_eq] at h
        obtain ⟨⟨⟨⟨⟨⟨⟨h1, h2⟩, h3⟩, h4⟩, h5⟩, h6⟩, h7⟩, h8⟩ := h
        subst h1
        have g := sndEs es sc _ h8 X C
        obtain ⟨fn, hf⟩ := fn_at h3
        have go := (sndE o sc _ h7 X C).pe.vfrz
        have hl := fun ss r ss' e => (C.g.len f fn ss r ss' hf e).1
        unfold evE
        cases args with
        | nil =>
          have e := g.n.mpr rfl
          subst e
          exact .plain (pe_meth0V go (C.g.ok c) (C.g.mt c cl hc _ f h2) (C.g.fn f fn hf) C.rm C.gd (C.g.bn f fn hf) hl h4 h5) rfl rfl
        | cons a args => exact .plain (pe_methV go (C.g.ok c) (C.g.mt c cl hc _ f h2) (C.g.fn f fn hf) C.rm C.gd (C.g.bn f fn hf) hl (g.a _) g.s h6 h4 h5) rfl rfl
      · cases h
    · cases h
  | .mcallL c m f i es => fun sc x h X C => by
    unfold chkE at h
    split at h
    · rename_i y py mm apos args pos
      split at h
      · rename_i cl hc
        simp only [Bool.and_eq_true, Bool.not_eq_true', decide_eq_true_eq] at h
        obtain ⟨⟨⟨⟨⟨⟨⟨h1, h2⟩, h3⟩, h5⟩, h6⟩, h7⟩, h7'⟩, h8⟩ := h
        subst h1
        have g := sndEs es sc _ h8 X C
        obtain ⟨fn, hf⟩ := fn_at h3
        have go : PE X (.Name y py) (tV X.K ct (varM i)) := C.var h7 h7'
        have hl := fun ss r ss' e => (C.g.len f fn ss r ss' hf e).1
        unfold evE
        cases args with
        | nil =>
          have e := g.n.mpr rfl
          subst e
          exact .plain (pe_meth0V go (C.g.ok c) (C.g.mt c cl hc _ f h2) (C.g.fn f fn hf) C.rm C.gd (C.g.bn f fn hf) hl rfl h5) rfl rfl
        | cons a args => exact .plain (pe_methV go (C.g.ok c) (C.g.mt c cl hc _ f h2) (C.g.fn f fn hf) C.rm C.gd (C.g.bn f fn hf) hl (g.a _) g.s h6 rfl h5) rfl rfl
      · cases h
    · cases h
  | .mcallK c m f perm o es => fun sc x h X C => by
    unfold chkE at h
    split at h
    · split at h
      · rename_i cl hc
        simp only [Bool.and_eq_true, Bool.not_eq_true', decide_eq_true_eq] at h
        obtain ⟨⟨⟨⟨⟨⟨⟨⟨⟨h1, h2⟩, h3⟩, h4⟩, h5⟩, h6⟩, h7⟩, h8⟩, h9⟩, h10⟩ := h
        subst h1
        obtain ⟨g1, g2⟩ := sndK es sc _ h8 X C
        obtain ⟨fn, hf⟩ := fn_at h3
        unfold evE
        exact .plain (pe_methKV (sndE o sc _ h7 X C).pe.vfrz (C.g.ok c) (C.g.mt c cl hc _ f h2) (C.g.fn f fn hf) C.rm C.gd (C.g.kw _ _ _ _ fn h10 hf) (fun ss r ss' e => (C.g.len _ fn ss r ss' hf e).1) g1 h9 (fun env ds env' e => by rw [kwNames_len h9]; exact g2 env ds env' e) h6 h4 h5) rfl rfl
      · cases h
    · cases h
  | .bi b es => fun sc x h X C => by
    unfold chkE at h
    split at h
    · simp only [Bool.and_eq_true, decide_eq_true_eq] at h
      obtain ⟨⟨⟨⟨h1, h2⟩, h3⟩, h4⟩, h5⟩ := h
      have g := sndEs es sc _ h5 X C
      have hs := g.s
      simp only [List.all_cons, Bool.and_eq_true, Bool.not_eq_true'] at hs
      unfold evE
      exact .plain (pe_biV C h1 h2 h3 h4 g.p hs.1 (by simpa using hs.2)) rfl rfl
    · cases h
  | .isi b e => fun sc x h X C => by
    unfold chkE at h
    split at h
    · simp only [Bool.and_eq_true, Bool.not_eq_true', decide_eq_true_eq] at h
      obtain ⟨⟨⟨⟨⟨h1, h2⟩, h3⟩, h4⟩, h5⟩, h6⟩ := h
      subst h1
      unfold evE
      exact .plain (pe_isiV C.g.kit (gl_of C.hsc h3) (C.g.free _ h2) (sndE e sc _ h4 X C).pe (C.isi h6) h5 rfl) rfl rfl
    · cases h
  | .isT a => fun sc x h X C => by
    unfold chkE at h
    split at h
    · unfold evE
      exact ⟨pe_isTV (sndE a sc _ h X C).pe, fun _ => pt_isTV (sndE a sc _ h X C).pe, fun q => nomatch q⟩
    · cases h
  | .notT a => fun sc x h X C => by
    unfold chkE at h
    split at h
    · unfold evE
      exact ⟨pe_notTV (sndE a sc _ h X C).pe, fun _ => pt_notTV (sndE a sc _ h X C).pe, fun q => nomatch q⟩
    · cases h
  | .dz a b => fun sc x h X C => by
    unfold chkE at h
    split at h
    · simp only [Bool.and_eq_true, Bool.not_eq_true', decide_eq_true_eq] at h
      obtain ⟨⟨⟨⟨⟨⟨⟨⟨⟨h1, h2⟩, h3⟩, h4⟩, h5⟩, h6⟩, h7⟩, h8⟩, h9⟩, h10⟩ := h
      subst h1 h2
      unfold evE
      exact .plain (pe_dzV C.calm (gl_of C.hsc h5) (C.g.free _ h3) (gl_of C.hsc h6) (C.g.free _ h4) (sndE a sc _ h7 X C).pe (sndE b sc _ h8 X C).pe h9 h10) rfl rfl
    · cases h
  | .dc vs t it c kk e => fun sc x h X C => by
    have h0 := h
    unfold chkE at h
    split at h
    · obtain ⟨L, Lk⟩ := dc_parts (sndI it) (sndC c) (sndE kk) (sndE e) h0 C
      unfold evE
      have w := pe_dcV (pos := by assumption) L.hb C.calm (by rw [C.hN]; exact C.nd) L.hi L.ok L.hg L.ht Lk L.he L.hs L.hv
      rw [own_ix] at w
      exact .plain w rfl rfl
    · cases h
  | .bm m o es => fun sc x h X C => by
    unfold chkE at h
    split at h
    · simp only [Bool.and_eq_true, Bool.not_eq_true', decide_eq_true_eq] at h
      obtain ⟨⟨⟨⟨h1, h2⟩, h3⟩, h4⟩, h5⟩ := h
      have g := sndEs es sc _ h5 X C
      have hs := g.s
      simp only [List.all_cons, Bool.and_eq_true, Bool.not_eq_true'] at hs
      unfold evE
      exact .plain (pe_bmV h1 (sndE o sc _ h4 X C).pe g.p hs.1 h2 h3) rfl rfl
    · cases h
  | .bx m i e => fun sc x h X C => by
    unfold chkE at h
    split at h
    · rename_i y py mm apos a pos
      simp only [Bool.and_eq_true, Bool.not_eq_true', decide_eq_true_eq] at h
      obtain ⟨⟨⟨⟨⟨h1, h2⟩, h3⟩, h4⟩, h5⟩, h6⟩ := h
      have hv : PE X (.Name y py) (tV X.K ct (varM i)) := C.var h3 h4
      have g := (sndE e sc _ h5 X C).pe
      subst h1
      unfold evE
      cases m with
      | append => exact .plain (pe_appendV hv g h6 h2) rfl rfl
      | popAt => exact .plain (pe_popV hv g h6 h2) rfl rfl
      | extend => exact .plain (pe_extendV hv g h6 h2) rfl rfl
    · cases h
  | .fld o f => fun sc x h X C => by
    unfold chkE at h
    split at h
    · simp only [Bool.and_eq_true, Bool.not_eq_true', decide_eq_true_eq] at h
      obtain ⟨⟨⟨h1, h2⟩, h3⟩, h4⟩ := h
      subst h1
      unfold evE
      exact .plain (pe_fldV C.g.ok (fun c => C.g.na c _ h2) (sndE o sc _ h4 X C).pe h3) rfl rfl
    · cases h
  | .lc vs t it c e => fun sc x h X C => by
    have h0 := h
    unfold chkE at h
    split at h
    · have L := lc_parts (sndI it) (sndC c) (sndE e) h0 C
      unfold evE
      have w := pe_lcV (pos := by assumption) L.hb C.calm (by rw [C.hN]; exact C.nd) L.hi L.ok L.hg L.ht L.he L.hs L.hv
      rw [own_ix] at w
      exact .plain w rfl rfl
    · cases h
  | .lc2 _ _ _ _ _ _ _ _ _ => fun sc x h X C => by unfold chkE at h; cases h
theorem sndEs : ∀ es : Es, GoodEs P N ct fa fd cf k es
  | .nil => fun sc l h X C => by
    unfold chkEs at h
    split at h
    · exact ⟨pa_nilV, pa_nilR, fun _ => pa_nilB, pa_nilB, rfl, ⟨fun _ => rfl, fun _ => rfl⟩⟩
    · cases h
  | .cons e es => fun sc l h X C => by
    unfold chkEs at h
    split at h
    · simp only [Bool.and_eq_true, Bool.not_eq_true'] at h
      obtain ⟨⟨h1, h2⟩, h3⟩ := h
      have ge := (sndE e sc _ h1 X C).pe
      have g := sndEs es sc _ h3 X C
      refine ⟨?_, ?_, fun mt => ?_, ?_, ?_, ⟨(fun q => nomatch q), (fun q => nomatch q)⟩⟩
      · unfold evV; exact pa_consV ge g.v (star_of h2)
      · unfold evPs; exact pa_consP ge g.p (star_of h2)
      · unfold evA
        split
        · exact pa_consB ge.vlend (g.a _) h2
        · exact pa_consB ge.vfrz (g.a _) h2
        · exact pa_consB ge.vfrz (g.a _) h2
      · unfold evR; exact pa_consB ge.vkeep g.r h2
      · rw [List.all_cons, h2, g.s]; rfl
    · cases h
theorem sndK : ∀ es : Es, GoodK P N ct fa fd cf k es
  | .nil => fun sc l h X C => by
    unfold chkK at h
    split at h
    · refine ⟨pk_nilV, fun env ds env' e => ?_⟩
      unfold evV nilD at e
      cases e; rfl
    · cases h
  | .cons e es => fun sc l h X C => by
    unfold chkK at h
    split at h
    · rename_i kw kws
      obtain ⟨nm, kv, kp⟩ := kw
      simp only [Bool.and_eq_true] at h
      have ge := (sndE e sc _ h.1 X C).pe
      obtain ⟨g1, g2⟩ := sndK es sc _ h.2 X C
      refine ⟨?_, fun env ds env' e => ?_⟩
      · unfold evV; exact pk_consV ge g1
      · unfold evV consV at e
        split at e
        · split at e
          · split at e
            · rename_i q
              cases e
              exact congrArg (· + 1) (g2 _ _ _ q)
            · cases e
          · cases e
        · cases e
    · cases h
theorem sndO : ∀ e : Eo, GoodO P N ct fa fd cf k e
  | .no => fun sc l h X C => by
    unfold chkO at h
    split at h
    · exact po_noneV
    · cases h
  | .so e => fun sc l h X C => by
    unfold chkO at h
    split at h
    · unfold evO; exact po_someV (sndE e sc _ h X C).pe
    · cases h
theorem sndC : ∀ e : Eo, GoodC P N ct fa fd cf k e
  | .no => fun sc l h X C => by
    unfold chkC at h
    split at h
    · exact pts_noV
    · cases h
  | .so e => fun sc l h X C => by
    unfold chkC at h
    split at h
    · simp only [Bool.and_eq_true] at h
      unfold evC; exact pts_soV ((sndE e sc _ h.1 X C).pt h.2)
    · cases h
theorem sndI : ∀ e : It, GoodI P N ct fa fd cf k e
  | .seq e => fun sc tg x h X C => by
    unfold chkI at h
    unfold evI
    exact pi_seqV (sndE e sc _ h X C).pe
  | .rng1 e => fun sc tg x h X C => by
    unfold chkI at h
    split at h
    · simp only [Bool.and_eq_true, Bool.not_eq_true', decide_eq_true_eq] at h
      obtain ⟨⟨⟨⟨h1, h2⟩, h3⟩, h4⟩, h5⟩ := h
      subst h1
      unfold evI
      exact pi_rng1V (gl_of C.hsc h3) (C.g.free _ h2) (sndE e sc _ h4 X C).pe h5
    · cases h
  | .rng2 a b => fun sc tg x h X C => by
    unfold chkI at h
    split at h
    · simp only [Bool.and_eq_true, Bool.not_eq_true', decide_eq_true_eq] at h
      obtain ⟨⟨⟨⟨⟨⟨h1, h2⟩, h3⟩, h4⟩, h5⟩, h6⟩, h7⟩ := h
      subst h1
      unfold evI
      exact pi_rng2V (gl_of C.hsc h3) (C.g.free _ h2) (sndE a sc _ h4 X C).pe (sndE b sc _ h6 X C).pe h5 h7
    · cases h
  | .enm e => fun sc tg x h X C => by
    unfold chkI at h
    split at h
    · split at h
      · simp only [Bool.and_eq_true, Bool.not_eq_true', decide_eq_true_eq] at h
        obtain ⟨⟨⟨⟨h1, h2⟩, h3⟩, h4⟩, h5⟩ := h
        subst h1
        unfold evI
        exact pi_enmV (gl_of C.hsc h3) (C.g.free _ h2) (sndE e sc _ h4 X C).pe h5
      · cases h
    · cases h
  | .zip2 a b => fun sc tg x h X C => by
    unfold chkI at h
    split at h
    · split at h
      · simp only [Bool.and_eq_true, Bool.not_eq_true', decide_eq_true_eq] at h
        obtain ⟨⟨⟨⟨⟨⟨h1, h2⟩, h3⟩, h4⟩, h5⟩, h6⟩, h7⟩ := h
        subst h1
        unfold evI
        exact pi_zipV (gl_of C.hsc h3) (C.g.free _ h2) (sndE a sc _ h4 X C).pe (sndE b sc _ h5 X C).pe h6 h7
      · cases h
    · cases h
  | .zip3 _ _ _ => fun sc tg x h X C => by unfold chkI at h; cases h
end
end
end VI
namespace VI
open PySem L2
section
variable (P : Pg) (N : List Str) (sc : Scope)
/-- a value that goes to a name -/
def asgOk (e : E) (v : Expr) : Bool := match e, v with
  | .lc _ _ _ _ _, .ListComp _ _ _ _ => true
  | _, v => !isComp v
def swapNo (ts : List Expr) (v : Expr) : Bool := match v with
  | .Tuple vs _ _ => decide (swapO sc ts vs = some none)
  | _ => true
def namesOk : List Nat → List Str → Bool
  | [], [] => true
  | i :: is, x :: xs => decide (N[i]? = some x) && isLocB sc x && namesOk is xs
  | _, _ => false
def chkT : Ts → List Expr → Bool
  | .nil => fun l => match l with
    | [] => true
    | _ => false
  | .nm i ts => fun l => match l with
    | .Name y _ :: l => nmB N i y && locB sc y && chkT ts l
    | _ => false
  | .ix i e ts => fun l => match l with
    | .Subscript (.Name y _) ie _ :: l => nmB N i y && visB sc y && chkE P N e sc ie && !isSlice ie && chkT ts l
    | _ => false
def tsLen : Ts → Nat
  | .nil => 0
  | .nm _ ts => tsLen ts + 1
  | .ix _ _ ts => tsLen ts + 1
mutual
def chkS : S → Stmt → Bool
  | .asg t e => fun s => match s with
    | .Assign [.Name y p] v _ => (match t with
      | .nm i => nmB N i y && locB sc y && chkE P N e sc v && asgOk e v
      | .tu _ => false)
    | .Assign [.Tuple ts k p] v _ => (match t with
      | .tu is => tgB N sc is ts && chkE P N e sc v && !isComp v && swapNo sc ts v
      | .nm _ => false)
    | _ => false
  | .par is es => fun s => match s with
    | .Assign [.Tuple ts _ _] (.Tuple vs _ _) _ => (match swapO sc ts vs with
      | some (some xs) => namesOk N sc is xs && decide is.Nodup && decide (0 < is.length) && decide (is.length < 10) && chkEs P N es sc vs
      | some none => tgB N sc is ts && decide (is.length < 10) && chkEs P N es sc vs
      | none => false)
    | _ => false
  | .setIx i ix e => fun s => match s with
    | .Assign [.Subscript (.Name y _) ie _] v _ => nmB N i y && visB sc y && chkE P N ix sc ie && !isSlice ie && chkE P N e sc v && !isComp v
    | _ => false
  | .asgT ts e => fun s => match s with
    | .Assign [.Tuple l _ _] v _ => chkT P N sc ts l && chkE P N e sc v && !isComp v && swapNo sc l v
    | _ => false
  | .setF i f e => fun s => match s with
    | .Assign [.Attribute (.Name y _) g _] v _ => nmB N i y && visB sc y && decide (g = f) && decide (f ∈ P.flds) && chkE P N e sc v && !isComp v
    | _ => false
  | .ex e => fun s => match s with
    | .Expr v _ => chkE P N e sc v && !isComp v
    | _ => false
  | .ret e => fun s => match s with
    | .Return (some v) _ => chkE P N e sc v
    | _ => false
  | .retN => fun s => match s with
    | .Return none _ => true
    | _ => false
  | .ite c a b => fun s => match s with
    | .If x l r _ => chkE P N c sc x && tstB x && chkSs a l && chkSs b r
    | _ => false
  | .for_ t it b => fun s => match s with
    | .For tg iter body [] _ => chkTg N sc t tg && (!itB it || isTu t) && chkI P N it sc tg iter && !isSetE iter && chkSs b body
    | _ => false
  | .whl c b => fun s => match s with
    | .While x body [] _ => chkE P N c sc x && tstB x && chkSs b body
    | _ => false
  | .pass => fun s => match s with
    | .Pass _ => true
    | .Expr (.Constant (.str _) _ _) _ => true
    | _ => false
  | .brk => fun s => match s with
    | .Break _ => true
    | _ => false
  | .cnt => fun s => match s with
    | .Continue _ => true
    | _ => false
  | .bad => fun _ => true
def chkSs : Ss → List Stmt → Bool
  | .nil => fun l => match l with
    | [] => true
    | _ => false
  | .cons s ss => fun l => match l with
    | x :: xs => chkS s x && chkSs ss xs
    | [] => false
end
end
section
variable {P : Pg} {N : List Str} {ct fa : Nat → Addr} {fd : Nat → FuncData} {cf : Nat → List Sl → Option (R × List Sl)} {k : Nat} {sc : Scope}
theorem swap_no {ts : List Expr} {v : Expr} {kt : Nat} {p : Pos} {env : Env} (hk : sc.kind = .function) (he : env.scope = sc) (h : swapNo sc ts v = true) : swappedStores [.Tuple ts kt p] v env = pure none := by
  unfold swapNo at h
  split at h
  · simp only [decide_eq_true_eq] at h
    exact swapped_eq (by rw [he]; exact hk) (by rw [he]; exact h)
  · rename_i hn
    refine swapped_no ?_
    cases v <;> first | rfl | exact (hn _ _ _ rfl).elim
theorem names_of : ∀ {is : List Nat} {xs : List Str}, namesOk N sc is xs = true → is.length = xs.length ∧ ∀ (j i : Nat) (x : Str), is[j]? = some i → xs[j]? = some x → N[i]? = some x ∧ sc.names.lookup x = some .local
  | [], [], _ => ⟨rfl, fun j i x e => by simp at e⟩
  | [], _ :: _, h => nomatch h
  | _ :: _, [], h => nomatch h
  | i :: is, x :: xs, h => by
    unfold namesOk at h
    simp only [Bool.and_eq_true, decide_eq_true_eq] at h
    obtain ⟨a1, a2⟩ := names_of h.2
    refine ⟨congrArg (· + 1) a1, fun j i' x' e1 e2 => ?_⟩
    cases j with
    | zero => simp at e1 e2; subst e1 e2; exact ⟨h.1.1, isLoc_of h.1.2⟩
    | succ j => exact a2 j i' x' (by simpa using e1) (by simpa using e2)
theorem exT_len : ∀ {ts : Ts} {ds : List D} {env env' : Env'}, exT P cf ts ds env = some env' → ds.length = tsLen ts
  | .nil, ds, env, env', h => by
    unfold exT tNilM at h
    cases ds with
    | nil => rfl
    | cons _ _ => cases h
  | .nm i ts, ds, env, env', h => by
    unfold exT tNmM at h
    cases ds with
    | nil => cases h
    | cons d ds =>
      simp only at h
      split at h
      · exact congrArg (· + 1) (exT_len h)
      · cases h
  | .ix i e ts, ds, env, env', h => by
    unfold exT tIxM at h
    cases ds with
    | nil => cases h
    | cons d ds =>
      simp only at h
      split at h
      · split at h
        · split at h
          · exact congrArg (· + 1) (exT_len h)
          · cases h
        · cases h
      · cases h
theorem sndT {X : Cx} (C : CtV P N ct fa fd cf k X sc) (St : Sto X sc) : ∀ {ts : Ts} {l : List Expr}, chkT P N sc ts l = true → PGs X l (gT X.K ct (exT P cf ts)) ∧ (assignEach l X.env).length = tsLen ts ∧ (assignEach l X.env).findIdx? (·.1) = none
  | .nil, l, h => by
    unfold chkT at h
    split at h
    · exact ⟨pgs_nilT, rfl, rfl⟩
    · cases h
  | .nm i ts, l, h => by
    unfold chkT at h
    split at h
    · rename_i y p l
      simp only [Bool.and_eq_true] at h
      obtain ⟨⟨h1, h2⟩, h3⟩ := h
      obtain ⟨a1, a2, a3⟩ := sndT C St h3
      obtain ⟨b1, b2⟩ := St y h2
      unfold exT
      refine ⟨pgs_nmT (pg_nmV (by rw [C.hN]; exact C.nd) (by rw [C.hN]; exact (nm_of h1).1) b1 b2) a1 rfl, congrArg (· + 1) a2, ?_⟩
      show List.findIdx? _ ((false, _) :: assignEach l X.env) = none
      rw [List.findIdx?_cons, a3]; rfl
    · cases h
  | .ix i e ts, l, h => by
    unfold chkT at h
    split at h
    · rename_i y p ie p' l
      simp only [Bool.and_eq_true, Bool.not_eq_true'] at h
      obtain ⟨⟨⟨⟨h1, h2⟩, h3⟩, h4⟩, h5⟩ := h
      obtain ⟨a1, a2, a3⟩ := sndT C St h5
      unfold exT
      refine ⟨pgs_ixT (C.var h1 h2) (sndE e sc _ h3 X C).pe h4 a1 rfl, congrArg (· + 1) a2, ?_⟩
      show List.findIdx? _ ((false, _) :: assignEach l X.env) = none
      rw [List.findIdx?_cons, a3]; rfl
    · cases h
def GoodS (P : Pg) (N : List Str) (ct fa : Nat → Addr) (fd : Nat → FuncData) (cf : Nat → List Sl → Option (R × List Sl)) (k : Nat) (sc : Scope) (s : S) : Prop :=
  ∀ st, chkS P N sc s st = true → ∀ X, CtV P N ct fa fd cf k X sc → Sto X sc → PassesOwn (model X.prog X.w) X.A X.env X.xe → PS X st (tS X.K ct (exS P cf s))
def GoodSs (P : Pg) (N : List Str) (ct fa : Nat → Addr) (fd : Nat → FuncData) (cf : Nat → List Sl → Option (R × List Sl)) (k : Nat) (sc : Scope) (s : Ss) : Prop :=
  ∀ st, chkSs P N sc s st = true → ∀ X, CtV P N ct fa fd cf k X sc → Sto X sc → PassesOwn (model X.prog X.w) X.A X.env X.xe → PSs X st (tS X.K ct (exSs P cf s))
theorem asg_snd {X : Cx} {i : Nat} {e : E} {v : Expr} {y : Str} {p pos : Pos} (C : CtV P N ct fa fd cf k X sc) (St : Sto X sc) (h1 : nmB N i y = true) (h2 : locB sc y = true) (h3 : chkE P N e sc v = true) (h4 : asgOk e v = true) :
    PS X (.Assign [.Name y p] v pos) (tS X.K ct (asgM i (evE P cf e))) := by
  obtain ⟨b1, b2⟩ := St y h2
  have nd : X.N.Nodup := by rw [C.hN]; exact C.nd
  have hi : X.N[i]? = some y := by rw [C.hN]; exact (nm_of h1).1
  have ge := (sndE e sc _ h3 X C).pe
  cases hc : isComp v with
  | false => exact ps_asgV nd hi b1 b2 ge (swaps_of hc)
  | true =>
    unfold asgOk at h4
    split at h4
    · rename_i vs t it c e' elt gens scope lp
      cases q : ((X.env.scope.names.lookup y == some .local) && p.line == lp.line && !(scope.names.any fun (n, k) => n == y && (k == .local || k == .cell))) with
      | false => exact ps_asgV nd hi b1 b2 ge (swaps_lc (by rw [C.hsc]; exact C.kind) q)
      | true =>
        simp only [Bool.and_eq_true, Bool.not_eq_true'] at q
        have hloc : X.env.scope.names.lookup y = some .local := by
          have := q.1.1
          cases hh : X.env.scope.names.lookup y with
          | none => rw [hh] at this; cases this
          | some kd => rw [hh] at this; cases kd <;> first | rfl | cases this
        have h0 := h3
        unfold chkE at h3
        split at h3
        · rename_i heq
          cases heq
          have L := lc_parts (sndI it) (sndC c) (sndE e') h0 C
          unfold evE
          have w := ps_lcV (pos := lp) (spos := pos) (py := p) L.hb C.calm nd hi hloc (by rw [C.hsc]; exact C.kind) q.1.2 q.2 L.hi L.ok L.hg L.ht L.he L.hs L.hv
          rw [own_ix] at w
          exact w
        · cases h3
    · rw [hc] at h4; cases h4
mutual
theorem sndS : ∀ s : S, GoodS P N ct fa fd cf k sc s
  | .asg t e => fun st h X C St hp => by
    unfold chkS at h
    split at h
    · split at h
      · simp only [Bool.and_eq_true] at h
        unfold exS
        exact asg_snd C St h.1.1.1 h.1.1.2 h.1.2 h.2
      · cases h
    · split at h
      · simp only [Bool.and_eq_true, Bool.not_eq_true'] at h
        obtain ⟨⟨⟨h1, h2⟩, h3⟩, h4⟩ := h
        obtain ⟨a1, a2, a3⟩ := pgs_ofB (ct := ct) C.hN C.nd St h1
        unfold exS
        exact ps_tuV (sndE e sc _ h2 X C).pe (pg_tuV C.calm a1 a2 a3) h3 (swap_no C.kind C.hsc h4)
      · cases h
    · cases h
  | .par is es => fun st h X C St hp => by
    unfold chkS at h
    split at h
    · split at h
      · rename_i xs hx
        simp only [Bool.and_eq_true, decide_eq_true_eq] at h
        obtain ⟨⟨⟨⟨h1, h2⟩, h3⟩, h4⟩, h5⟩ := h
        obtain ⟨a1, a2⟩ := names_of h1
        unfold exS
        refine ps_parV C.calm (by rw [C.hN]; exact C.nd) h2 a1 (Nat.le_trans (Nat.le_of_lt h4) (by decide)) (fun e => by rw [e] at h3; cases h3) (fun j i x e1 e2 => ?_) (sndEs es sc _ h5 X C).r (swapped_eq (by rw [C.hsc]; exact C.kind) (by rw [C.hsc]; exact hx))
        rw [C.hN, C.hsc]; exact a2 j i x e1 e2
      · rename_i hx
        simp only [Bool.and_eq_true, decide_eq_true_eq] at h
        obtain ⟨⟨h1, h4⟩, h5⟩ := h
        obtain ⟨a1, a2, a3⟩ := pgs_setB C.hN C.nd St h1
        unfold exS
        exact ps_parT C.calm (Nat.le_trans (Nat.le_of_lt h4) (by decide)) a1 a2 a3 (sndEs es sc _ h5 X C).r (swapped_eq (by rw [C.hsc]; exact C.kind) (by rw [C.hsc]; exact hx))
      · cases h
    · cases h
  | .setIx i ix e => fun st h X C St hp => by
    unfold chkS at h
    split at h
    · simp only [Bool.and_eq_true, Bool.not_eq_true'] at h
      obtain ⟨⟨⟨⟨⟨h1, h2⟩, h3⟩, h4⟩, h5⟩, h6⟩ := h
      unfold exS
      exact ps_setIxV (C.var h1 h2) (sndE ix sc _ h3 X C).pe (sndE e sc _ h5 X C).pe h4 h6
    · cases h
  | .asgT ts e => fun st h X C St hp => by
    unfold chkS at h
    split at h
    · simp only [Bool.and_eq_true, Bool.not_eq_true'] at h
      obtain ⟨⟨⟨h1, h2⟩, h3⟩, h4⟩ := h
      obtain ⟨a1, a2, a3⟩ := sndT C St h1
      unfold exS
      exact ps_asgTV C.calm (sndE e sc _ h2 X C).pe a1 a2 a3 (fun ds env env' q => exT_len q) h3 (swap_no C.kind C.hsc h4)
    · cases h
  | .setF i f e => fun st h X C St hp => by
    unfold chkS at h
    split at h
    · simp only [Bool.and_eq_true, Bool.not_eq_true', decide_eq_true_eq] at h
      obtain ⟨⟨⟨⟨⟨h1, h2⟩, h3⟩, h4⟩, h5⟩, h6⟩ := h
      subst h3
      unfold exS
      exact ps_setFV C.g.ok (fun c => C.g.na c _ h4) (C.var h1 h2) (sndE e sc _ h5 X C).pe h6
    · cases h
  | .ex e => fun st h X C St hp => by
    unfold chkS at h
    split at h
    · simp only [Bool.and_eq_true, Bool.not_eq_true'] at h
      unfold exS
      exact ps_exV (sndE e sc _ h.1 X C).pe h.2
    · cases h
  | .ret e => fun st h X C St hp => by
    unfold chkS at h
    split at h
    · unfold exS
      exact ps_retV (sndE e sc _ h X C).pe
    · cases h
  | .retN => fun st h X C St hp => by
    unfold chkS at h
    split at h
    · exact ps_retNV
    · cases h
  | .ite c a b => fun st h X C St hp => by
    unfold chkS at h
    split at h
    · simp only [Bool.and_eq_true] at h
      obtain ⟨⟨⟨h1, h2⟩, h3⟩, h4⟩ := h
      unfold exS
      exact ps_iteV ((sndE c sc _ h1 X C).pt h2) (sndSs a _ h3 X C St hp) (sndSs b _ h4 X C St hp)
    · cases h
  | .for_ t it b => fun st h X C St hp => by
    unfold chkS at h
    split at h
    · simp only [Bool.and_eq_true, Bool.not_eq_true'] at h
      obtain ⟨⟨⟨⟨h1, h0⟩, h2⟩, h3⟩, h4⟩ := h
      unfold exS
      exact ps_forV (fun q => by rw [q] at h0; simpa using h0) hp C.calm (sndI it sc _ _ h2 X C) (pg_ofB C.hN C.nd C.calm St h1) (sndSs b _ h4 X C St hp) h3
    · cases h
  | .whl c b => fun st h X C St hp => by
    unfold chkS at h
    split at h
    · simp only [Bool.and_eq_true] at h
      unfold exS
      exact ps_whlV hp ((sndE c sc _ h.1.1 X C).pt h.1.2) (sndSs b _ h.2 X C St hp)
    · cases h
  | .pass => fun st h X C St hp => by
    unfold chkS at h
    split at h
    · exact ps_passV
    · exact ps_docV
    · cases h
  | .brk => fun st h X C St hp => by
    unfold chkS at h
    split at h
    · exact ps_brkV
    · cases h
  | .cnt => fun st h X C St hp => by
    unfold chkS at h
    split at h
    · exact ps_cntV
    · cases h
  | .bad => fun st h X C St hp => ps_badV
theorem sndSs : ∀ s : Ss, GoodSs P N ct fa fd cf k sc s
  | .nil => fun st h X C St hp => by
    unfold chkSs at h
    split at h
    · exact pss_nilV
    · cases h
  | .cons s ss => fun st h X C St hp => by
    unfold chkSs at h
    split at h
    · simp only [Bool.and_eq_true] at h
      unfold exSs
      exact pss_consV (sndS s _ h.1 X C St hp) (sndSs ss _ h.2 X C St hp)
    · cases h
end
end
end VI
namespace VI
open PySem L2
/-- the text of a def against its small tree -/
def chkFn (P : Pg) (fn : Fn) (N : List Str) (st : Stmt) : Bool :=
  decide (N.length = fn.n) && decide (fn.ps.length ≤ fn.n) && (match (defScope st).kind with | .function => true | _ => false) && !(defScope st).isCoroutine && !(defScope st).isGenerator && decide N.Nodup && decide (N.take fn.ps.length = fn.ps) &&
    fn.ps.all (fun x => locB (defScope st) x) && (defScope st).names.all (fun y => match y.2 with | .free => false | _ => true) && chkSs P N (defScope st) fn.body (defBody st)
theorem chkFn_of {P : Pg} {fn : Fn} {N : List Str} {st : Stmt} (h : chkFn P fn N st = true) : N.length = fn.n ∧ fn.ps.length ≤ fn.n ∧ FnScope N fn.ps (defScope st) ∧ chkSs P N (defScope st) fn.body (defBody st) = true := by
  unfold chkFn at h
  simp only [Bool.and_eq_true, decide_eq_true_eq, Bool.not_eq_true', List.all_eq_true] at h
  obtain ⟨⟨⟨⟨⟨⟨⟨⟨⟨h1, h2⟩, h3⟩, h4⟩, h5⟩, h6⟩, h7⟩, h8⟩, h9⟩, h10⟩ := h
  refine ⟨h1, h2, ⟨?_, h4, h5, h6, h7, fun x hx => loc_of (h8 x hx), fun y hy e => ?_⟩, h10⟩
  · split at h3
    · assumption
    · cases h3
  · have := h9 y hy
    rw [e] at this
    cases this
/-- what the head tells of the module -/
structure PgOk (P : Pg) (ct fa : Nat → Addr) (fd : Nat → FuncData) (Nm : Nat → List Str) (stm : Nat → Stmt) (K : PySem.W.Frag) (mg : Str → Option Value) : Prop where
  fn : ∀ (f : Nat) (fn : Fn), P.fns[f]? = some fn → ∃ x qual, L2.Fun K x qual (stm f) (fa f) (fd f)
  chk : ∀ (f : Nat) (fn : Fn), P.fns[f]? = some fn → chkFn P fn (Nm f) (stm f) = true
  bn : ∀ (f : Nat) (fn : Fn), P.fns[f]? = some fn → Binds K (fd f) fn.ps []
  glo : ∀ (f : Nat) (fn : Fn), P.fns[f]? = some fn → fn.glo = true → mg fn.name = some (.ref (fa f)) ∧ PySem.W.keepIn K (.ref (fa f)) = true
  kw : ∀ (f : Nat) (ks : List Str) (n : Nat) (perm : List Nat) (fn : Fn), (f, ks, n, perm) ∈ P.kws → P.fns[f]? = some fn → KwB K (fd f) fn.ps ks n perm
  cl : ∀ (c : Nat) (cl : Cl), P.cls[c]? = some cl → mg cl.name = some (.ref (ct c)) ∧ Mk K (ct c) (fa cl.init)
  mt : ∀ (c : Nat) (cl : Cl), P.cls[c]? = some cl → ∀ (m : Str) (f : Nat), cl.meths.lookup m = some f → Meth K (ct c) m (fa f)
  ok : ∀ c, Cls K (ct c)
  na : ∀ c, ∀ f ∈ P.flds, NoAttr K (ct c) f
  cs : ∀ (x : Str) (c : Ct), P.cs.lookup x = some c → ∃ u, mg x = some u ∧ RelV c.v u
  free : ∀ x ∈ P.free, mg x = none
  kit : KitF K ct P.cls.length
theorem runN_len {P : Pg} : ∀ {L f : Nat} {fn : Fn} {ss : List Sl} {r : R} {ss' : List Sl}, P.fns[f]? = some fn → runN P L f ss = some (r, ss') → ss.length = fn.ps.length ∧ ss'.length = ss.length
  | 0, _, _, _, _, _, _, h => nomatch h
  | L + 1, f, fn, ss, r, ss', hf, h => by
    unfold runN at h
    rw [hf] at h
    simp only at h
    split at h
    · rename_i hl
      refine ⟨hl, ?_⟩
      have cl : ∀ n env, (cleanE n env).length = n := fun n env => by simp [cleanE]
      unfold endR at h
      split at h
      · cases h; rw [cl, hl]
      · cases h; rw [cl, hl]
      · cases h
    · cases h
section
variable {P : Pg} {ct fa : Nat → Addr} {fd : Nat → FuncData} {Nm : Nat → List Str} {stm : Nat → Stmt} {Pr : Program} {w : World} {K : PySem.W.Frag} {mg : Str → Option Value} {base : Heap}
theorem PgOk.gf (G : PgOk P ct fa fd Nm stm K mg) {cf : Nat → List Sl → Option (R × List Sl)} {k : Nat} (h : ∀ (f : Nat) (fn : Fn), P.fns[f]? = some fn → FnG Pr w K mg base k (fa f) (fd f) fn.ps (spF K ct (cf f) fn.ps.length))
    (hl : ∀ (f : Nat) (fn : Fn) ss r ss', P.fns[f]? = some fn → cf f ss = some (r, ss') → ss.length = fn.ps.length ∧ ss'.length = ss.length) : Gf P ct fa fd cf k Pr w K mg base :=
  ⟨h, G.bn, G.glo, G.kw, G.cl, G.mt, G.ok, G.na, G.cs, G.free, G.kit, hl⟩
theorem PgOk.level (G : PgOk P ct fa fd Nm stm K mg) : ∀ L, Gf P ct fa fd (runN P L) (4 * L) Pr w K mg base
  | 0 => G.gf (fun f fn hf => ⟨fun vs H Q w => w.1, fun A outer s H args us vs Q _ _ _ _ _ w => by
      obtain ⟨_, _, _, _, _, _, _, e, _⟩ := w
      cases e⟩) fun f fn ss r ss' hf e => nomatch e
  | L + 1 => by
    have ih := PgOk.level G L
    refine G.gf (fun f fn hf => ?_) fun f fn ss r ss' hf e => runN_len hf e
    obtain ⟨x, qual, F⟩ := G.fn f fn hf
    obtain ⟨h1, h2, S, h3⟩ := chkFn_of (G.chk f fn hf)
    obtain ⟨oc, od, kV, doc, pm, an, cdv, ctv, osl, e, lk, hcd⟩ := F.ex
    rw [e] at lk ⊢
    show FnG Pr w K mg base (4 * L + 3 + 1) _ _ _ _
    refine fn_ofG lk hcd S (fun vs H Q w => w.1) fun A outer s H vs Q hr hgd hsp => ?_
    refine ⟨tS K ct (exSs P (runN P L) fn.body), ?_, spF_body hf h1 h2 hsp⟩
    have C : CtV P (Nm f) ct fa fd (runN P L) (4 * L) (cxOf CX0 Pr w K mg base (Nm f) qual (defScope (stm f)) (fa f) cdv A outer s H E0).nox (defScope (stm f)) :=
      ⟨ih, rfl, S.nd, rfl, S.kind, rfl, hgd, hr⟩
    exact sndSs fn.body _ h3 _ C (fun x hx => ⟨loc_of hx, .inl rfl⟩) PassesOwn.never
end
end VI
namespace VI
open PySem L2
/-- the law's call, where its def keeps a promise without a repr under way -/
theorem law_callG {P : Program} {w : World} {K : PySem.W.Frag} {mg mb : Str → Option Value} {k : Nat} {fa a : Addr} {fd : FuncData} {x : Str} {sp : List V → Hp → VK → Prop} {s₁ : Shared} {vs : List Value} {ns : List Int}
    (KX : K.In s₁.heap) (hns : s₁.heap.Ns mainGlobals mg) (hb : s₁.heap.Ns builtinsNs mb) (hbb : ∀ x : Str, x ≠ "__name__" → mb x = bootBuiltins x) (hlim : s₁.heap.NoLimit) (hg : s₁.gens = #[])
    (ha : s₁.heap.get? a = some { cls := .type "list", data := .seq vs.toArray }) (hi : PyProof.Rows.IntsAre vs ns) (hl : ns.length ≤ sizeLine) (hr : Room k callerA)
    (F : ∀ base : Heap, K.In base → base.Ns mainGlobals mg → FnG P w K mg base k fa fd [x] sp) (hbind : ∀ (s : Shared) (u : Value), BindsTo s fd ⟨[u], []⟩ [(x, u)])
    (hsp : ∀ H : Hp, SqL K H a (ns.map V.int) → sp [.ref a] H (fun v _ => v = .bl true)) :
    codeAny (model P w) callerA (.call (.ref fa) ⟨[.ref a], []⟩) (fun r s' => r = .ok (.ret (.bool true)) ∧ OldK s₁.heap s'.heap ∧ s'.os = s₁.os ∧ PyProof.Rows.AllBare s'.gens) s₁ := by
  have rv := vals_ints hi
  have lenV := hi.length
  have core : ∀ H : Hp, Only H → SqL K H a (ns.map V.int) → HOk P w H s₁.heap → (∀ b, H b ≠ none → b = a) → (H a ≠ none → K.lookup a = none) →
      codeAny (model P w) callerA (.call (.ref fa) ⟨[.ref a], []⟩) (fun r s' => r = .ok (.ret (.bool true)) ∧ OldK s₁.heap s'.heap ∧ s'.os = s₁.os ∧ PyProof.Rows.AllBare s'.gens) s₁ := by
    intro H hO hS hok hA hK
    have base_of : ∀ {b : Addr} {o : Obj}, s₁.heap.get? b = some o → H b = none → (hidT s₁.heap H).get? b = some o := fun e n => hidT_get e n
    have noA : ∀ {b : Addr} {o : Obj} {es : Array DictEntry} {ep : Nat}, s₁.heap.get? b = some o → o.data = .dict es ep → H b = none := fun {b o es ep} e d => by
      cases q : H b with
      | none => rfl
      | some u =>
        have e' : b = a := hA b (by rw [q]; simp)
        subst e'
        rw [ha] at e; cases e
        have d' : Data.seq vs.toArray _ = Data.dict es ep := d
        cases d'
    have nsK : ∀ {b : Addr} {m : Str → Option Value}, s₁.heap.Ns b m → (hidT s₁.heap H).Ns b m := fun {b m} ⟨o, es, ep, e, d, r⟩ => ⟨o, es, ep, base_of e (noA e d), d, r⟩
    have hKb : K.In (hidT s₁.heap H) := fun b o e => base_of (KX b o e) (by
      cases q : H b with
      | none => rfl
      | some u =>
        have e' : b = a := hA b (by rw [q]; simp)
        subst e'
        rw [hK (by rw [q]; simp)] at e; cases e)
    have hM : Mod K mg (hidT s₁.heap H) := ⟨hKb, nsK hns, ⟨mb, nsK hb, hbb⟩, let ⟨mc, h1, h2⟩ := hlim; ⟨mc, nsK h1, h2⟩⟩
    have e0 : Env0 P w K mg (hidT s₁.heap H) callerA [] s₁ H := ⟨rfl, hM, fun b o e => of_hidT e, Nat.le_of_eq (hidT_size _ _), trivial, fun b hb => absurd (show b ∈ ([] : List Addr) from hb) (by simp), hok, .of_eq hg⟩
    refine codeAny_mono ((F _ hKb (nsK hns)).run callerA [] s₁ H ⟨[.ref a], []⟩ [.ref a] [.ref a] _ hr rfl e0 (hbind s₁ (.ref a)) (.cons rfl .nil) (hsp H hS)) fun r s' h => ?_
    cases r with
    | error e => exact False.elim h
    | ok fl =>
      cases fl with
      | next => exact False.elim h
      | brk => exact False.elim h
      | cont => exact False.elim h
      | ret u =>
        obtain ⟨v, H', os, bare, un, hok', r', q⟩ := h
        have q' : v = .bl true := q
        subst q'
        obtain rfl : u = Value.bool true := r'
        refine ⟨rfl, OldK.of_keep fun b o e => ?_, os, bare⟩
        cases q : H b with
        | none => exact un.keep b o e q (by intro z; exact absurd (show b ∈ ([] : List Addr) from z) (by simp)) (by simp)
        | some u =>
          rcases hO b with z | ⟨ob, xs, z⟩
          · rw [q] at z; cases z
          · have z2 := un.frzs b ob _ z
            obtain ⟨e1, _⟩ := hok b _ z
            obtain ⟨e2, _⟩ := hok' b _ z2
            rw [e] at e1; cases e1
            exact e2
  cases hk : K.lookup a with
  | some o =>
    have e := KX a o hk
    rw [ha] at e
    cases e
    refine core (fun _ => none) (fun _ => .inl rfl) (.inr ⟨_, vs.toArray, _, hk, rfl, rfl, rfl, by rw [List.size_toArray, lenV]; exact hl, by simpa using rv⟩) (fun b u z => by have z' : (none : Option HO) = some u := z; cases z') (fun b z => absurd rfl z) fun z => absurd rfl z
  | none =>
    refine core (fun b => if b = a then some (.frz { cls := .type "list", data := .seq vs.toArray } (.lst (ns.map V.int))) else none) (fun b => ?_) (.inl (.inr ⟨{ cls := .type "list", data := .seq vs.toArray }, if_pos rfl⟩)) (fun b u z => ?_) (fun b z => ?_) fun _ => hk
    · by_cases hb : b = a
      · exact .inr ⟨_, _, if_pos hb⟩
      · exact .inl (if_neg hb)
    · by_cases hb : b = a
      · have z' := (if_pos hb).symm.trans z
        cases z'
        subst hb
        exact ⟨ha, by rw [List.length_map]; exact hl, vs, _, rv, ha⟩
      · have z' := (if_neg hb).symm.trans z
        cases z'
    · by_cases hb : b = a
      · exact hb
      · exact absurd (if_neg hb) z
theorem law_sp {P : Pg} {K : PySem.W.Frag} {ct : Nat → Addr} {L f : Nat} {ns : List Int} {ss' : List Sl} {a : Addr} {H : Hp} (e : runN P L f [.va (.scr ns)] = some (.dt (.bl true), ss')) (hS : SqL K H a (ns.map V.int)) :
    spF K ct (runN P L f) 1 [.ref a] H (fun v _ => v = .bl true) := by
  refine ⟨rfl, H, [.va (.scr ns)], ⟨Ex.refl H, rfl, fun i d q => ?_, fun i b d q => ?_, fun i j b b' d d' c q1 q2 q3 q4 => ?_⟩, fun j d q => ?_, _, _, e, fun v F' H' _ rp => ?_⟩
  · cases i with
    | zero => simp at q; subst q; exact ⟨_, rfl, .scr hS⟩
    | succ i => simp at q
  · cases i with
    | zero => simp at q
    | succ i => simp at q
  · cases i with
    | zero => simp at q1
    | succ i => simp at q1
  · cases j with
    | zero => simp at q
    | succ j => simp at q
  · cases rp; rfl
/-- a law by its interpreter run -/
theorem walk_ofG {l : PySem.W.OpenLaw} {n L : Nat} {q : Program} {loose : List Str} {XP : (Str → Option Value) → Heap → Prop} {YP : World → Heap → Prop} {d : DefRec} {x : Str} {P : Pg} {f : Nat} {fn : Fn} {Nm : Nat → List Str} {stm : Nat → Stmt}
    (hn : l.most = some n) (hn2 : n ≤ sizeLine) (hdf : d.params.defaults = []) (hr : Room (4 * L) callerA) (hf : P.fns[f]? = some fn) (hps : fn.ps = [x])
    (F : ∀ (w : World) (mg : Str → Option Value) (fa0 : Addr) (h : Heap), YP w h → h.Ns mainGlobals mg → mg d.name = some (.ref fa0) →
      ∃ (K : PySem.W.Frag) (ct fa : Nat → Addr) (fd : Nat → FuncData), K.In h ∧ fa f = fa0 ∧ (∀ (s : Shared) (u : Value), BindsTo s (fd f) ⟨[u], []⟩ [(x, u)]) ∧ PgOk P ct fa fd Nm stm K mg)
    (run : ∀ ns : List Int, ns.length ≤ n → ∃ ss', runN P L f [.va (.scr ns)] = some (.dt (.bl true), ss')) :
    PySem.W.WalkO q loose XP YP l.row.toRowW d [] (fun f vs => PySem.call f vs) := by
  refine Att.attach_call hn hdf fun w s₀ s₁ mg mb fa0 o pm cd doc a vs ns G Y ho hd hcd hmg hobj hints hlen hg => ?_
  obtain ⟨K, ct, fa, fd, KX, e, hb, G0⟩ := F w mg fa0 _ Y G.T.g hmg
  subst e
  obtain ⟨ss', hrun⟩ := run ns hlen
  refine law_callG (sp := spF K ct (runN P L f) fn.ps.length) KX G.T.g G.T.b G.T.builtins G.T.nolimit hg hobj hints (Nat.le_trans hlen hn2) hr (fun base _ _ => ?_) hb fun H hS => ?_
  · have := (G0.level (Pr := l.prog) (w := w) (base := base) L).fn f fn hf
    rw [hps] at this ⊢
    exact this
  · rw [hps]
    exact law_sp hrun hS
end VI
/-! what the head's one run tells, as the facts of a module -/
namespace VI
open PySem L2 He
def hookE (n : Nat) (fn : List DefD) (ex : PySem.W.Frag → Bool) : PySem.W.Hook where
  α := AlD × Bool
  obs := fun s => (obsDG n [] fn s.heap.get?, ex (frG s.heap.get? (asD s.heap.get? n)))
  val := fun _ => (valD fn, true)
  says := fun _ h => ∃ K : PySem.W.Frag, K.In h ∧ SaysD [] fn K ∧ ex K = true
  of := fun _ _ e => ⟨_, frG_in, congrArg (fun z : AlD × Bool => z.1) e, congrArg (fun z : AlD × Bool => z.2) e⟩
  keeps := fun _ _ _ ⟨K, hK, c⟩ k => ⟨K, PySem.W.Frag.In.keeps hK k, c⟩
def obE (n : Nat) (fn : List DefD) (ex : PySem.W.Frag → Bool) (s : PySem.W.SharedT) : AlD × Bool :=
  (obsDG n [] fn (HandSHeadRun.getT s), ex (frG (HandSHeadRun.getT s) (asD (HandSHeadRun.getT s) n)))
theorem obE_eq {n : Nat} {fn : List DefD} {ex : PySem.W.Frag → Bool} (s : PySem.W.SharedT) : obE n fn ex s = (hookE n fn ex).obs s.abs := by
  have e : HandSHeadRun.getT s = s.abs.heap.get? := funext (HandSHeadRun.getT_eq s)
  unfold obE
  rw [e]
  rfl
def fdOf (K : PySem.W.Frag) (a : Addr) : FuncData := match K.lookup a with
  | some ⟨_, _, .func fd, _⟩ => fd
  | _ => PySem.W.fnOf "" "" ⟨[], [], none, [], [], none, []⟩ [] ⟨.function, [], false, false, []⟩ .none .none .none .none none .none .none
section
variable (P : Pg) (loc : List (Str × Option Str))
def faK (K : PySem.W.Frag) (f : Nat) : Addr := fAd K (loc.getD f ("", none))
def clN (c : Nat) : Str := match P.cls[c]? with
  | some cl => cl.name
  | none => match P.cls[0]? with
    | some cl => cl.name
    | none => ""
def ctK (K : PySem.W.Frag) (c : Nat) : Addr := ga K (clN P c)
def gloB (K : PySem.W.Frag) : Bool := (List.range P.fns.length).all fun f => match P.fns[f]? with
  | some fn => !fn.glo || (eqO (PySem.W.nsIn K mainGlobals fn.name) (some (some (.ref (faK loc K f)))) && PySem.W.keepIn K (.ref (faK loc K f)))
  | none => true
def clsB (K : PySem.W.Frag) (c : Nat) : Bool :=
  PySem.W.plainGet K (ctK P K c) Str.empty && (PySem.W.hasDictIn K (ctK P K c) && (PySem.W.plainOver K (ctK P K c) && (eqO (PySem.W.findIn K (.ref (ctK P K c)) "__setattr__") (some (some (.builtin "object.__setattr__"))) && P.flds.all fun f => eqO (PySem.W.findIn K (.ref (ctK P K c)) f) (some none))))
def clB (K : PySem.W.Frag) : Bool := (List.range P.cls.length).all fun c => clsB P K c && (match P.cls[c]? with
  | some cl => eqO (PySem.W.nsIn K mainGlobals cl.name) (some (some (.ref (ctK P K c)))) && (PySem.W.makesIn K (ctK P K c) && (eqO (PySem.W.findIn K (.ref (ctK P K c)) "__init__") (some (some (.ref (faK loc K cl.init)))) && (PySem.W.isFn K (.ref (faK loc K cl.init)) && (PySem.W.keepIn K (.ref (ctK P K c)) &&
      cl.meths.all fun q => eqO (PySem.W.findIn K (.ref (ctK P K c)) q.1) (some (some (.ref (faK loc K q.2)))) && (PySem.W.isFn K (.ref (faK loc K q.2)) && PySem.W.keepIn K (.ref (faK loc K q.2)))))))
  | none => true)
def csB (K : PySem.W.Frag) : Bool := P.cs.all fun q => match PySem.W.nsIn K mainGlobals q.1 with
  | some (some u) => relB q.2.v u
  | _ => false
def freeB (K : PySem.W.Frag) : Bool := P.free.all fun x => eqO (PySem.W.nsIn K mainGlobals x) (some none)
def kitFB (K : PySem.W.Frag) : Bool := (List.range P.cls.length).all fun c =>
  eqO (PySem.W.findIn K (.ref (ctK P K c)) "__class__") (some (some (.builtin "object.__class__"))) && (eqO (PySem.W.specialIn K (.builtin "object.__class__") "__get__") (some (some (.builtin "getset_descriptor.__get__"))) && (decide (PySem.W.takesIn K (.builtin "object.__class__") = some true) && (decide (PySem.W.mroIn K (ctK P K c) (.type "object") = some true) &&
    (tyNs.all (fun T => decide (PySem.W.kitOne K (.ref (ctK P K c)) (.type T) = some false)) && (btNs.all (fun T => decide (PySem.W.kitOne K (.type T) (.ref (ctK P K c)) = some false)) &&
      (List.range P.cls.length).all fun k => decide (PySem.W.kitOne K (.ref (ctK P K c)) (.ref (ctK P K k)) = some (c == k)))))))
def exB (K : PySem.W.Frag) : Bool := gloB P loc K && (clB P loc K && (csB P K && (freeB P K && (kitFB P K && clsB P K 0))))
end
theorem range_all {n : Nat} {p : Nat → Bool} (h : (List.range n).all p = true) {i : Nat} (hi : i < n) : p i = true := List.all_eq_true.mp h i (List.mem_range.mpr hi)
theorem lookup_in {α β : Type} [BEq α] [LawfulBEq α] {x : α} {y : β} : ∀ {l : List (α × β)}, l.lookup x = some y → (x, y) ∈ l
  | [], h => by cases h
  | (a, b) :: l, h => by
    rw [List.lookup_cons] at h
    cases q : x == a with
    | true =>
      rw [q] at h
      have e := eq_of_beq q
      cases h
      rw [e]; exact List.mem_cons_self
    | false => rw [q] at h; exact List.mem_cons_of_mem _ (lookup_in h)
section
variable {P : Pg} {loc : List (Str × Option Str)} {K : PySem.W.Frag} {mg : Str → Option Value} {h : Heap}
theorem clsB_ok {c : Nat} (q : clsB P K c = true) : Cls K (ctK P K c) ∧ ∀ f ∈ P.flds, NoAttr K (ctK P K c) f := by
  unfold clsB at q
  obtain ⟨q1, q⟩ := ba q
  obtain ⟨q2, q⟩ := ba q
  obtain ⟨q3, q⟩ := ba q
  obtain ⟨q4, q5⟩ := ba q
  exact ⟨⟨q1, q2, q3, eqO_ok q4⟩, fun f hf => eqO_ok (List.all_eq_true.mp q5 f hf)⟩
theorem clN_out {c : Nat} (hc : ¬ c < P.cls.length) : clN P c = clN P 0 := by
  unfold clN
  rw [List.getElem?_eq_none (by omega)]
  cases q : P.cls[0]? with
  | none => rfl
  | some cl => rfl
theorem fun_ofD {d : DefD} {st : Stmt} (hd : d.params = defArgs st) (hb : d.body = defBody st) (hs : d.scope = defScope st) (hdf : d.dfl = []) {a : Addr} (ha : fAd K d.at_ = a) (F : ∃ fd, FunD K d.name d.qual d.params d.body d.scope (d.dvs K) (d.kws K) (fAd K d.at_) fd) : ∃ x qual, L2.Fun K x qual st a (fdOf K a) := by
  obtain ⟨fd, ⟨oc, od, dV, kV, doc, pm, an, cdv, ct, osl, e, lk, hcd, hD, hK⟩, kp⟩ := F
  subst ha
  have e0 : d.dvs K = [] := by unfold DefD.dvs; rw [hdf]; rfl
  rw [e0] at hD
  rcases hD with ⟨_, rfl⟩ | ⟨e1, _⟩
  · have ef : fdOf K (fAd K d.at_) = fd := by unfold fdOf; rw [lk]
    refine ⟨d.name, d.qual, ⟨oc, od, kV, doc, pm, an, cdv, ct, osl, ?_, ?_, hcd⟩, kp⟩
    · rw [ef, e, hd, hb, hs]
    · rw [ef]; exact lk
  · exact absurd rfl e1
theorem pgOk_of {Nm : Nat → List Str} {stm : Nat → Stmt} (X : K.In h) (G : h.Ns mainGlobals mg) (ex : exB P loc K = true)
    (hfn : ∀ (f : Nat) (fn : Fn), P.fns[f]? = some fn → ∃ x qual, L2.Fun K x qual (stm f) (faK loc K f) (fdOf K (faK loc K f)))
    (hchk : ∀ (f : Nat) (fn : Fn), P.fns[f]? = some fn → chkFn P fn (Nm f) (stm f) = true)
    (hbn : ∀ (f : Nat) (fn : Fn), P.fns[f]? = some fn → Binds K (fdOf K (faK loc K f)) fn.ps [])
    (hkw : ∀ (f : Nat) (ks : List Str) (n : Nat) (perm : List Nat) (fn : Fn), (f, ks, n, perm) ∈ P.kws → P.fns[f]? = some fn → KwB K (fdOf K (faK loc K f)) fn.ps ks n perm) :
    PgOk P (ctK P K) (faK loc K) (fun f => fdOf K (faK loc K f)) Nm stm K mg := by
  unfold exB at ex
  obtain ⟨e1, ex⟩ := ba ex
  obtain ⟨e2, ex⟩ := ba ex
  obtain ⟨e3, ex⟩ := ba ex
  obtain ⟨e4, ex⟩ := ba ex
  obtain ⟨e5, e6⟩ := ba ex
  have c2 : ∀ (c : Nat) (cl : Cl), P.cls[c]? = some cl → _ := fun c cl hc => by
    have hlt := (List.getElem?_eq_some_iff.mp hc).1
    have q := range_all e2 hlt
    rw [hc] at q
    exact ba q
  refine ⟨hfn, hchk, hbn, fun f fn hf hg => ?_, hkw, fun c cl hc => ?_, fun c cl hc m f hm => ?_, fun c => ?_, fun c => ?_, fun x c hx => ?_, fun x hx => ?_, ?_⟩
  · have q := range_all e1 (List.getElem?_eq_some_iff.mp hf).1
    rw [hf] at q
    simp only [hg, Bool.not_true, Bool.false_or] at q
    obtain ⟨q1, q2⟩ := ba q
    exact ⟨PySem.W.mg_of X G (eqO_ok q1), q2⟩
  · obtain ⟨q1, q⟩ := ba (c2 c cl hc).2
    obtain ⟨q2, q⟩ := ba q
    obtain ⟨q3, q⟩ := ba q
    obtain ⟨q4, q⟩ := ba q
    obtain ⟨q5, q⟩ := ba q
    exact ⟨PySem.W.mg_of X G (eqO_ok q1), q2, eqO_ok q3, q4, q5⟩
  · obtain ⟨q1, q⟩ := ba (c2 c cl hc).2
    obtain ⟨q2, q⟩ := ba q
    obtain ⟨q3, q⟩ := ba q
    obtain ⟨q4, q⟩ := ba q
    obtain ⟨q5, q⟩ := ba q
    obtain ⟨r1, r⟩ := ba (List.all_eq_true.mp q (m, f) (lookup_in hm))
    obtain ⟨r2, r3⟩ := ba r
    exact ⟨eqO_ok r1, r2, r3⟩
  · by_cases hc : c < P.cls.length
    · exact (clsB_ok (ba (range_all e2 hc)).1).1
    · have e0 : ctK P K c = ctK P K 0 := by unfold ctK; rw [clN_out hc]
      rw [e0]; exact (clsB_ok e6).1
  · by_cases hc : c < P.cls.length
    · exact (clsB_ok (ba (range_all e2 hc)).1).2
    · have e0 : ctK P K c = ctK P K 0 := by unfold ctK; rw [clN_out hc]
      rw [e0]; exact (clsB_ok e6).2
  · have q := List.all_eq_true.mp e3 (x, c) (lookup_in hx)
    cases w : PySem.W.nsIn K mainGlobals x with
    | none => simp only [w] at q; cases q
    | some o =>
      cases o with
      | none => simp only [w] at q; cases q
      | some u =>
        simp only [w] at q
        exact ⟨u, PySem.W.mg_of X G w, relB_ok q⟩
  · exact PySem.W.mg_none_of X G (eqO_ok (List.all_eq_true.mp e4 x hx))
  · refine ⟨fun c hc => ?_, fun c hc T hT => ?_, fun c hc k hk => ?_, fun c hc T hT => ?_⟩ <;>
    · have q := range_all e5 hc
      obtain ⟨q1, q⟩ := ba q
      obtain ⟨q2, q⟩ := ba q
      obtain ⟨q3, q⟩ := ba q
      obtain ⟨q4, q⟩ := ba q
      obtain ⟨q5, q⟩ := ba q
      obtain ⟨q6, q7⟩ := ba q
      first
        | exact ⟨(clsB_ok (ba (range_all e2 hc)).1).1, eqO_ok q1, eqO_ok q2, of_decide_eq_true q3, of_decide_eq_true q4⟩
        | exact of_decide_eq_true (List.all_eq_true.mp q5 T hT)
        | exact of_decide_eq_true (range_all q7 hk)
        | exact of_decide_eq_true (List.all_eq_true.mp q6 T hT)
end
/-- a fact of each item -/
inductive AllIx {α : Type} (Q : Nat → α → Prop) : Nat → List α → Prop
  | nil (i : Nat) : AllIx Q i []
  | cons {i : Nat} {a : α} {l : List α} (h : Q i a) (t : AllIx Q (i + 1) l) : AllIx Q i (a :: l)
theorem AllIx.at {α : Type} {Q : Nat → α → Prop} : ∀ {l : List α} {i f : Nat} {a : α}, AllIx Q i l → l[f]? = some a → Q (i + f) a
  | [], _, _, _, _, h => by simp at h
  | b :: l, i, 0, a, .cons q t, h => by simp at h; subst h; exact q
  | b :: l, i, f + 1, a, .cons q t, h => by
    have := AllIx.at (l := l) (f := f) (a := a) t (by simpa using h)
    rw [Nat.add_assoc, Nat.add_comm 1 f] at this
    exact this
theorem AllIx.at0 {α : Type} {Q : Nat → α → Prop} {l : List α} {f : Nat} {a : α} (t : AllIx Q 0 l) (h : l[f]? = some a) : Q f a := by
  have := t.at h
  rwa [Nat.zero_add] at this
end VI
namespace VI
open PySem L2
/-! tools for runs of the interpreter -/
theorem run_of {P : Pg} {k f : Nat} {fn : Fn} {ss : List Sl} (hf : P.fns[f]? = some fn) (hl : ss.length = fn.ps.length) : runN P (k + 1) f ss = endR (exSs P (runN P k) fn.body (startE fn.n ss)) fn.ps.length := by
  show (match P.fns[f]? with | some fn => if ss.length = fn.ps.length then _ else none | none => none) = _
  rw [hf]
  simp only [hl, if_true]
theorem forL_inv {t : Tg} {b : Env' → Option (Fl × Env')} (I : List D → Env' → Prop) (Rt : R → Env' → Prop) (xs : List D) :
    ∀ (post pre : List D) (env : Env'), pre ++ post = xs → I pre env →
      (∀ pre x post env, pre ++ x :: post = xs → I pre env → ∃ env1 fl env2, putTg t x env = some env1 ∧ b env1 = some (fl, env2) ∧ (fl = .next ∨ fl = .cnt → I (pre ++ [x]) env2) ∧ fl ≠ .brk ∧ ∀ r, fl = .ret r → Rt r env2) →
      ∃ fl env', forL t b post env = some (fl, env') ∧ ((fl = .next ∧ I xs env') ∨ ∃ r, fl = .ret r ∧ Rt r env')
  | [], pre, env, e, i, _ => ⟨.next, env, rfl, .inl ⟨rfl, by rw [List.append_nil] at e; rw [← e]; exact i⟩⟩
  | x :: post, pre, env, e, i, st => by
    obtain ⟨env1, fl, env2, h1, h2, h3, h4, h5⟩ := st pre x post env e i
    unfold forL
    rw [h1]
    simp only [h2]
    cases fl with
    | next => exact forL_inv I Rt xs post (pre ++ [x]) env2 (by rw [List.append_assoc]; exact e) (h3 (.inl rfl)) st
    | cnt => exact forL_inv I Rt xs post (pre ++ [x]) env2 (by rw [List.append_assoc]; exact e) (h3 (.inr rfl)) st
    | brk => exact (h4 rfl).elim
    | ret r => exact ⟨.ret r, env2, rfl, .inr ⟨r, rfl, h5 r rfl⟩⟩
theorem lcL_inv {t : Tg} {vs : List Nat} {c : Env' → Option (Bool × Env')} {e : Env' → Option (R × Env')} (I : List D → List D → Env' → Prop) (xs : List D) :
    ∀ (post pre acc : List D) (env : Env'), pre ++ post = xs → I pre acc env →
      (∀ pre x post acc env, pre ++ x :: post = xs → I pre acc env → ∃ env1 b env2, putTg t x (wipeE env vs) = some env1 ∧ c env1 = some (b, env2) ∧ (b = false → I (pre ++ [x]) acc env2) ∧
        (b = true → ∃ d env3, frzM e env2 = some (.dt d, env3) ∧ acc.length < sizeLine ∧ I (pre ++ [x]) (acc ++ [d]) env3)) →
      ∃ ds env', lcL t vs c e post acc env = some (ds, env') ∧ I xs ds env'
  | [], pre, acc, env, q, i, _ => ⟨acc, env, rfl, by rw [List.append_nil] at q; rw [← q]; exact i⟩
  | x :: post, pre, acc, env, q, i, st => by
    obtain ⟨env1, b, env2, h1, h2, h3, h4⟩ := st pre x post acc env q i
    unfold lcL
    rw [h1]
    simp only [h2]
    cases b with
    | false => exact lcL_inv I xs post (pre ++ [x]) acc env2 (by rw [List.append_assoc]; exact q) (h3 rfl) st
    | true =>
      obtain ⟨d, env3, g1, g2, g3⟩ := h4 rfl
      simp only [g1, if_pos g2]
      exact lcL_inv I xs post (pre ++ [x]) (acc ++ [d]) env3 (by rw [List.append_assoc]; exact q) g3 st
/-- a comprehension whose parts change nothing -/
theorem lcM_pure {vs : List Nat} {t : Tg} {it : Env' → Option (List D × Env')} {c : Env' → Option (Bool × Env')} {e : Env' → Option (R × Env')} {env env1 : Env'} {xs : List D} (p : D → Bool) (g : D → D)
    (hit : it env = some (xs, env1)) (hp : plainAt env1 vs = true) (hl : xs.length ≤ sizeLine)
    (st : ∀ x ∈ xs, ∃ e1 e2, putTg t x (wipeE env1 vs) = some e1 ∧ c e1 = some (p x, e2) ∧ wipeE e2 vs = wipeE env1 vs ∧ (p x = true → ∃ e3, frzM e e2 = some (.dt (g x), e3) ∧ wipeE e3 vs = wipeE env1 vs)) :
    lcM vs t it c e env = some (.nw (.lst ((xs.filter p).map g)), env1) := by
  have key := lcL_inv (t := t) (vs := vs) (c := c) (e := e) (fun pre acc env' => acc = (pre.filter p).map g ∧ wipeE env' vs = wipeE env1 vs ∧ pre.length ≤ xs.length) xs xs [] [] env1 rfl ⟨rfl, rfl, Nat.zero_le _⟩ (fun pre x post acc env' q ⟨i1, i2, i3⟩ => by
    obtain ⟨e1, e2, h1, h2, h3, h4⟩ := st x (by rw [← q]; simp)
    have hln : (pre ++ [x]).length ≤ xs.length := by rw [← q]; simp
    refine ⟨e1, p x, e2, by rw [i2]; exact h1, h2, fun hb => ⟨?_, h3, hln⟩, fun hb => ?_⟩
    · rw [List.filter_append, List.map_append, ← i1]; simp [hb]
    · obtain ⟨e3, g1, g2⟩ := h4 hb
      refine ⟨g x, e3, g1, ?_, ?_, g2, hln⟩
      · have h5 : acc.length ≤ pre.length := by rw [i1, List.length_map]; exact List.length_filter_le ..
        have h6 : pre.length + 1 ≤ xs.length := by simpa using hln
        omega
      · rw [List.filter_append, List.map_append, ← i1]; simp [hb])
  obtain ⟨ds, env', k1, k2, k3, _⟩ := key
  unfold lcM
  rw [hit]
  simp only [hp, if_true, k1, k2]
  have : backE env1 env' vs = env1 := by
    have hlen : env'.length = env1.length := by
      have := congrArg List.length k3
      rwa [wipeE_length, wipeE_length] at this
    refine List.ext_getElem? fun i => ?_
    by_cases hi : i ∈ vs
    · by_cases hlt : i < env1.length
      · have h1 : i < (backE env1 env' vs).length := by rw [backE_length, hlen]; exact hlt
        have h2 : (backE env1 env' vs)[i]? = some (backE env1 env' vs)[i] := List.getElem?_eq_getElem h1
        rw [h2, backE_in hi h2, List.getD_eq_getElem?_getD, List.getElem?_eq_getElem hlt] <;> rfl
      · rw [List.getElem?_eq_none (by rw [backE_length, hlen]; omega), List.getElem?_eq_none (by omega)]
    · rw [backE_out hi, ← wipeE_out (env := env') hi, k3, wipeE_out hi]
  rw [this]
theorem lcM_map {vs : List Nat} {t : Tg} {it : Env' → Option (List D × Env')} {e : Env' → Option (R × Env')} {env env1 : Env'} {xs : List D} (g : D → D)
    (hit : it env = some (xs, env1)) (hp : plainAt env1 vs = true) (hl : xs.length ≤ sizeLine)
    (st : ∀ x ∈ xs, ∃ e1 e3, putTg t x (wipeE env1 vs) = some e1 ∧ frzM e e1 = some (.dt (g x), e3) ∧ wipeE e3 vs = wipeE env1 vs ∧ wipeE e1 vs = wipeE env1 vs) :
    lcM vs t it trueM e env = some (.nw (.lst (xs.map g)), env1) := by
  have w := lcM_pure (c := trueM) (fun _ => true) g hit hp hl (fun x hx => by
    obtain ⟨e1, e3, h1, h2, h3, h4⟩ := st x hx
    exact ⟨e1, e1, h1, rfl, h4, fun _ => ⟨e3, h2, h3⟩⟩)
  rw [w, List.filter_eq_self.mpr (fun _ _ => rfl)]
/-- a slot that is not an object of one's own -/
def Pl (s : Sl) : Prop := s = .no ∨ ∃ d, s = .va d
theorem Pl.no : Pl .no := .inl rfl
theorem Pl.va (d : D) : Pl (.va d) := .inr ⟨d, rfl⟩
theorem nodup_take {l : List Str} (h : l.Nodup) {i : Nat} (hi : i < l.length) : l[i] ∉ l.take i := by
  intro hm
  obtain ⟨j, hj, e⟩ := List.mem_iff_getElem.mp hm
  rw [List.getElem_take] at e
  rw [List.length_take] at hj
  have hp := List.pairwise_iff_getElem.mp h j i (by omega) hi (by omega)
  exact hp e
theorem enm_at {l pre post : List D} {x : D} (q : pre ++ x :: post = l.zipIdx.map fun p => D.tup [.int (p.2 : Nat), p.1]) : ∃ h : pre.length < l.length, x = .tup [.int (pre.length : Nat), l[pre.length]] := by
  have hi : pre.length < l.length := by
    have := congrArg List.length q
    simp at this; omega
  refine ⟨hi, ?_⟩
  have : (l.zipIdx.map fun p => D.tup [.int (p.2 : Nat), p.1])[pre.length]? = some x := by rw [← q]; simp
  rw [List.getElem?_map, List.getElem?_zipIdx, List.getElem?_eq_getElem hi] at this
  simpa using this.symm
theorem at_pre {α : Type} {l pre post : List α} {x : α} (q : pre ++ x :: post = l) : ∃ h : pre.length < l.length, x = l[pre.length] := by
  subst q
  exact ⟨by simp, by simp⟩
theorem atI_cast {α : Type} (l : List α) (i : Nat) : atI l (i : Int) = l[i]? := by
  unfold atI ixN
  by_cases h : i < l.length
  · rw [if_pos (by omega), if_pos (by omega)]; simp
  · rw [if_pos (by omega), if_neg (by omega), List.getElem?_eq_none (by omega)]; rfl
theorem atI_succ {α : Type} (l : List α) (i : Nat) : atI l ((i : Int) + 1) = l[i + 1]? := atI_cast l (i + 1)
theorem rng1_ok {m : Env' → Option (R × Env')} {env env1 : Env'} {n : Int} (h : m env = some (.dt (.int n), env1)) (h0 : -100000 ≤ n) (h1 : n ≤ 100000) : rng1M m env = some ((List.range n.toNat).map fun (k : Nat) => .int (k : Int), env1) := by
  unfold rng1M
  rw [h]
  simp only
  rw [if_pos ⟨by omega, by omega⟩]
  simp
theorem bools_map : ∀ l : List Bool, bools (l.map D.bl) = some l
  | [] => rfl
  | x :: l => by simp [bools, bools_map l]
theorem biAll_true {α : Type} (l : List α) : biAll [.lst (l.map fun _ => .bl true)] = some (.dt (.bl true)) := by
  have h := bools_map (l.map fun _ => true)
  rw [List.map_map] at h
  have h2 : bools (l.map fun _ => D.bl true) = some (l.map fun _ => true) := h
  simp only [biAll, h2, Option.map]
  have : (l.map fun _ => true).all id = true := by rw [List.all_map]; simp
  rw [this]
theorem fne_0_1 : ((Str.ofString "guests") = (Str.ofString "rooms")) = False := by decide
theorem fnb_0_1 : ((Str.ofString "guests") == (Str.ofString "rooms")) = false := by decide
theorem fne_0_2 : ((Str.ofString "guests") = (Str.ofString "accepted")) = False := by decide
theorem fnb_0_2 : ((Str.ofString "guests") == (Str.ofString "accepted")) = false := by decide
theorem fne_0_3 : ((Str.ofString "guests") = (Str.ofString "lists")) = False := by decide
theorem fnb_0_3 : ((Str.ofString "guests") == (Str.ofString "lists")) = false := by decide
theorem fne_1_0 : ((Str.ofString "rooms") = (Str.ofString "guests")) = False := by decide
theorem fnb_1_0 : ((Str.ofString "rooms") == (Str.ofString "guests")) = false := by decide
theorem fne_1_2 : ((Str.ofString "rooms") = (Str.ofString "accepted")) = False := by decide
theorem fnb_1_2 : ((Str.ofString "rooms") == (Str.ofString "accepted")) = false := by decide
theorem fne_1_3 : ((Str.ofString "rooms") = (Str.ofString "lists")) = False := by decide
theorem fnb_1_3 : ((Str.ofString "rooms") == (Str.ofString "lists")) = false := by decide
theorem fne_2_0 : ((Str.ofString "accepted") = (Str.ofString "guests")) = False := by decide
theorem fnb_2_0 : ((Str.ofString "accepted") == (Str.ofString "guests")) = false := by decide
theorem fne_2_1 : ((Str.ofString "accepted") = (Str.ofString "rooms")) = False := by decide
theorem fnb_2_1 : ((Str.ofString "accepted") == (Str.ofString "rooms")) = false := by decide
theorem fne_2_3 : ((Str.ofString "accepted") = (Str.ofString "lists")) = False := by decide
theorem fnb_2_3 : ((Str.ofString "accepted") == (Str.ofString "lists")) = false := by decide
theorem fne_3_0 : ((Str.ofString "lists") = (Str.ofString "guests")) = False := by decide
theorem fnb_3_0 : ((Str.ofString "lists") == (Str.ofString "guests")) = false := by decide
theorem fne_3_1 : ((Str.ofString "lists") = (Str.ofString "rooms")) = False := by decide
theorem fnb_3_1 : ((Str.ofString "lists") == (Str.ofString "rooms")) = false := by decide
theorem fne_3_2 : ((Str.ofString "lists") = (Str.ofString "accepted")) = False := by decide
theorem fnb_3_2 : ((Str.ofString "lists") == (Str.ofString "accepted")) = false := by decide
theorem fne_4_0 : ((Str.ofString "text") = (Str.ofString "guests")) = False := by decide
theorem fnb_4_0 : ((Str.ofString "text") == (Str.ofString "guests")) = false := by decide
theorem fne_4_1 : ((Str.ofString "text") = (Str.ofString "rooms")) = False := by decide
theorem fnb_4_1 : ((Str.ofString "text") == (Str.ofString "rooms")) = false := by decide
theorem fne_4_2 : ((Str.ofString "text") = (Str.ofString "accepted")) = False := by decide
theorem fnb_4_2 : ((Str.ofString "text") == (Str.ofString "accepted")) = false := by decide
theorem fne_4_3 : ((Str.ofString "text") = (Str.ofString "lists")) = False := by decide
theorem fnb_4_3 : ((Str.ofString "text") == (Str.ofString "lists")) = false := by decide
theorem fne_5_0 : ((Str.ofString "accepts") = (Str.ofString "guests")) = False := by decide
theorem fnb_5_0 : ((Str.ofString "accepts") == (Str.ofString "guests")) = false := by decide
theorem fne_5_1 : ((Str.ofString "accepts") = (Str.ofString "rooms")) = False := by decide
theorem fnb_5_1 : ((Str.ofString "accepts") == (Str.ofString "rooms")) = false := by decide
theorem fne_5_2 : ((Str.ofString "accepts") = (Str.ofString "accepted")) = False := by decide
theorem fnb_5_2 : ((Str.ofString "accepts") == (Str.ofString "accepted")) = false := by decide
theorem fne_5_3 : ((Str.ofString "accepts") = (Str.ofString "lists")) = False := by decide
theorem fnb_5_3 : ((Str.ofString "accepts") == (Str.ofString "lists")) = false := by decide
theorem fne_6_0 : ((Str.ofString "place_of") = (Str.ofString "guests")) = False := by decide
theorem fnb_6_0 : ((Str.ofString "place_of") == (Str.ofString "guests")) = false := by decide
theorem fne_6_1 : ((Str.ofString "place_of") = (Str.ofString "rooms")) = False := by decide
theorem fnb_6_1 : ((Str.ofString "place_of") == (Str.ofString "rooms")) = false := by decide
theorem fne_6_2 : ((Str.ofString "place_of") = (Str.ofString "accepted")) = False := by decide
theorem fnb_6_2 : ((Str.ofString "place_of") == (Str.ofString "accepted")) = false := by decide
theorem fne_6_3 : ((Str.ofString "place_of") = (Str.ofString "lists")) = False := by decide
theorem fnb_6_3 : ((Str.ofString "place_of") == (Str.ofString "lists")) = false := by decide
theorem fne_7_0 : ((Str.ofString "check_room") = (Str.ofString "guests")) = False := by decide
theorem fnb_7_0 : ((Str.ofString "check_room") == (Str.ofString "guests")) = false := by decide
theorem fne_7_1 : ((Str.ofString "check_room") = (Str.ofString "rooms")) = False := by decide
theorem fnb_7_1 : ((Str.ofString "check_room") == (Str.ofString "rooms")) = false := by decide
theorem fne_7_2 : ((Str.ofString "check_room") = (Str.ofString "accepted")) = False := by decide
theorem fnb_7_2 : ((Str.ofString "check_room") == (Str.ofString "accepted")) = false := by decide
theorem fne_7_3 : ((Str.ofString "check_room") = (Str.ofString "lists")) = False := by decide
theorem fnb_7_3 : ((Str.ofString "check_room") == (Str.ofString "lists")) = false := by decide
theorem lk_0 (x0 x1 x2 x3 : D) : List.lookup (Str.ofString "guests") [(Str.ofString "guests", x0), (Str.ofString "rooms", x1), (Str.ofString "accepted", x2), (Str.ofString "lists", x3)] = some x0 := by rfl
theorem lk_1 (x0 x1 x2 x3 : D) : List.lookup (Str.ofString "rooms") [(Str.ofString "guests", x0), (Str.ofString "rooms", x1), (Str.ofString "accepted", x2), (Str.ofString "lists", x3)] = some x1 := by rfl
theorem lk_2 (x0 x1 x2 x3 : D) : List.lookup (Str.ofString "accepted") [(Str.ofString "guests", x0), (Str.ofString "rooms", x1), (Str.ofString "accepted", x2), (Str.ofString "lists", x3)] = some x2 := by rfl
theorem lk_3 (x0 x1 x2 x3 : D) : List.lookup (Str.ofString "lists") [(Str.ofString "guests", x0), (Str.ofString "rooms", x1), (Str.ofString "accepted", x2), (Str.ofString "lists", x3)] = some x3 := by rfl
theorem lkm_0 (x0 x1 x2 x3 : D) : List.lookup (Str.ofString "text") [(Str.ofString "guests", x0), (Str.ofString "rooms", x1), (Str.ofString "accepted", x2), (Str.ofString "lists", x3)] = none := by rfl
theorem lkm_1 (x0 x1 x2 x3 : D) : List.lookup (Str.ofString "accepts") [(Str.ofString "guests", x0), (Str.ofString "rooms", x1), (Str.ofString "accepted", x2), (Str.ofString "lists", x3)] = none := by rfl
theorem lkm_2 (x0 x1 x2 x3 : D) : List.lookup (Str.ofString "place_of") [(Str.ofString "guests", x0), (Str.ofString "rooms", x1), (Str.ofString "accepted", x2), (Str.ofString "lists", x3)] = none := by rfl
theorem lkm_3 (x0 x1 x2 x3 : D) : List.lookup (Str.ofString "check_room") [(Str.ofString "guests", x0), (Str.ofString "rooms", x1), (Str.ofString "accepted", x2), (Str.ofString "lists", x3)] = none := by rfl
theorem biAll_comp {α β : Type} (l : List α) (f : α → β) : biAll [.lst (l.map ((fun _ => D.bl true) ∘ f))] = some (.dt (.bl true)) := biAll_true l
theorem op2_dt {f : D → D → Option R} {ma mb : Env' → Option (R × Env')} {env : Env'} {d e : D} {r : R} (h1 : ma env = some (.dt d, env)) (h2 : mb env = some (.dt e, env)) (h3 : f d e = some r) : op2 f ma mb env = some (r, env) := by
  simp only [op2, h1, h2, pz, opD, h3, Option.map]
theorem op2_sl {f : D → D → Option R} {ma mb : Env' → Option (R × Env')} {env : Env'} {i : Nat} {b : Bool} {d e : D} {r : R} (h1 : ma env = some (.sl i, env)) (hi : env[i]? = some (.ow b d)) (h2 : mb env = some (.dt e, env)) (h3 : f d e = some r) : op2 f ma mb env = some (r, env) := by
  simp only [op2, h1, h2, pz, opD, hi, h3, Option.map]
theorem bi1_dt {f : List D → Option R} {m : Env' → Option (R × Env')} {env : Env'} {d : D} {r : R} (h : m env = some (.dt d, env)) (hf : f [d] = some r) : biM f (consP m nilR) env = some (r, env) := by
  simp only [biM, consP, h, pz, nilR, List.mapM_cons, List.mapM_nil, opD]
  simp [hf]
theorem frz_dt {m : Env' → Option (R × Env')} {env env1 : Env'} {d : D} (h : m env = some (.dt d, env1)) : frzM m env = some (.dt d, env1) := by
  simp only [frzM, h, frz]
theorem seq_next {a b : Env' → Option (Fl × Env')} {env : Env'} (env1 : Env') (h : a env = some (.next, env1)) : consM a b env = b env1 := by simp only [consM, h]
theorem seq_ret {a b : Env' → Option (Fl × Env')} {env : Env'} (r : R) (env1 : Env') (h : a env = some (.ret r, env1)) : consM a b env = some (.ret r, env1) := by simp only [consM, h]
theorem end_ret {r : R} {env : Env'} {n : Nat} : endR (some (.ret r, env)) n = some (r, cleanE n env) := rfl
theorem end_next {env : Env'} {n : Nat} : endR (some (.next, env)) n = some (.dt .non, cleanE n env) := rfl
theorem bi1_nw {f : List D → Option R} {m : Env' → Option (R × Env')} {env env1 : Env'} {d : D} {r : R} (h : m env = some (.nw d, env1)) (hf : f [d] = some r) : biM f (consP m nilR) env = some (r, env1) := by
  simp only [biM, consP, h, pz, nilR, List.mapM_cons, List.mapM_nil, opD]
  simp [hf]
theorem ret_dt {m : Env' → Option (R × Env')} {env env1 : Env'} {d : D} (h : m env = some (.dt d, env1)) : retM m env = some (.ret (.dt d), env1) := by simp only [retM, h]
theorem ret_nw {m : Env' → Option (R × Env')} {env env1 : Env'} {d : D} (h : m env = some (.nw d, env1)) : retM m env = some (.ret (.nw d), env1) := by simp only [retM, h]
theorem asg_dt {m : Env' → Option (R × Env')} {env env1 env2 : Env'} {d : D} {i : Nat} (h : m env = some (.dt d, env1)) (hp : putSl i (.dt d) env1 = some env2) : asgM i m env = some (.next, env2) := by simp only [asgM, keepM, h, keepR, hp, Option.map]
theorem asg_nw {m : Env' → Option (R × Env')} {env env1 env2 : Env'} {d : D} {i : Nat} (h : m env = some (.nw d, env1)) (hp : putSl i (.nw d) env1 = some env2) : asgM i m env = some (.next, env2) := by simp only [asgM, keepM, h, keepR, hp, Option.map]
theorem atI_toNat {α : Type} {l : List α} {e : Int} (h0 : 0 ≤ e) (h : e.toNat < l.length) : atI l e = some l[e.toNat] := by
  unfold atI ixN
  rw [if_pos h0, if_pos (by omega)]
  simp [h]
theorem for_rng {P : Pg} {cf : Nat → List Sl → Option (R × List Sl)} {t : Tg} {e : E} {b : Ss} {env env1 : Env'} {n : Nat} (h : evE P cf e env = some (.dt (.int (n : Int)), env1)) (h1 : n ≤ 100000) : exS P cf (.for_ t (.rng1 e) b) env = forL t (exSs P cf b) ((List.range n).map fun (k : Nat) => .int (k : Int)) env1 := by
  have w := rng1_ok h (by omega) (by omega)
  simp only [exS, forM, evI, w, Int.toNat_natCast]
theorem for_seq {P : Pg} {cf : Nat → List Sl → Option (R × List Sl)} {t : Tg} {e : E} {b : Ss} {env env1 : Env'} {xs : List D} (h : seqM (evE P cf e) env = some (xs, env1)) : exS P cf (.for_ t (.seq e) b) env = forL t (exSs P cf b) xs env1 := by
  simp only [exS, forM, evI, h]
theorem call2_va {P : Pg} {cf : Nat → List Sl → Option (R × List Sl)} {f : Nat} {e1 e2 : E} {env : Env'} {d1 d2 : D} {r : R} {s1 s2 : Sl} (hm : mtOf P f = [false, false]) (h1 : evE P cf e1 env = some (.dt d1, env)) (h2 : evE P cf e2 env = some (.dt d2, env)) (hc : cf f [.va d1, .va d2] = some (r, [s1, s2])) (hr : ∀ i, r ≠ .sl i) : evE P cf (.call f (.cons e1 (.cons e2 .nil))) env = some (r, env) := by
  rw [evE, hm]
  have a1 : frzM (evE P cf e1) env = some (.dt d1, env) := frz_dt h1
  have a2 : frzM (evE P cf e2) env = some (.dt d2, env) := frz_dt h2
  have e : evA P cf (.cons e1 (.cons e2 .nil)) [false, false] env = some ([.dt d1, .dt d2], env) := by
    simp [evA, consR, a1, a2, nilR]
  simp only [callM, e, callF, slotsOf, List.nodup_nil, if_true, argSl, hc]
  cases r with
  | sl i => exact (hr i rfl).elim
  | dt d => simp [lentBack]
  | nw d => simp [lentBack]
theorem seq_nw {m : Env' → Option (R × Env')} {env env1 : Env'} {l : List D} (h : m env = some (.nw (.lst l), env1)) : seqM m env = some (l, env1) := by
  simp [seqM, frzM, h, frz, seqD]
theorem clean1 (env : Env') : cleanE 1 env = [lentAt env 0] := rfl
theorem clean2 (env : Env') : cleanE 2 env = [lentAt env 0, lentAt env 1] := rfl
theorem clean3 (env : Env') : cleanE 3 env = [lentAt env 0, lentAt env 1, lentAt env 2] := rfl
theorem clean4 (env : Env') : cleanE 4 env = [lentAt env 0, lentAt env 1, lentAt env 2, lentAt env 3] := rfl
theorem clean5 (env : Env') : cleanE 5 env = [lentAt env 0, lentAt env 1, lentAt env 2, lentAt env 3, lentAt env 4] := rfl
def tD (l : List Str) : D := .tup (l.map .str)
def ttD (a : List (List Str)) : D := .tup (a.map tD)
theorem isI_tup (n : Nat) (l : List D) : isI n .isTuple (.tup l) = some true := rfl
theorem isI_str (n : Nat) (x : Str) : isI n .isStr (.str x) = some true := rfl
theorem isI_tD (n : Nat) (l : List Str) : isI n .isTuple (tD l) = some true := rfl
theorem isI_ttD (n : Nat) (l : List (List Str)) : isI n .isTuple (ttD l) = some true := rfl
theorem isI_ins (l : List (Str × D)) : isI 1 (.isCls 0) (.ins 0 l) = some true := rfl
theorem len_tup (l : List D) : biLen [.tup l] = some (.dt (.int l.length)) := rfl
theorem len_lst (l : List D) : biLen [.lst l] = some (.dt (.int l.length)) := rfl
theorem len_scr (l : List Int) : biLen [.scr l] = some (.dt (.int l.length)) := rfl
theorem len_dic (l : List (D × D)) : biLen [.dic l] = some (.dt (.int l.length)) := rfl
theorem len_str (z : Str) : biLen [.str z] = if z.length ≤ sizeLine then some (.dt (.int z.length)) else none := rfl
theorem len_tD (l : List Str) : biLen [tD l] = some (.dt (.int l.length)) := by simp [biLen, tD]
theorem len_ttD (l : List (List Str)) : biLen [ttD l] = some (.dt (.int l.length)) := by simp [biLen, ttD]
end VI
namespace VI
open PySem L2
/-! the small trees of k33 -/
def e0_is_name : E := (.lc [1] (.nm 1) (.seq (.var 0)) .no (.cmp .isin (.var 1) (.cst (.str "abcdefghijklmnopqrstuvwxyz"))))
def b_is_name : Ss := (.cons (.ite (.or (.not (.isi .isStr (.var 0))) (.or (.not (.chain .le .le (.cst (.int 1)) (.bi .len (.cons (.var 0) .nil)) (.cst (.int 8)))) (.cmp .eq (.var 0) (.cst (.str "none"))))) (.cons (.ret (.cst (.bl false)))
    .nil) .nil)
    (.cons (.ret (.bi .all (.cons e0_is_name .nil)))
    .nil))
def f_is_name : Fn := ⟨"is_name", true, ["value"], [false], 2, b_is_name⟩
def n_is_name : List Str := ["value", "letter"]
def b0_wrong_name : Ss := (.cons (.ite (.or (.cmp .eq (.var 3) (.var 1)) (.or (.not (.call 0 (.cons (.var 4) .nil))) (.or (.cmp .isin (.var 4) (.sli (.var 0) .no (.so (.var 3)))) (.cmp .isin (.var 4) (.var 2))))) (.cons (.ret (.var 3))
    .nil) .nil)
    .nil)
def s1_wrong_name : S := (.for_ (.tu [3, 4]) (.enm (.var 0)) b0_wrong_name)
def b_wrong_name : Ss := (.cons s1_wrong_name
    (.cons (.ret (.cst .non))
    .nil))
def f_wrong_name : Fn := ⟨"wrong_name", true, ["value", "most", "others"], [false, false, false], 5, b_wrong_name⟩
def n_wrong_name : List Str := ["value", "most", "others", "index", "name"]
def e0_is_ascending : E := (.lc [3] (.nm 3) (.seq (.var 0)) .no (.and (.isi .isStr (.var 3)) (.cmp .isin (.var 3) (.var 1))))
def e1_is_ascending : E := (.lc [3] (.nm 3) (.seq (.var 0)) .no (.bm .index (.var 1) (.cons (.var 3) .nil)))
def e2_is_ascending : E := (.lc [4] (.nm 4) (.rng1 (.bin .sub (.bi .len (.cons (.var 2) .nil)) (.cst (.int 1)))) .no (.cmp .lt (.ix (.var 2) (.var 4)) (.ix (.var 2) (.bin .add (.var 4) (.cst (.int 1))))))
def b_is_ascending : Ss := (.cons (.ite (.or (.not (.isi .isTuple (.var 0))) (.not (.bi .all (.cons e0_is_ascending .nil)))) (.cons (.ret (.cst (.bl false)))
    .nil) .nil)
    (.cons (.asg (.nm 2) e1_is_ascending)
    (.cons (.ret (.bi .all (.cons e2_is_ascending .nil)))
    .nil)))
def f_is_ascending : Fn := ⟨"is_ascending", true, ["value", "names"], [false, false], 5, b_is_ascending⟩
def n_is_ascending : List Str := ["value", "names", "places", "name", "k"]
def b_is_one_of : Ss := (.cons (.ret (.and (.isi .isStr (.var 0)) (.cmp .isin (.var 0) (.var 1))))
    .nil)
def f_is_one_of : Fn := ⟨"is_one_of", true, ["value", "names"], [false, false], 2, b_is_one_of⟩
def n_is_one_of : List Str := ["value", "names"]
def b_check_guests : Ss := (.cons (.ite (.or (.not (.isi .isTuple (.var 0))) (.cmp .eq (.var 0) (.tup .nil))) (.cons .bad
    .nil) .nil)
    (.cons (.asg (.nm 1) (.call 1 (.cons (.var 0) (.cons (.cst (.int 6)) (.cons (.tup .nil) .nil)))))
    (.cons (.ite (.notN (.var 1)) (.cons .bad
    .nil) .nil)
    .nil)))
def f_check_guests : Fn := ⟨"check_guests", true, ["guests"], [false], 2, b_check_guests⟩
def n_check_guests : List Str := ["guests", "wrong"]
def b_check_rooms : Ss := (.cons (.ite (.or (.not (.isi .isTuple (.var 0))) (.cmp .eq (.var 0) (.tup .nil))) (.cons .bad
    .nil) .nil)
    (.cons (.asg (.nm 2) (.call 1 (.cons (.var 0) (.cons (.cst (.int 8)) (.cons (.var 1) .nil)))))
    (.cons (.ite (.notN (.var 2)) (.cons .bad
    .nil) .nil)
    .nil)))
def f_check_rooms : Fn := ⟨"check_rooms", true, ["rooms", "guests"], [false, false], 3, b_check_rooms⟩
def n_check_rooms : List Str := ["rooms", "guests", "wrong"]
def b0_check_accepted : Ss := (.cons (.ite (.or (.cmp .eq (.var 3) (.var 1)) (.not (.call 2 (.cons (.var 4) (.cons (.var 2) .nil))))) (.cons .bad
    .nil) .nil)
    .nil)
def s1_check_accepted : S := (.for_ (.tu [3, 4]) (.enm (.var 0)) b0_check_accepted)
def b_check_accepted : Ss := (.cons (.ite (.or (.not (.isi .isTuple (.var 0))) (.cmp .lt (.bi .len (.cons (.var 0) .nil)) (.var 1))) (.cons .bad
    .nil) .nil)
    (.cons s1_check_accepted
    .nil))
def f_check_accepted : Fn := ⟨"check_accepted", true, ["accepted", "many", "rooms"], [false, false, false], 5, b_check_accepted⟩
def n_check_accepted : List Str := ["accepted", "many", "rooms", "index", "some"]
def b_House_init : Ss := (.cons (.ex (.call 4 (.cons (.var 1) .nil)))
    (.cons (.ex (.call 5 (.cons (.var 2) (.cons (.var 1) .nil))))
    (.cons (.ex (.call 6 (.cons (.var 3) (.cons (.bi .len (.cons (.var 1) .nil)) (.cons (.var 2) .nil)))))
    (.cons (.setF 0 "guests" (.var 1))
    (.cons (.setF 0 "rooms" (.var 2))
    (.cons (.setF 0 "accepted" (.var 3))
    (.cons (.setF 0 "lists" (.dz (.var 1) (.var 3)))
    .nil)))))))
def f_House_init : Fn := ⟨"__init__", false, ["self", "guests", "rooms", "accepted"], [true, false, false, false], 4, b_House_init⟩
def n_House_init : List Str := ["self", "guests", "rooms", "accepted"]
def b_House_place_of : Ss := (.cons (.ite (.not (.call 3 (.cons (.var 1) (.cons (.fld (.var 0) "guests") .nil)))) (.cons .bad
    .nil) .nil)
    (.cons (.ret (.bm .index (.fld (.var 0) "guests") (.cons (.var 1) .nil)))
    .nil))
def f_House_place_of : Fn := ⟨"place_of", false, ["self", "guest"], [false, false], 2, b_House_place_of⟩
def n_House_place_of : List Str := ["self", "guest"]
def b_House_check_room : Ss := (.cons (.ite (.not (.call 3 (.cons (.var 1) (.cons (.fld (.var 0) "rooms") .nil)))) (.cons .bad
    .nil) .nil)
    .nil)
def f_House_check_room : Fn := ⟨"check_room", false, ["self", "room"], [false, false], 2, b_House_check_room⟩
def n_House_check_room : List Str := ["self", "room"]
def b_House_accepts : Ss := (.cons (.ex (.mcall 0 "place_of" 8 (.var 0) (.cons (.var 1) .nil)))
    (.cons (.ex (.mcall 0 "check_room" 9 (.var 0) (.cons (.var 2) .nil)))
    (.cons (.ret (.cmp .isin (.var 2) (.ix (.fld (.var 0) "lists") (.var 1))))
    .nil)))
def f_House_accepts : Fn := ⟨"accepts", false, ["self", "guest", "room"], [false, false, false], 3, b_House_accepts⟩
def n_House_accepts : List Str := ["self", "guest", "room"]
def b_check_house : Ss := (.cons (.ite (.not (.isi (.isCls 0) (.var 0))) (.cons .bad
    .nil) .nil)
    .nil)
def f_check_house : Fn := ⟨"check_house", true, ["house"], [false], 1, b_check_house⟩
def n_check_house : List Str := ["house"]
def e0_are_places : E := (.lc [3] (.nm 3) (.seq (.var 0)) .no (.and (.isi .isStr (.var 3)) (.cmp .isin (.var 3) (.var 2))))
def e1_are_places : E := (.dc [3] (.nm 3) (.seq (.var 0)) .no (.var 3) (.cst (.bl true)))
def b_are_places : Ss := (.cons (.ite (.or (.not (.isi .isTuple (.var 0))) (.cmp .ne (.bi .len (.cons (.var 0) .nil)) (.bi .len (.cons (.var 1) .nil)))) (.cons (.ret (.cst (.bl false)))
    .nil) .nil)
    (.cons (.ite (.not (.bi .all (.cons e0_are_places .nil))) (.cons (.ret (.cst (.bl false)))
    .nil) .nil)
    (.cons (.ret (.cmp .eq (.bi .len (.cons e1_are_places .nil)) (.bi .len (.cons (.var 0) .nil))))
    .nil)))
def f_are_places : Fn := ⟨"are_places", true, ["value", "guests", "rooms"], [false, false, false], 4, b_are_places⟩
def n_are_places : List Str := ["value", "guests", "rooms", "room"]
def e0_is_good : E := (.lc [2, 3] (.tu [2, 3]) (.zip2 (.var 1) (.fld (.var 0) "accepted")) .no (.cmp .isin (.var 2) (.var 3)))
def b_is_good : Ss := (.cons (.ite (.not (.call 12 (.cons (.var 1) (.cons (.fld (.var 0) "guests") (.cons (.fld (.var 0) "rooms") .nil))))) (.cons (.ret (.cst (.bl false)))
    .nil) .nil)
    (.cons (.ret (.bi .all (.cons e0_is_good .nil)))
    .nil))
def f_is_good : Fn := ⟨"is_good", true, ["house", "value"], [false, false], 4, b_is_good⟩
def n_is_good : List Str := ["house", "value", "room", "some"]
def b_is_placing : Ss := (.cons (.ex (.call 11 (.cons (.var 0) .nil)))
    (.cons (.ret (.call 13 (.cons (.var 0) (.cons (.var 1) .nil))))
    .nil))
def f_is_placing : Fn := ⟨"is_placing", true, ["house", "value"], [false, false], 2, b_is_placing⟩
def n_is_placing : List Str := ["house", "value"]
def b_check_placing : Ss := (.cons (.ite (.not (.call 13 (.cons (.var 0) (.cons (.var 1) .nil)))) (.cons .bad
    .nil) .nil)
    .nil)
def f_check_placing : Fn := ⟨"check_placing", true, ["house", "value"], [false, false], 2, b_check_placing⟩
def n_check_placing : List Str := ["house", "value"]
def e0_frees : E := (.lc [2] (.nm 2) (.seq (.fld (.var 0) "rooms")) (.so (.cmp .notin (.var 2) (.var 1))) (.var 2))
def b_frees : Ss := (.cons (.ret e0_frees)
    .nil)
def f_frees : Fn := ⟨"frees", true, ["house", "placing"], [false, false], 3, b_frees⟩
def n_frees : List Str := ["house", "placing", "room"]
def b_lets : Ss := (.cons (.ex (.call 11 (.cons (.var 0) .nil)))
    (.cons (.ex (.call 15 (.cons (.var 0) (.cons (.var 1) .nil))))
    (.cons (.ret (.and (.mcall 0 "accepts" 10 (.var 0) (.cons (.var 2) (.cons (.var 3) .nil))) (.cmp .isin (.var 3) (.call 16 (.cons (.var 0) (.cons (.var 1) .nil))))))
    .nil)))
def f_lets : Fn := ⟨"lets", true, ["house", "placing", "guest", "room"], [false, false, false, false], 4, b_lets⟩
def n_lets : List Str := ["house", "placing", "guest", "room"]
def b0_law_cell : Ss := (.cons (.asg (.nm 2) (.bin .mod (.bi .int (.cons (.bin .add (.bin .add (.bin .mul (.var 2) (.cst (.int 47059))) (.bin .mul (.var 3) (.cst (.int 1009)))) (.var 1)) .nil)) (.cst (.int 2147483563))))
    .nil)
def s1_law_cell : S := (.for_ (.nm 3) (.seq (.sli (.var 0) .no (.so (.cst (.int 5))))) b0_law_cell)
def b_law_cell : Ss := (.cons (.ite (.cmp .lt (.var 1) (.bi .len (.cons (.var 0) .nil))) (.cons (.ret (.ix (.var 0) (.var 1)))
    .nil) .nil)
    (.cons (.asg (.nm 2) (.bin .add (.cst (.int 830477)) (.bin .mul (.cst (.int 30113)) (.var 1))))
    (.cons s1_law_cell
    (.cons (.ret (.var 2))
    .nil))))
def f_law_cell : Fn := ⟨"_law_cell", true, ["_law_cells", "_law_k"], [false, false], 4, b_law_cell⟩
def n_law_cell : List Str := ["_law_cells", "_law_k", "_law_made_here", "_law_own"]
def b_law_well : Ss := (.cons (.ret (.lst (.cons (.ife (.or (.cmp .lt (.var 0) (.cst (.int 0))) (.cmp .ge (.var 0) (.bin .pow (.cst (.int 10)) (.cst (.int 18))))) (.bi .abs (.cons (.var 0) .nil)) (.cst (.int 0))) (.cons (.bin .mod (.bi .int (.cons (.var 0) .nil)) (.cst (.int 2147483587))) (.cons (.cst (.int 0)) .nil)))))
    .nil)
def f_law_well : Fn := ⟨"_law_well", true, ["_law_cell_here"], [false], 1, b_law_well⟩
def n_law_well : List Str := ["_law_cell_here"]
def b_law_dip : Ss := (.cons (.setIx 0 (.cst (.int 2)) (.bin .add (.ix (.var 0) (.cst (.int 2))) (.cst (.int 1))))
    (.cons (.asg (.nm 2) (.bin .mod (.bi .int (.cons (.bin .add (.ix (.var 0) (.cst (.int 1))) (.bin .mul (.cst (.int 770551)) (.ix (.var 0) (.cst (.int 2))))) .nil)) (.cst (.int 2147483587))))
    (.cons (.setIx 0 (.cst (.int 1)) (.bin .mod (.bi .int (.cons (.bin .add (.bin .add (.bin .mul (.var 2) (.var 2)) (.bin .mul (.cst (.int 2753159)) (.var 2))) (.cst (.int 519371))) .nil)) (.cst (.int 2147483587))))
    (.cons (.ite (.cmp .eq (.ix (.var 0) (.cst (.int 0))) (.cst (.int 0))) (.cons (.ret (.bin .mod (.bi .int (.cons (.bin .fdiv (.ix (.var 0) (.cst (.int 1))) (.cst (.int 103))) .nil)) (.var 1)))
    .nil) .nil)
    (.cons (.asg (.tu [3, 4]) (.bi .divmod (.cons (.ix (.var 0) (.cst (.int 0))) (.cons (.var 1) .nil))))
    (.cons (.setIx 0 (.cst (.int 0)) (.var 3))
    (.cons (.ret (.var 4))
    .nil)))))))
def f_law_dip : Fn := ⟨"_law_dip", true, ["_law_jar", "_law_many"], [true, false], 5, b_law_dip⟩
def n_law_dip : List Str := ["_law_jar", "_law_many", "_law_mixed", "_law_stock", "_law_digit"]
def e0_law_names : E := (.lst (.cons (.cst (.str "ann")) (.cons (.cst (.str "bob")) (.cons (.cst (.str "cy")) (.cons (.cst (.str "rooms")) (.cons (.cst (.str "zzzzzzzz")) (.cons (.cst (.str "go")) (.cons (.cst (.str "a")) (.cons (.cst (.str "ab")) (.cons (.cst (.str "in")) (.cons (.cst (.str "loose")) (.cons (.cst (.str "b")) .nil))))))))))))
def e1_law_names : E := (.lst (.cons (.cst (.str "p")) (.cons (.cst (.str "red")) (.cons (.cst (.str "q")) (.cons (.cst (.str "attic")) (.cons (.cst (.str "out")) (.cons (.cst (.str "abcdefgh")) (.cons (.cst (.str "hall")) (.cons (.cst (.str "aa")) (.cons (.cst (.str "r")) (.cons (.cst (.str "free")) (.cons (.cst (.str "good")) .nil))))))))))))
def e2_law_names : E := (.lc [6] (.nm 6) (.rng1 (.var 1)) .no (.ix (.var 3) (.bin .mod (.bi .int (.cons (.bin .add (.var 4) (.bin .mul (.var 5) (.var 6))) .nil)) (.cst (.int 11)))))
def b_law_names : Ss := (.cons (.ite (.var 2) (.cons (.asg (.nm 3) e0_law_names)
    .nil) (.cons (.asg (.nm 3) e1_law_names)
    .nil))
    (.cons (.par [4, 5] (.cons (.call 20 (.cons (.var 0) (.cons (.cst (.int 11)) .nil))) (.cons (.bin .add (.cst (.int 1)) (.call 20 (.cons (.var 0) (.cons (.cst (.int 10)) .nil)))) .nil)))
    (.cons (.ret (.bi .tuple (.cons e2_law_names .nil)))
    .nil)))
def f_law_names : Fn := ⟨"_law_names", true, ["_law_jar", "_law_many", "_law_is_folk"], [true, false, false], 7, b_law_names⟩
def n_law_names : List Str := ["_law_jar", "_law_many", "_law_is_folk", "_law_stock", "_law_at", "_law_step", "_law_k"]
def e0_law_new_home : E := (.lc [10] (.nm 10) (.seq (.var 5)) (.so (.cmp .lt (.call 20 (.cons (.var 0) (.cons (.cst (.int 4)) .nil))) (.var 7))) (.var 10))
def b1_law_new_home : Ss := (.cons (.asg (.nm 9) (.bi .tuple (.cons e0_law_new_home .nil)))
    (.cons (.ite (.and (.cmp .ne (.var 8) (.lst .nil)) (.cmp .eq (.call 20 (.cons (.var 0) (.cons (.cst (.int 4)) .nil))) (.cst (.int 0)))) (.cons (.asg (.nm 9) (.ix (.var 8) (.call 20 (.cons (.var 0) (.cons (.bi .len (.cons (.var 8) .nil)) .nil)))))
    .nil) .nil)
    (.cons (.ex (.bx .append 8 (.var 9)))
    .nil)))
def s2_law_new_home : S := (.for_ (.nm 6) (.rng1 (.bi .len (.cons (.var 4) .nil))) b1_law_new_home)
def b_law_new_home : Ss := (.cons (.asg (.nm 4) (.call 21 (.cons (.var 0) (.cons (.bin .add (.var 1) (.call 20 (.cons (.var 0) (.cons (.bin .add (.bin .sub (.var 2) (.var 1)) (.cst (.int 1))) .nil)))) (.cons (.cst (.bl true)) .nil)))))
    (.cons (.asg (.nm 5) (.call 21 (.cons (.var 0) (.cons (.bi .max2 (.cons (.cst (.int 1)) (.cons (.bi .min2 (.cons (.var 3) (.cons (.bin .sub (.bin .add (.bi .len (.cons (.var 4) .nil)) (.call 20 (.cons (.var 0) (.cons (.cst (.int 4)) .nil)))) (.cst (.int 1))) .nil))) .nil))) (.cons (.cst (.bl false)) .nil)))))
    (.cons (.par [7, 8] (.cons (.bin .add (.cst (.int 1)) (.call 20 (.cons (.var 0) (.cons (.cst (.int 4)) .nil)))) (.cons (.lst .nil) .nil)))
    (.cons s2_law_new_home
    (.cons (.ret (.tup (.cons (.var 4) (.cons (.var 5) (.cons (.bi .tuple (.cons (.var 8) .nil)) .nil)))))
    .nil)))))
def f_law_new_home : Fn := ⟨"_law_new_home", true, ["_law_jar", "_law_least", "_law_most", "_law_rooms_here"], [true, false, false, false], 11, b_law_new_home⟩
def n_law_new_home : List Str := ["_law_jar", "_law_least", "_law_most", "_law_rooms_here", "_law_folk", "_law_halls", "_law_k", "_law_dense", "_law_likes", "_law_some", "_law_spare"]
def e0_law_all_lain : E := (.lc [5] (.nm 5) (.seq (.var 2)) (.so (.cmp .notin (.var 5) (.var 4))) (.bin .add (.var 4) (.tup (.cons (.var 5) .nil))))
def b1_law_all_lain : Ss := (.cons (.ex (.bx .extend 3 e0_law_all_lain))
    .nil)
def s2_law_all_lain : S := (.for_ (.nm 4) (.seq (.var 1)) b1_law_all_lain)
def b3_law_all_lain : Ss := (.cons (.asg (.nm 3) (.lst .nil))
    (.cons s2_law_all_lain
    (.cons (.asg (.nm 1) (.var 3))
    .nil)))
def s4_law_all_lain : S := (.for_ (.nm 2) (.seq (.ix (.var 0) (.cst (.int 2)))) b3_law_all_lain)
def b_law_all_lain : Ss := (.cons (.asg (.nm 1) (.lst (.cons (.tup .nil) .nil)))
    (.cons s4_law_all_lain
    (.cons (.ret (.var 1))
    .nil)))
def f_law_all_lain : Fn := ⟨"_law_all_lain", true, ["_law_home"], [false], 6, b_law_all_lain⟩
def n_law_all_lain : List Str := ["_law_home", "_law_found", "_law_some", "_law_longer", "_law_part", "_law_spare"]
def e0_law_full : E := (.lc [8] (.nm 8) (.seq (.var 5)) (.so (.or (.cmp .isin (.var 8) (.ix (.ix (.var 4) (.cst (.int 2))) (.var 7))) (.cmp .eq (.var 8) (.ix (.var 5) (.var 7))))) (.var 8))
def b1_law_full : Ss := (.cons (.ex (.bx .append 6 (.bi .tuple (.cons e0_law_full .nil))))
    .nil)
def s2_law_full : S := (.for_ (.nm 7) (.rng1 (.bi .len (.cons (.ix (.var 4) (.cst (.int 0))) .nil))) b1_law_full)
def b_law_full : Ss := (.cons (.asg (.nm 4) (.call 22 (.cons (.var 0) (.cons (.var 1) (.cons (.var 2) (.cons (.var 3) .nil))))))
    (.cons (.ite (.cmp .ne (.call 23 (.cons (.var 4) .nil)) (.lst .nil)) (.cons (.ret (.var 4))
    .nil) .nil)
    (.cons (.asg (.nm 5) (.ife (.cmp .ge (.bi .len (.cons (.ix (.var 4) (.cst (.int 1))) .nil)) (.bi .len (.cons (.ix (.var 4) (.cst (.int 0))) .nil))) (.ix (.var 4) (.cst (.int 1))) (.call 21 (.cons (.var 0) (.cons (.bi .len (.cons (.ix (.var 4) (.cst (.int 0))) .nil)) (.cons (.cst (.bl false)) .nil))))))
    (.cons (.asg (.nm 6) (.lst .nil))
    (.cons s2_law_full
    (.cons (.ret (.tup (.cons (.ix (.var 4) (.cst (.int 0))) (.cons (.var 5) (.cons (.bi .tuple (.cons (.var 6) .nil)) .nil)))))
    .nil))))))
def f_law_full : Fn := ⟨"_law_full", true, ["_law_jar", "_law_least", "_law_most", "_law_rooms_here"], [true, false, false, false], 9, b_law_full⟩
def n_law_full : List Str := ["_law_jar", "_law_least", "_law_most", "_law_rooms_here", "_law_home", "_law_halls", "_law_likes", "_law_k", "_law_spare"]
def b_law_made : Ss := (.cons (.ret (.make 0 (.cons (.ix (.var 0) (.cst (.int 0))) (.cons (.ix (.var 0) (.cst (.int 1))) (.cons (.ix (.var 0) (.cst (.int 2))) .nil)))))
    .nil)
def f_law_made : Fn := ⟨"_law_made", true, ["_law_home"], [false], 1, b_law_made⟩
def n_law_made : List Str := ["_law_home"]
def b0_law_let_moves : Ss := (.cons (.ite (.cmp .notin (.var 4) (.var 1)) (.cons (.ex (.bx .append 2 (.tup (.cons (.tup (.cons (.ix (.ix (.var 0) (.cst (.int 0))) (.var 3)) (.cons (.var 4) .nil))) (.cons (.bin .add (.bin .add (.sli (.var 1) .no (.so (.var 3))) (.tup (.cons (.var 4) .nil))) (.sli (.var 1) (.so (.bin .add (.var 3) (.cst (.int 1)))) .no)) .nil)))))
    .nil) .nil)
    .nil)
def s1_law_let_moves : S := (.for_ (.nm 4) (.seq (.ix (.ix (.var 0) (.cst (.int 2))) (.var 3))) b0_law_let_moves)
def b2_law_let_moves : Ss := (.cons s1_law_let_moves
    .nil)
def s3_law_let_moves : S := (.for_ (.nm 3) (.rng1 (.bi .len (.cons (.ix (.var 0) (.cst (.int 0))) .nil))) b2_law_let_moves)
def b_law_let_moves : Ss := (.cons (.asg (.nm 2) (.lst .nil))
    (.cons s3_law_let_moves
    (.cons (.ret (.var 2))
    .nil)))
def f_law_let_moves : Fn := ⟨"_law_let_moves", true, ["_law_home", "_law_spot"], [false, false], 5, b_law_let_moves⟩
def n_law_let_moves : List Str := ["_law_home", "_law_spot", "_law_found", "_law_k", "_law_spare"]
def b_law_pick : Ss := (.cons (.ret (.ix (.var 1) (.call 20 (.cons (.var 0) (.cons (.bi .len (.cons (.var 1) .nil)) .nil)))))
    .nil)
def f_law_pick : Fn := ⟨"_law_pick", true, ["_law_jar", "_law_things"], [true, false], 2, b_law_pick⟩
def n_law_pick : List Str := ["_law_jar", "_law_things"]
def e0_law_right : E := (.lc [13, 12] (.tu [13, 12]) (.seq (.call 26 (.cons (.var 1) (.cons (.var 5) .nil)))) .no (.var 13))
def b1_law_right : Ss := (.cons (.asg (.nm 9) (.cmp .isin (.tup (.cons (.ix (.ix (.var 1) (.cst (.int 0))) (.var 7)) (.cons (.var 8) .nil))) (.var 6)))
    (.cons (.asg (.nm 10) (.ix (.ix (.var 1) (.cst (.int 0))) (.var 7)))
    (.cons (.asg (.nm 11) (.lst (.cons (.call 17 (.cons (.var 3) (.cons (.var 5) (.cons (.var 10) (.cons (.var 8) .nil))))) (.cons (.callK 17 [3, 2, 1, 0] (.cons (.var 8) (.cons (.var 10) (.cons (.var 5) (.cons (.var 3) .nil))))) .nil))))
    (.cons (.ite (.cmp .ne (.bi .repr (.cons (.var 11) .nil)) (.bi .repr (.cons (.lst (.cons (.var 9) (.cons (.var 9) .nil))) .nil))) (.cons (.ret (.cst (.bl false)))
    .nil) .nil)
    (.cons (.asg (.nm 12) (.bin .add (.bin .add (.sli (.var 5) .no (.so (.var 7))) (.tup (.cons (.var 8) .nil))) (.sli (.var 5) (.so (.bin .add (.var 7) (.cst (.int 1)))) .no)))
    (.cons (.ite (.and (.var 9) (.notT (.call 14 (.cons (.var 3) (.cons (.var 12) .nil))))) (.cons (.ret (.cst (.bl false)))
    .nil) .nil)
    .nil))))))
def s2_law_right : S := (.for_ (.nm 8) (.seq (.ix (.var 1) (.cst (.int 1)))) b1_law_right)
def b3_law_right : Ss := (.cons s2_law_right
    .nil)
def s4_law_right : S := (.for_ (.nm 7) (.rng1 (.bi .len (.cons (.ix (.var 1) (.cst (.int 0))) .nil))) b3_law_right)
def b5_law_right : Ss := (.cons (.asg (.nm 5) (.call 27 (.cons (.var 0) (.cons (.var 4) .nil))))
    (.cons (.asg (.nm 6) e0_law_right)
    (.cons s4_law_right
    .nil)))
def s6_law_right : S := (.for_ (.nm 2) (.rng1 (.cst (.int 3))) b5_law_right)
def b_law_right : Ss := (.cons (.asg (.nm 1) (.call 24 (.cons (.var 0) (.cons (.cst (.int 1)) (.cons (.cst (.int 5)) (.cons (.cst (.int 6)) .nil))))))
    (.cons (.par [3, 4] (.cons (.call 25 (.cons (.var 1) .nil)) (.cons (.call 23 (.cons (.var 1) .nil)) .nil)))
    (.cons s6_law_right
    (.cons (.ret (.cst (.bl true)))
    .nil))))
def f_law_right : Fn := ⟨"_law_right", true, ["_law_jar"], [true], 14, b_law_right⟩
def n_law_right : List Str := ["_law_jar", "_law_home", "_law_turn", "_law_mine", "_law_all_here", "_law_spot", "_law_moves", "_law_k", "_law_spare", "_law_due", "_law_who_here", "_law_told", "_law_there", "_law_move"]
def e0_law : E := (.lc [1] (.nm 1) (.rng1 (.bi .max2 (.cons (.cst (.int 2)) (.cons (.bi .min2 (.cons (.bi .len (.cons (.var 0) .nil)) (.cons (.cst (.int 5)) .nil))) .nil)))) (.so (.not (.call 28 (.cons (.call 19 (.cons (.call 18 (.cons (.var 0) (.cons (.var 1) .nil))) .nil)) .nil)))) (.var 1))
def b_law : Ss := (.cons (.ret (.cmp .eq e0_law (.lst .nil)))
    .nil)
def f_law : Fn := ⟨"law", true, ["_law_cells"], [false], 2, b_law⟩
def n_law : List Str := ["_law_cells", "_law_k"]
def Pg0 : Pg := ⟨[f_is_name, f_wrong_name, f_is_ascending, f_is_one_of, f_check_guests, f_check_rooms, f_check_accepted, f_House_init, f_House_place_of, f_House_check_room, f_House_accepts, f_check_house, f_are_places, f_is_good, f_is_placing, f_check_placing, f_frees, f_lets, f_law_cell, f_law_well, f_law_dip, f_law_names, f_law_new_home, f_law_all_lain, f_law_full, f_law_made, f_law_let_moves, f_law_pick, f_law_right, f_law], [⟨"House", 7, [("place_of", 8), ("check_room", 9), ("accepts", 10)]⟩], [("MOST_NAME", (.int 8)), ("LETTERS", (.str "abcdefghijklmnopqrstuvwxyz")), ("MOST_GUESTS", (.int 6)), ("MOST_ROOMS", (.int 8))], ["isinstance", "str", "len", "all", "enumerate", "tuple", "range", "dict", "zip", "int", "abs", "divmod", "max", "min", "repr"], ["guests", "rooms", "accepted", "lists"], [(17, ["room", "guest", "placing", "house"], 0, [3, 2, 1, 0])], 4000⟩
abbrev i_is_name : Nat := 0
abbrev i_wrong_name : Nat := 1
abbrev i_is_ascending : Nat := 2
abbrev i_is_one_of : Nat := 3
abbrev i_check_guests : Nat := 4
abbrev i_check_rooms : Nat := 5
abbrev i_check_accepted : Nat := 6
abbrev i_House_init : Nat := 7
abbrev i_House_place_of : Nat := 8
abbrev i_House_check_room : Nat := 9
abbrev i_House_accepts : Nat := 10
abbrev i_check_house : Nat := 11
abbrev i_are_places : Nat := 12
abbrev i_is_good : Nat := 13
abbrev i_is_placing : Nat := 14
abbrev i_check_placing : Nat := 15
abbrev i_frees : Nat := 16
abbrev i_lets : Nat := 17
abbrev i_law_cell : Nat := 18
abbrev i_law_well : Nat := 19
abbrev i_law_dip : Nat := 20
abbrev i_law_names : Nat := 21
abbrev i_law_new_home : Nat := 22
abbrev i_law_all_lain : Nat := 23
abbrev i_law_full : Nat := 24
abbrev i_law_made : Nat := 25
abbrev i_law_let_moves : Nat := 26
abbrev i_law_pick : Nat := 27
abbrev i_law_right : Nat := 28
abbrev i_law : Nat := 29
theorem mt_is_name : mtOf Pg0 0 = [false] := rfl
theorem mt_wrong_name : mtOf Pg0 1 = [false, false, false] := rfl
theorem mt_is_ascending : mtOf Pg0 2 = [false, false] := rfl
theorem mt_is_one_of : mtOf Pg0 3 = [false, false] := rfl
theorem mt_check_guests : mtOf Pg0 4 = [false] := rfl
theorem mt_check_rooms : mtOf Pg0 5 = [false, false] := rfl
theorem mt_check_accepted : mtOf Pg0 6 = [false, false, false] := rfl
theorem mt_House_init : mtOf Pg0 7 = [true, false, false, false] := rfl
theorem mt_House_place_of : mtOf Pg0 8 = [false, false] := rfl
theorem mt_House_check_room : mtOf Pg0 9 = [false, false] := rfl
theorem mt_House_accepts : mtOf Pg0 10 = [false, false, false] := rfl
theorem mt_check_house : mtOf Pg0 11 = [false] := rfl
theorem mt_are_places : mtOf Pg0 12 = [false, false, false] := rfl
theorem mt_is_good : mtOf Pg0 13 = [false, false] := rfl
theorem mt_is_placing : mtOf Pg0 14 = [false, false] := rfl
theorem mt_check_placing : mtOf Pg0 15 = [false, false] := rfl
theorem mt_frees : mtOf Pg0 16 = [false, false] := rfl
theorem mt_lets : mtOf Pg0 17 = [false, false, false, false] := rfl
theorem mt_law_cell : mtOf Pg0 18 = [false, false] := rfl
theorem mt_law_well : mtOf Pg0 19 = [false] := rfl
theorem mt_law_dip : mtOf Pg0 20 = [true, false] := rfl
theorem mt_law_names : mtOf Pg0 21 = [true, false, false] := rfl
theorem mt_law_new_home : mtOf Pg0 22 = [true, false, false, false] := rfl
theorem mt_law_all_lain : mtOf Pg0 23 = [false] := rfl
theorem mt_law_full : mtOf Pg0 24 = [true, false, false, false] := rfl
theorem mt_law_made : mtOf Pg0 25 = [false] := rfl
theorem mt_law_let_moves : mtOf Pg0 26 = [false, false] := rfl
theorem mt_law_pick : mtOf Pg0 27 = [true, false] := rfl
theorem mt_law_right : mtOf Pg0 28 = [true] := rfl
theorem mt_law : mtOf Pg0 29 = [false] := rfl
theorem in_House : initOf Pg0 0 = 7 := rfl
theorem cl_len : Pg0.cls.length = 1 := rfl
end VI
namespace VI
open PySem L2
/-! data -/
def llD (a : List (List Str)) : D := .lst (a.map tD)
theorem pyAll_strs : ∀ l : List Str, pyAll (l.map D.str) = some (l.map PyData.str)
  | [] => by simp [pyAll]
  | x :: l => by simp [pyAll, py, pyAll_strs l]
theorem py_tD (l : List Str) : py (tD l) = some (.tuple (l.map .str)) := by simp [tD, py, pyAll_strs]
theorem pyAll_tD : ∀ a : List (List Str), pyAll (a.map tD) = some (a.map fun l => PyData.tuple (l.map .str))
  | [] => by simp [pyAll]
  | x :: l => by simp [pyAll, py_tD, pyAll_tD l]
theorem eqD_int (i j : Int) : eqD (.int i) (.int j) = some (decide (i = j)) := by
  have h : (SeqAt.shaped (.int i) = true ∧ SeqAt.shaped (.int j) = true) := ⟨by simp [SeqAt.shaped, PyData.canLay0, PyData.depth], by simp [SeqAt.shaped, PyData.canLay0, PyData.depth]⟩
  simp only [eqD, py, if_pos h, PyData.eqv]
  by_cases q : i = j
  · simp [q]
  · simp [q]
theorem eqD_str (i j : Str) : eqD (.str i) (.str j) = some (decide (i = j)) := by simp [eqD, py]
theorem lay_strs : ∀ {l : List Str}, (∀ x ∈ l, PyData.strOk x = true) → PyData.canLayAll0 (l.map PyData.str) = true
  | [], _ => by simp [PyData.canLayAll0]
  | x :: l, h => by simp [PyData.canLayAll0, PyData.canLay0, h x (by simp), lay_strs (l := l) fun y hy => h y (by simp [hy])]
theorem depth_strs : ∀ l : List Str, PyData.depthAll (l.map PyData.str) ≤ 1
  | [] => by simp [PyData.depthAll]
  | x :: l => by have := depth_strs l; simp [PyData.depthAll, PyData.depth]; omega
theorem shaped_tD {l : List Str} (h : ∀ x ∈ l, PyData.strOk x = true) : SeqAt.shaped (.tuple (l.map .str)) = true := by
  have := depth_strs l
  simp [SeqAt.shaped, PyData.canLay0, lay_strs h, PyData.depth]; omega
theorem eqvAll_strs : ∀ (l m : List Str), PyData.eqvAll (l.map .str) (m.map .str) = decide (l = m)
  | [], [] => by simp [PyData.eqvAll]
  | [], _ :: _ => by simp [PyData.eqvAll]
  | _ :: _, [] => by simp [PyData.eqvAll]
  | x :: l, y :: m => by
    simp only [List.map_cons, PyData.eqvAll, PyData.eqv, eqvAll_strs l m]
    by_cases q : x = y
    · simp [q]
    · simp [q]
theorem eqD_tD {l m : List Str} (h : ∀ x ∈ l, PyData.strOk x = true) (h2 : ∀ x ∈ m, PyData.strOk x = true) : eqD (tD l) (tD m) = some (decide (l = m)) := by
  simp only [eqD, py_tD, shaped_tD h, shaped_tD h2, and_self, if_true, PyData.eqv, eqvAll_strs]
theorem txts_map : ∀ l : List Str, txts (l.map D.str) = some l
  | [] => rfl
  | x :: l => by simp [txts, txts_map l]
theorem flats_map : ∀ l : List Str, flats (l.map D.str) = some (l.map V.str)
  | [] => rfl
  | x :: l => by simp [flats, scalD, flats_map l]
theorem inV_strs (x : Str) (l : List Str) : inV (V.str x) (l.map V.str) = decide (x ∈ l) := by
  unfold inV
  rw [List.any_map]
  by_cases h : x ∈ l
  · rw [decide_eq_true h, List.any_eq_true]
    exact ⟨x, h, by simp [eqV]⟩
  · rw [decide_eq_false h, List.any_eq_false]
    intro y hy
    simp only [Function.comp, eqV]
    intro e
    have : y = x := by simpa using e
    exact h (this ▸ hy)
theorem inD_tD (x : Str) (l : List Str) : inD (.str x) (tD l) = some (decide (x ∈ l)) := by
  simp [inD, tD, scalD, flats_map, inV_strs]
theorem inD_lst (x : Str) (l : List Str) : inD (.str x) (.lst (l.map .str)) = some (decide (x ∈ l)) := by
  simp [inD, scalD, flats_map, inV_strs]
theorem cut_lo (l : List D) : cutD l none (some 0) = [] := by simp [cutD, HT.sIx]
theorem cut_to (l : List D) (n : Nat) : cutD l none (some (n : Int)) = l.take n := by
  simp only [cutD, HT.sIx_none, HT.sIx_nat, Nat.sub_zero, List.drop_zero]
  by_cases h : n ≤ l.length
  · rw [Nat.min_eq_left h]
  · rw [Nat.min_eq_right (by omega), List.take_of_length_le (Nat.le_refl _), List.take_of_length_le (by omega)]
theorem cut_from (l : List D) (n : Nat) : cutD l (some (n : Int)) none = l.drop n := by
  simp only [cutD, HT.sIx_none, HT.sIx_nat]
  by_cases h : n ≤ l.length
  · rw [Nat.min_eq_left h, List.take_of_length_le (by simp)]
  · rw [Nat.min_eq_right (by omega), List.drop_of_length_le (by omega), List.drop_of_length_le (by omega)]
    simp
def jarD (a b c : Int) : D := .lst [.int a, .int b, .int c]
/-- what draws leave -/
def Jar (d : D) : Prop := ∃ a b c : Int, 0 ≤ a ∧ d = jarD a b c
theorem r_dip {k : Nat} {j : D} {n : Int} (hj : Jar j) (hn : 0 < n) (hn2 : n < 1073741824) :
    ∃ d j', Jar j' ∧ 0 ≤ d ∧ d < n ∧ runN Pg0 (k + 1) i_law_dip [.ow true j, .va (.int n)] = some (.dt (.int d), [.ow true j', .no]) := by
  obtain ⟨a, b, c, ha, rfl⟩ := hj
  rw [run_of (fn := f_law_dip) rfl rfl]
  have m1 : 0 ≤ (b + 770551 * (c + 1)) % 2147483587 ∧ (b + 770551 * (c + 1)) % 2147483587 < 2147483587 := ⟨Int.emod_nonneg _ (by decide), Int.emod_lt_of_pos _ (by decide)⟩
  generalize hm : (b + 770551 * (c + 1)) % 2147483587 = m at m1
  have cm1 : CMul 770551 (c + 1) := .inl ⟨by decide, by decide⟩
  have cm2 : CMul m m := .inl ⟨by omega, by omega⟩
  have cm3 : CMul 2753159 m := .inl ⟨by decide, by decide⟩
  have cd : CDiv a n := ⟨hn, hn2⟩
  have cd2 : ∀ x, CDiv x 103 := fun x => ⟨by decide, by decide⟩
  by_cases h0 : a = 0
  · subst h0
    refine ⟨(((m * m + 2753159 * m + 519371) % 2147483587) / 103) % n, _, ⟨0, (m * m + 2753159 * m + 519371) % 2147483587, c + 1, by omega, rfl⟩, Int.emod_nonneg _ (by omega), Int.emod_lt_of_pos _ hn, ?_⟩
    simp [startE, exSs, exS, evE, evV, evPs, evR, evA, evO, evC, evI, exT, consM, setIxM, frzM, op2, pz, varM, opD, ixR, ixD, binD, frz, isOw, setAt, asgM, keepM, keepR, putSl, free, biM, biD, biInt, len_tup, len_lst, len_scr, len_dic, len_str, biTuple, biList, biAbs, biMax2, biMin2, biDivmod, consP, consR, consV, nilR, nilD, iteM, boolM, cmpR, cmpD, retM, retNM, endR, clean1, clean2, clean3, clean4, clean5, lentAt, Ct.d, putTg, putAll, parPut, parM, asgTuM, asgTM, tNilM, tNmM, tIxM, exM, nextM, ifeM, andM, orM, notM, negM, isNM, notNM, isTM, notTM, chainM, noO, soM, sliM, sliD, fldM, tupM, lstM, dataM, bmM, bmD, lendM, callM, callF, argSl, lentBack, slotsOf, makeM, insM, permM, permute, dataR, isM, isI_tup, isI_str, isI_tD, isI_ttD, isI_ins, len_tD, len_ttD, seqM, seqD, enmM, enmD, zipM, zipD, forM, dzM, trueM, mt_is_name, mt_wrong_name, mt_is_ascending, mt_is_one_of, mt_check_guests, mt_check_rooms, mt_check_accepted, mt_House_init, mt_House_place_of, mt_House_check_room, mt_House_accepts, mt_check_house, mt_are_places, mt_is_good, mt_is_placing, mt_check_placing, mt_frees, mt_lets, mt_law_cell, mt_law_well, mt_law_dip, mt_law_names, mt_law_new_home, mt_law_all_lain, mt_law_full, mt_law_made, mt_law_let_moves, mt_law_pick, mt_law_right, mt_law, in_House, cl_len, atI, ixN, f_law_dip, b_law_dip, jarD, eqD_int, hm, cm1, cm2, cm3, cd2, hn]
  · refine ⟨a % n, _, ⟨a / n, (m * m + 2753159 * m + 519371) % 2147483587, c + 1, Int.ediv_nonneg ha (by omega), rfl⟩, Int.emod_nonneg _ (by omega), Int.emod_lt_of_pos _ hn, ?_⟩
    simp [startE, exSs, exS, evE, evV, evPs, evR, evA, evO, evC, evI, exT, consM, setIxM, frzM, op2, pz, varM, opD, ixR, ixD, binD, frz, isOw, setAt, asgM, keepM, keepR, putSl, free, biM, biD, biInt, len_tup, len_lst, len_scr, len_dic, len_str, biTuple, biList, biAbs, biMax2, biMin2, biDivmod, consP, consR, consV, nilR, nilD, iteM, boolM, cmpR, cmpD, retM, retNM, endR, clean1, clean2, clean3, clean4, clean5, lentAt, Ct.d, putTg, putAll, parPut, parM, asgTuM, asgTM, tNilM, tNmM, tIxM, exM, nextM, ifeM, andM, orM, notM, negM, isNM, notNM, isTM, notTM, chainM, noO, soM, sliM, sliD, fldM, tupM, lstM, dataM, bmM, bmD, lendM, callM, callF, argSl, lentBack, slotsOf, makeM, insM, permM, permute, dataR, isM, isI_tup, isI_str, isI_tD, isI_ttD, isI_ins, len_tD, len_ttD, seqM, seqD, enmM, enmD, zipM, zipD, forM, dzM, trueM, mt_is_name, mt_wrong_name, mt_is_ascending, mt_is_one_of, mt_check_guests, mt_check_rooms, mt_check_accepted, mt_House_init, mt_House_place_of, mt_House_check_room, mt_House_accepts, mt_check_house, mt_are_places, mt_is_good, mt_is_placing, mt_check_placing, mt_frees, mt_lets, mt_law_cell, mt_law_well, mt_law_dip, mt_law_names, mt_law_new_home, mt_law_all_lain, mt_law_full, mt_law_made, mt_law_let_moves, mt_law_pick, mt_law_right, mt_law, in_House, cl_len, atI, ixN, f_law_dip, b_law_dip, jarD, eqD_int, hm, cm1, cm2, cm3, cd2, cd, hn, h0]
end VI
namespace VI
open PySem L2
def lets0 : Str := "abcdefghijklmnopqrstuvwxyz"
structure IsNm (x : Str) : Prop where
  lo : 1 ≤ x.length
  hi : x.length ≤ 8
  no : x ≠ "none"
  ls : ∀ c ∈ x.cps.toList, c ∈ lets0.cps.toList
  ok : PyData.strOk x = true
theorem in_lets : ∀ c ∈ lets0.cps.toList, inD (.str ⟨#[c]⟩) (.str lets0) = some true := by decide +kernel
theorem IsNm.line {x : Str} (h : IsNm x) : x.length ≤ sizeLine := Nat.le_trans h.hi (by decide)
theorem seq_str {x : Str} {env : Env'} {m : Env' → Option (R × Env')} (h : m env = some (.dt (.str x), env)) : seqM m env = some (x.cps.toList.map fun c => .str ⟨#[c]⟩, env) := by
  simp [seqM, frzM, h, frz, seqD]
theorem map_true {α : Type} (l : List α) : bools (l.map fun _ => D.bl true) = some (l.map fun _ => true) := by
  have := bools_map (l.map fun _ => true)
  rwa [List.map_map] at this
theorem r_is_name {k : Nat} {x : Str} (h : IsNm x) : runN Pg0 (k + 1) i_is_name [.va (.str x)] = some (.dt (.bl true), [.no]) := by
  rw [run_of (fn := f_is_name) rfl rfl]
  have hl := h.line
  have hc : evE Pg0 (runN Pg0 k) e0_is_name [.va (.str x), .no] = some (.nw (.lst (x.cps.toList.map fun _ => .bl true)), [.va (.str x), .no]) := by
    have w := lcM_map (vs := [1]) (t := .nm 1) (it := seqM (varM 0)) (e := op2 (cmpR .isin) (varM 1) (fun env => some (.dt (.str lets0), env))) (env := [.va (.str x), .no]) (fun _ => .bl true) (seq_str rfl) rfl (by simp only [List.length_map, Array.length_toList]; exact hl) (fun y hy => by
      obtain ⟨c, hc, rfl⟩ := List.mem_map.mp hy
      refine ⟨_, [.va (.str x), .va (.str ⟨#[c]⟩)], rfl, ?_, rfl, rfl⟩
      have e := in_lets c (h.ls c hc)
      simp [startE, exSs, exS, evE, evV, evPs, evR, evA, evO, evC, evI, exT, consM, setIxM, frzM, op2, pz, varM, opD, ixR, ixD, binD, frz, isOw, setAt, asgM, keepM, keepR, putSl, free, biM, biD, biInt, len_tup, len_lst, len_scr, len_dic, len_str, biTuple, biList, biAbs, biMax2, biMin2, biDivmod, consP, consR, consV, nilR, nilD, iteM, boolM, cmpR, cmpD, retM, retNM, endR, clean1, clean2, clean3, clean4, clean5, lentAt, Ct.d, putTg, putAll, parPut, parM, asgTuM, asgTM, tNilM, tNmM, tIxM, exM, nextM, ifeM, andM, orM, notM, negM, isNM, notNM, isTM, notTM, chainM, noO, soM, sliM, sliD, fldM, tupM, lstM, dataM, bmM, bmD, lendM, callM, callF, argSl, lentBack, slotsOf, makeM, insM, permM, permute, dataR, isM, isI_tup, isI_str, isI_tD, isI_ttD, isI_ins, len_tD, len_ttD, seqM, seqD, enmM, enmD, zipM, zipD, forM, dzM, trueM, mt_is_name, mt_wrong_name, mt_is_ascending, mt_is_one_of, mt_check_guests, mt_check_rooms, mt_check_accepted, mt_House_init, mt_House_place_of, mt_House_check_room, mt_House_accepts, mt_check_house, mt_are_places, mt_is_good, mt_is_placing, mt_check_placing, mt_frees, mt_lets, mt_law_cell, mt_law_well, mt_law_dip, mt_law_names, mt_law_new_home, mt_law_all_lain, mt_law_full, mt_law_made, mt_law_let_moves, mt_law_pick, mt_law_right, mt_law, in_House, cl_len, wipeE, e])
    simp only [List.map_map] at w
    exact w
  have e1 : (1 : Int) ≤ (x.length : Int) := by have := h.lo; omega
  have e2 : (x.length : Int) ≤ 8 := by have := h.hi; omega
  simp [startE, exSs, exS, evE, evV, evPs, evR, evA, evO, evC, evI, exT, consM, setIxM, frzM, op2, pz, varM, opD, ixR, ixD, binD, frz, isOw, setAt, asgM, keepM, keepR, putSl, free, biM, biD, biInt, len_tup, len_lst, len_scr, len_dic, len_str, biTuple, biList, biAbs, biMax2, biMin2, biDivmod, consP, consR, consV, nilR, nilD, iteM, boolM, cmpR, cmpD, retM, retNM, endR, clean1, clean2, clean3, clean4, clean5, lentAt, Ct.d, putTg, putAll, parPut, parM, asgTuM, asgTM, tNilM, tNmM, tIxM, exM, nextM, ifeM, andM, orM, notM, negM, isNM, notNM, isTM, notTM, chainM, noO, soM, sliM, sliD, fldM, tupM, lstM, dataM, bmM, bmD, lendM, callM, callF, argSl, lentBack, slotsOf, makeM, insM, permM, permute, dataR, isM, isI_tup, isI_str, isI_tD, isI_ttD, isI_ins, len_tD, len_ttD, seqM, seqD, enmM, enmD, zipM, zipD, forM, dzM, trueM, mt_is_name, mt_wrong_name, mt_is_ascending, mt_is_one_of, mt_check_guests, mt_check_rooms, mt_check_accepted, mt_House_init, mt_House_place_of, mt_House_check_room, mt_House_accepts, mt_check_house, mt_are_places, mt_is_good, mt_is_placing, mt_check_placing, mt_frees, mt_lets, mt_law_cell, mt_law_well, mt_law_dip, mt_law_names, mt_law_new_home, mt_law_all_lain, mt_law_full, mt_law_made, mt_law_let_moves, mt_law_pick, mt_law_right, mt_law, in_House, cl_len, f_is_name, b_is_name, hl, e1, e2, eqD_str, h.no, hc, biAll_true]
theorem eqD_nat (i : Nat) (j : Int) : eqD (.int (i : Int)) (.int j) = some (decide ((i : Int) = j)) := eqD_int _ _
theorem take_tD (l : List Str) (i : Nat) : cutD (l.map D.str) none (some (i : Int)) = (l.take i).map D.str := by rw [cut_to, List.map_take]
theorem r_wrong_name {k : Nat} {l o : List Str} {m : Int} (hn : ∀ x ∈ l, IsNm x) (hnd : l.Nodup) (hm : (l.length : Int) ≤ m) (ho : ∀ x ∈ l, x ∉ o) :
    runN Pg0 (k + 2) i_wrong_name [.va (tD l), .va (.int m), .va (tD o)] = some (.dt .non, [.no, .no, .no]) := by
  rw [run_of (fn := f_wrong_name) rfl rfl]
  have hs : ∃ a b, exS Pg0 (runN Pg0 (k + 1)) s1_wrong_name [.va (tD l), .va (.int m), .va (tD o), .no, .no] = some (.next, [.va (tD l), .va (.int m), .va (tD o), a, b]) := by
    have w := forL_inv (t := .tu [3, 4]) (b := exSs Pg0 (runN Pg0 (k + 1)) b0_wrong_name) (fun pre env => ∃ a b, env = [.va (tD l), .va (.int m), .va (tD o), a, b] ∧ Pl a ∧ Pl b) (fun _ _ => False)
      ((l.map D.str).zipIdx.map fun p => D.tup [.int (p.2 : Nat), p.1]) ((l.map D.str).zipIdx.map fun p => D.tup [.int (p.2 : Nat), p.1]) [] [.va (tD l), .va (.int m), .va (tD o), .no, .no] rfl ⟨_, _, rfl, .no, .no⟩ (fun pre x post env q ⟨a, b, e, f1, f2⟩ => by
        subst e
        obtain ⟨hi, hx⟩ := enm_at q
        rw [List.length_map] at hi
        rw [List.getElem_map] at hx
        subst hx
        have g1 : IsNm l[pre.length] := hn _ (List.getElem_mem hi)
        have g2 : l[pre.length] ∉ l.take pre.length := nodup_take hnd hi
        have g3 : ¬ ((pre.length : Int) = m) := by omega
        have g4 := ho _ (List.getElem_mem hi)
        have r1 := r_is_name (k := k) g1
        have e1 := inD_tD l[pre.length] (l.take pre.length)
        have e2 := inD_tD l[pre.length] o
        refine ⟨[.va (tD l), .va (.int m), .va (tD o), .va (.int (pre.length : Nat)), .va (.str l[pre.length])], .next, [.va (tD l), .va (.int m), .va (tD o), .va (.int (pre.length : Nat)), .va (.str l[pre.length])], ?_, ?_, fun _ => ⟨_, _, rfl, .va _, .va _⟩, by simp, fun r h => nomatch h⟩
        · rcases f1 with rfl | ⟨d, rfl⟩ <;> rcases f2 with rfl | ⟨d', rfl⟩ <;> rfl
        · unfold tD at e1 e2
          rw [List.map_take] at e1
          simp [startE, exSs, exS, evE, evV, evPs, evR, evA, evO, evC, evI, exT, consM, setIxM, frzM, op2, pz, varM, opD, ixR, ixD, binD, frz, isOw, setAt, asgM, keepM, keepR, putSl, free, biM, biD, biInt, len_tup, len_lst, len_scr, len_dic, len_str, biTuple, biList, biAbs, biMax2, biMin2, biDivmod, consP, consR, consV, nilR, nilD, iteM, boolM, cmpR, cmpD, retM, retNM, endR, clean1, clean2, clean3, clean4, clean5, lentAt, Ct.d, putTg, putAll, parPut, parM, asgTuM, asgTM, tNilM, tNmM, tIxM, exM, nextM, ifeM, andM, orM, notM, negM, isNM, notNM, isTM, notTM, chainM, noO, soM, sliM, sliD, fldM, tupM, lstM, dataM, bmM, bmD, lendM, callM, callF, argSl, lentBack, slotsOf, makeM, insM, permM, permute, dataR, isM, isI_tup, isI_str, isI_tD, isI_ttD, isI_ins, len_tD, len_ttD, seqM, seqD, enmM, enmD, zipM, zipD, forM, dzM, trueM, mt_is_name, mt_wrong_name, mt_is_ascending, mt_is_one_of, mt_check_guests, mt_check_rooms, mt_check_accepted, mt_House_init, mt_House_place_of, mt_House_check_room, mt_House_accepts, mt_check_house, mt_are_places, mt_is_good, mt_is_placing, mt_check_placing, mt_frees, mt_lets, mt_law_cell, mt_law_well, mt_law_dip, mt_law_names, mt_law_new_home, mt_law_all_lain, mt_law_full, mt_law_made, mt_law_let_moves, mt_law_pick, mt_law_right, mt_law, in_House, cl_len, b0_wrong_name, eqD_int, g3, r1, tD, cut_to, e1, e2, g2, g4])
    obtain ⟨fl, env', k1, k2 | ⟨r, _, k3⟩⟩ := w
    · obtain ⟨rfl, a, b, rfl, _⟩ := k2
      refine ⟨a, b, ?_⟩
      simp only [s1_wrong_name, exS, forM, evI, enmM, frzM, evE, varM, List.getElem?_cons_zero, frz, enmD, tD, Option.map]
      exact k1
    · exact k3.elim
  obtain ⟨a, b, hs⟩ := hs
  have st : startE f_wrong_name.n [.va (tD l), .va (.int m), .va (tD o)] = [.va (tD l), .va (.int m), .va (tD o), .no, .no] := rfl
  rw [st]
  simp [f_wrong_name, b_wrong_name, exSs, consM, hs]
  simp [startE, exSs, exS, evE, evV, evPs, evR, evA, evO, evC, evI, exT, consM, setIxM, frzM, op2, pz, varM, opD, ixR, ixD, binD, frz, isOw, setAt, asgM, keepM, keepR, putSl, free, biM, biD, biInt, len_tup, len_lst, len_scr, len_dic, len_str, biTuple, biList, biAbs, biMax2, biMin2, biDivmod, consP, consR, consV, nilR, nilD, iteM, boolM, cmpR, cmpD, retM, retNM, endR, clean1, clean2, clean3, clean4, clean5, lentAt, Ct.d, putTg, putAll, parPut, parM, asgTuM, asgTM, tNilM, tNmM, tIxM, exM, nextM, ifeM, andM, orM, notM, negM, isNM, notNM, isTM, notTM, chainM, noO, soM, sliM, sliD, fldM, tupM, lstM, dataM, bmM, bmD, lendM, callM, callF, argSl, lentBack, slotsOf, makeM, insM, permM, permute, dataR, isM, isI_tup, isI_str, isI_tD, isI_ttD, isI_ins, len_tD, len_ttD, seqM, seqD, enmM, enmD, zipM, zipD, forM, dzM, trueM, mt_is_name, mt_wrong_name, mt_is_ascending, mt_is_one_of, mt_check_guests, mt_check_rooms, mt_check_accepted, mt_House_init, mt_House_place_of, mt_House_check_room, mt_House_accepts, mt_check_house, mt_are_places, mt_is_good, mt_is_placing, mt_check_placing, mt_frees, mt_lets, mt_law_cell, mt_law_well, mt_law_dip, mt_law_names, mt_law_new_home, mt_law_all_lain, mt_law_full, mt_law_made, mt_law_let_moves, mt_law_pick, mt_law_right, mt_law, in_House, cl_len]
end VI
namespace VI
open PySem L2
theorem idx_pair {r : List Str} (h : r.Nodup) : r.Pairwise fun a b => r.idxOf a < r.idxOf b := by
  rw [List.pairwise_iff_getElem]
  intro i j hi hj hij
  have e1 : ∀ (i : Nat) (hi : i < r.length), r.idxOf r[i] = i := fun i hi => by
    have h1 := List.idxOf_lt_length_of_mem (List.getElem_mem hi)
    have h2 : r[r.idxOf r[i]] = r[i] := List.getElem_idxOf h1
    rcases Nat.lt_trichotomy (r.idxOf r[i]) i with q | q | q
    · exact (List.pairwise_iff_getElem.mp h _ _ h1 hi q h2).elim
    · exact q
    · exact (List.pairwise_iff_getElem.mp h _ _ hi h1 q h2.symm).elim
  rw [e1 i hi, e1 j hj]
  exact hij
theorem seq_tD {l : List D} {env : Env'} {m : Env' → Option (R × Env')} (h : m env = some (.dt (.tup l), env)) : seqM m env = some (l, env) := by
  simp [seqM, frzM, h, frz, seqD]
theorem all_true (n : Nat) : (List.replicate n true).all id = true := by simp
theorem r_is_ascending {k : Nat} {s r : List Str} (hs : s.Sublist r) (hnd : r.Nodup) (hz : r.length ≤ 1000) :
    runN Pg0 (k + 1) i_is_ascending [.va (tD s), .va (tD r)] = some (.dt (.bl true), [.no, .no]) := by
  rw [run_of (fn := f_is_ascending) rfl rfl]
  have hsz : s.length ≤ 1000 := Nat.le_trans hs.length_le hz
  have hln : s.length ≤ sizeLine := Nat.le_trans hsz (by decide)
  have c0 : evE Pg0 (runN Pg0 k) e0_is_ascending [.va (tD s), .va (tD r), .no, .no, .no] = some (.nw (.lst (s.map fun _ => .bl true)), [.va (tD s), .va (tD r), .no, .no, .no]) := by
    have w := lcM_map (vs := [3]) (t := .nm 3) (it := seqM (varM 0)) (e := andM (isM Pg0.cls.length .isStr (varM 3)) (op2 (cmpR .isin) (varM 3) (varM 1))) (env := [.va (tD s), .va (tD r), .no, .no, .no]) (fun _ => .bl true) (seq_tD rfl) rfl (by simpa using hln) (fun y hy => by
      obtain ⟨x, hx, rfl⟩ := List.mem_map.mp hy
      refine ⟨_, [.va (tD s), .va (tD r), .no, .va (.str x), .no], rfl, ?_, rfl, rfl⟩
      have e := inD_tD x r
      simp [startE, exSs, exS, evE, evV, evPs, evR, evA, evO, evC, evI, exT, consM, setIxM, frzM, op2, pz, varM, opD, ixR, ixD, binD, frz, isOw, setAt, asgM, keepM, keepR, putSl, free, biM, biD, biInt, len_tup, len_lst, len_scr, len_dic, len_str, biTuple, biList, biAbs, biMax2, biMin2, biDivmod, consP, consR, consV, nilR, nilD, iteM, boolM, cmpR, cmpD, retM, retNM, endR, clean1, clean2, clean3, clean4, clean5, lentAt, Ct.d, putTg, putAll, parPut, parM, asgTuM, asgTM, tNilM, tNmM, tIxM, exM, nextM, ifeM, andM, orM, notM, negM, isNM, notNM, isTM, notTM, chainM, noO, soM, sliM, sliD, fldM, tupM, lstM, dataM, bmM, bmD, lendM, callM, callF, argSl, lentBack, slotsOf, makeM, insM, permM, permute, dataR, isM, isI_tup, isI_str, isI_tD, isI_ttD, isI_ins, len_tD, len_ttD, seqM, seqD, enmM, enmD, zipM, zipD, forM, dzM, trueM, mt_is_name, mt_wrong_name, mt_is_ascending, mt_is_one_of, mt_check_guests, mt_check_rooms, mt_check_accepted, mt_House_init, mt_House_place_of, mt_House_check_room, mt_House_accepts, mt_check_house, mt_are_places, mt_is_good, mt_is_placing, mt_check_placing, mt_frees, mt_lets, mt_law_cell, mt_law_well, mt_law_dip, mt_law_names, mt_law_new_home, mt_law_all_lain, mt_law_full, mt_law_made, mt_law_let_moves, mt_law_pick, mt_law_right, mt_law, in_House, cl_len, wipeE, e, hs.subset hx])
    simp only [List.map_map] at w
    exact w
  have c1 : evE Pg0 (runN Pg0 k) e1_is_ascending [.va (tD s), .va (tD r), .no, .no, .no] = some (.nw (.lst (s.map fun x => .int (r.idxOf x : Nat))), [.va (tD s), .va (tD r), .no, .no, .no]) := by
    have w := lcM_map (vs := [3]) (t := .nm 3) (it := seqM (varM 0)) (e := bmM (bmD .index) (dataM (varM 1)) (consP (varM 3) nilR)) (env := [.va (tD s), .va (tD r), .no, .no, .no]) (fun d => match d with | .str x => .int (r.idxOf x : Nat) | _ => .non) (seq_tD rfl) rfl (by simpa using hln) (fun y hy => by
      obtain ⟨x, hx, rfl⟩ := List.mem_map.mp hy
      refine ⟨_, [.va (tD s), .va (tD r), .no, .va (.str x), .no], rfl, ?_, rfl, rfl⟩
      simp [startE, exSs, exS, evE, evV, evPs, evR, evA, evO, evC, evI, exT, consM, setIxM, frzM, op2, pz, varM, opD, ixR, ixD, binD, frz, isOw, setAt, asgM, keepM, keepR, putSl, free, biM, biD, biInt, len_tup, len_lst, len_scr, len_dic, len_str, biTuple, biList, biAbs, biMax2, biMin2, biDivmod, consP, consR, consV, nilR, nilD, iteM, boolM, cmpR, cmpD, retM, retNM, endR, clean1, clean2, clean3, clean4, clean5, lentAt, Ct.d, putTg, putAll, parPut, parM, asgTuM, asgTM, tNilM, tNmM, tIxM, exM, nextM, ifeM, andM, orM, notM, negM, isNM, notNM, isTM, notTM, chainM, noO, soM, sliM, sliD, fldM, tupM, lstM, dataM, bmM, bmD, lendM, callM, callF, argSl, lentBack, slotsOf, makeM, insM, permM, permute, dataR, isM, isI_tup, isI_str, isI_tD, isI_ttD, isI_ins, len_tD, len_ttD, seqM, seqD, enmM, enmD, zipM, zipD, forM, dzM, trueM, mt_is_name, mt_wrong_name, mt_is_ascending, mt_is_one_of, mt_check_guests, mt_check_rooms, mt_check_accepted, mt_House_init, mt_House_place_of, mt_House_check_room, mt_House_accepts, mt_check_house, mt_are_places, mt_is_good, mt_is_placing, mt_check_placing, mt_frees, mt_lets, mt_law_cell, mt_law_well, mt_law_dip, mt_law_names, mt_law_new_home, mt_law_all_lain, mt_law_full, mt_law_made, mt_law_let_moves, mt_law_pick, mt_law_right, mt_law, in_House, cl_len, wipeE, bmIndex, tD, txts_map, hs.subset hx])
    simp only [List.map_map] at w
    exact w
  have c2 : evE Pg0 (runN Pg0 k) e2_is_ascending [.va (tD s), .va (tD r), .ow false (.lst (s.map fun x => .int (r.idxOf x : Nat))), .no, .no] = some (.nw (.lst ((List.range (s.length - 1)).map fun _ => .bl true)), [.va (tD s), .va (tD r), .ow false (.lst (s.map fun x => .int (r.idxOf x : Nat))), .no, .no]) := by
    have w := lcM_map (vs := [4]) (t := .nm 4) (it := evI Pg0 (runN Pg0 k) (.rng1 (.bin .sub (.bi .len (.cons (.var 2) .nil)) (.cst (.int 1))))) (e := evE Pg0 (runN Pg0 k) (.cmp .lt (.ix (.var 2) (.var 4)) (.ix (.var 2) (.bin .add (.var 4) (.cst (.int 1))))))
      (env := [.va (tD s), .va (tD r), .ow false (.lst (s.map fun x => .int (r.idxOf x : Nat))), .no, .no]) (env1 := [.va (tD s), .va (tD r), .ow false (.lst (s.map fun x => .int (r.idxOf x : Nat))), .no, .no]) (xs := (List.range ((s.length : Int) - 1).toNat).map fun (k : Nat) => .int (k : Int)) (fun _ => .bl true) (by
        unfold evI
        exact rng1_ok (by simp [startE, exSs, exS, evE, evV, evPs, evR, evA, evO, evC, evI, exT, consM, setIxM, frzM, op2, pz, varM, opD, ixR, ixD, binD, frz, isOw, setAt, asgM, keepM, keepR, putSl, free, biM, biD, biInt, len_tup, len_lst, len_scr, len_dic, len_str, biTuple, biList, biAbs, biMax2, biMin2, biDivmod, consP, consR, consV, nilR, nilD, iteM, boolM, cmpR, cmpD, retM, retNM, endR, clean1, clean2, clean3, clean4, clean5, lentAt, Ct.d, putTg, putAll, parPut, parM, asgTuM, asgTM, tNilM, tNmM, tIxM, exM, nextM, ifeM, andM, orM, notM, negM, isNM, notNM, isTM, notTM, chainM, noO, soM, sliM, sliD, fldM, tupM, lstM, dataM, bmM, bmD, lendM, callM, callF, argSl, lentBack, slotsOf, makeM, insM, permM, permute, dataR, isM, isI_tup, isI_str, isI_tD, isI_ttD, isI_ins, len_tD, len_ttD, seqM, seqD, enmM, enmD, zipM, zipD, forM, dzM, trueM, mt_is_name, mt_wrong_name, mt_is_ascending, mt_is_one_of, mt_check_guests, mt_check_rooms, mt_check_accepted, mt_House_init, mt_House_place_of, mt_House_check_room, mt_House_accepts, mt_check_house, mt_are_places, mt_is_good, mt_is_placing, mt_check_placing, mt_frees, mt_lets, mt_law_cell, mt_law_well, mt_law_dip, mt_law_names, mt_law_new_home, mt_law_all_lain, mt_law_full, mt_law_made, mt_law_let_moves, mt_law_pick, mt_law_right, mt_law, in_House, cl_len]) (by omega) (by omega)) rfl (by simp; omega) (fun y hy => by
      obtain ⟨i, hi, rfl⟩ := List.mem_map.mp hy
      have hi' : i + 1 < s.length := by have := List.mem_range.mp hi; omega
      refine ⟨_, [.va (tD s), .va (tD r), .ow false (.lst (s.map fun x => .int (r.idxOf x : Nat))), .no, .va (.int (i : Int))], rfl, ?_, rfl, rfl⟩
      have lt : r.idxOf s[i] < r.idxOf s[i + 1] := List.pairwise_iff_getElem.mp ((idx_pair hnd).sublist hs) i (i + 1) (by omega) hi' (by omega)
      simp [startE, exSs, exS, evE, evV, evPs, evR, evA, evO, evC, evI, exT, consM, setIxM, frzM, op2, pz, varM, opD, ixR, ixD, binD, frz, isOw, setAt, asgM, keepM, keepR, putSl, free, biM, biD, biInt, len_tup, len_lst, len_scr, len_dic, len_str, biTuple, biList, biAbs, biMax2, biMin2, biDivmod, consP, consR, consV, nilR, nilD, iteM, boolM, cmpR, cmpD, retM, retNM, endR, clean1, clean2, clean3, clean4, clean5, lentAt, Ct.d, putTg, putAll, parPut, parM, asgTuM, asgTM, tNilM, tNmM, tIxM, exM, nextM, ifeM, andM, orM, notM, negM, isNM, notNM, isTM, notTM, chainM, noO, soM, sliM, sliD, fldM, tupM, lstM, dataM, bmM, bmD, lendM, callM, callF, argSl, lentBack, slotsOf, makeM, insM, permM, permute, dataR, isM, isI_tup, isI_str, isI_tD, isI_ttD, isI_ins, len_tD, len_ttD, seqM, seqD, enmM, enmD, zipM, zipD, forM, dzM, trueM, mt_is_name, mt_wrong_name, mt_is_ascending, mt_is_one_of, mt_check_guests, mt_check_rooms, mt_check_accepted, mt_House_init, mt_House_place_of, mt_House_check_room, mt_House_accepts, mt_check_house, mt_are_places, mt_is_good, mt_is_placing, mt_check_placing, mt_frees, mt_lets, mt_law_cell, mt_law_well, mt_law_dip, mt_law_names, mt_law_new_home, mt_law_all_lain, mt_law_full, mt_law_made, mt_law_let_moves, mt_law_pick, mt_law_right, mt_law, in_House, cl_len, wipeE, atI_cast, atI_succ, hi', show i < s.length by omega, lt])
    have e : ((s.length : Int) - 1).toNat = s.length - 1 := by omega
    rw [e] at w
    simp only [List.map_map] at w
    exact w
  simp [startE, exSs, exS, evE, evV, evPs, evR, evA, evO, evC, evI, exT, consM, setIxM, frzM, op2, pz, varM, opD, ixR, ixD, binD, frz, isOw, setAt, asgM, keepM, keepR, putSl, free, biM, biD, biInt, len_tup, len_lst, len_scr, len_dic, len_str, biTuple, biList, biAbs, biMax2, biMin2, biDivmod, consP, consR, consV, nilR, nilD, iteM, boolM, cmpR, cmpD, retM, retNM, endR, clean1, clean2, clean3, clean4, clean5, lentAt, Ct.d, putTg, putAll, parPut, parM, asgTuM, asgTM, tNilM, tNmM, tIxM, exM, nextM, ifeM, andM, orM, notM, negM, isNM, notNM, isTM, notTM, chainM, noO, soM, sliM, sliD, fldM, tupM, lstM, dataM, bmM, bmD, lendM, callM, callF, argSl, lentBack, slotsOf, makeM, insM, permM, permute, dataR, isM, isI_tup, isI_str, isI_tD, isI_ttD, isI_ins, len_tD, len_ttD, seqM, seqD, enmM, enmD, zipM, zipD, forM, dzM, trueM, mt_is_name, mt_wrong_name, mt_is_ascending, mt_is_one_of, mt_check_guests, mt_check_rooms, mt_check_accepted, mt_House_init, mt_House_place_of, mt_House_check_room, mt_House_accepts, mt_check_house, mt_are_places, mt_is_good, mt_is_placing, mt_check_placing, mt_frees, mt_lets, mt_law_cell, mt_law_well, mt_law_dip, mt_law_names, mt_law_new_home, mt_law_all_lain, mt_law_full, mt_law_made, mt_law_let_moves, mt_law_pick, mt_law_right, mt_law, in_House, cl_len, f_is_ascending, b_is_ascending, c0, c1, c2, biAll_true]
/-! the checks, the house -/
def houseD (g r : List Str) (a : List (List Str)) : D := .ins 0 [("guests", tD g), ("rooms", tD r), ("accepted", ttD a), ("lists", .dic ((g.zip (a.map tD)).map fun p => (.str p.1, p.2)))]
structure Home (g r : List Str) (a : List (List Str)) : Prop where
  gn : ∀ x ∈ g, IsNm x
  rn : ∀ x ∈ r, IsNm x
  gd : g.Nodup
  rd : r.Nodup
  gr : ∀ x ∈ r, x ∉ g
  g0 : g ≠ []
  r0 : r ≠ []
  g6 : g.length ≤ 6
  r8 : r.length ≤ 8
  al : a.length = g.length
  as : ∀ l ∈ a, l.Sublist r
section
variable {g r : List Str} {a : List (List Str)}
theorem eq_nil {l : List Str} (h : ∀ x ∈ l, IsNm x) : eqD (tD l) (.tup []) = some (decide (l = [])) := eqD_tD (m := []) (fun x hx => (h x hx).ok) (by simp)
theorem r_check_guests {k : Nat} (h : Home g r a) : runN Pg0 (k + 3) i_check_guests [.va (tD g)] = some (.dt .non, [.no]) := by
  rw [run_of (fn := f_check_guests) rfl rfl]
  have w := r_wrong_name (k := k) (l := g) (o := []) (m := 6) h.gn h.gd (by have := h.g6; omega) (by simp)
  have w' : runN Pg0 (k + 2) i_wrong_name [.va (tD g), .va (.int 6), .va (.tup [])] = some (.dt .non, [.no, .no, .no]) := w
  simp [startE, exSs, exS, evE, evV, evPs, evR, evA, evO, evC, evI, exT, consM, setIxM, frzM, op2, pz, varM, opD, ixR, ixD, binD, frz, isOw, setAt, asgM, keepM, keepR, putSl, free, biM, biD, biInt, len_tup, len_lst, len_scr, len_dic, len_str, biTuple, biList, biAbs, biMax2, biMin2, biDivmod, consP, consR, consV, nilR, nilD, iteM, boolM, cmpR, cmpD, retM, retNM, endR, clean1, clean2, clean3, clean4, clean5, lentAt, Ct.d, putTg, putAll, parPut, parM, asgTuM, asgTM, tNilM, tNmM, tIxM, exM, nextM, ifeM, andM, orM, notM, negM, isNM, notNM, isTM, notTM, chainM, noO, soM, sliM, sliD, fldM, tupM, lstM, dataM, bmM, bmD, lendM, callM, callF, argSl, lentBack, slotsOf, makeM, insM, permM, permute, dataR, isM, isI_tup, isI_str, isI_tD, isI_ttD, isI_ins, len_tD, len_ttD, seqM, seqD, enmM, enmD, zipM, zipD, forM, dzM, trueM, mt_is_name, mt_wrong_name, mt_is_ascending, mt_is_one_of, mt_check_guests, mt_check_rooms, mt_check_accepted, mt_House_init, mt_House_place_of, mt_House_check_room, mt_House_accepts, mt_check_house, mt_are_places, mt_is_good, mt_is_placing, mt_check_placing, mt_frees, mt_lets, mt_law_cell, mt_law_well, mt_law_dip, mt_law_names, mt_law_new_home, mt_law_all_lain, mt_law_full, mt_law_made, mt_law_let_moves, mt_law_pick, mt_law_right, mt_law, in_House, cl_len, f_check_guests, b_check_guests, eq_nil h.gn, h.g0, w']
theorem r_check_rooms {k : Nat} (h : Home g r a) : runN Pg0 (k + 3) i_check_rooms [.va (tD r), .va (tD g)] = some (.dt .non, [.no, .no]) := by
  rw [run_of (fn := f_check_rooms) rfl rfl]
  have w := r_wrong_name (k := k) (l := r) (o := g) (m := 8) h.rn h.rd (by have := h.r8; omega) h.gr
  simp [startE, exSs, exS, evE, evV, evPs, evR, evA, evO, evC, evI, exT, consM, setIxM, frzM, op2, pz, varM, opD, ixR, ixD, binD, frz, isOw, setAt, asgM, keepM, keepR, putSl, free, biM, biD, biInt, len_tup, len_lst, len_scr, len_dic, len_str, biTuple, biList, biAbs, biMax2, biMin2, biDivmod, consP, consR, consV, nilR, nilD, iteM, boolM, cmpR, cmpD, retM, retNM, endR, clean1, clean2, clean3, clean4, clean5, lentAt, Ct.d, putTg, putAll, parPut, parM, asgTuM, asgTM, tNilM, tNmM, tIxM, exM, nextM, ifeM, andM, orM, notM, negM, isNM, notNM, isTM, notTM, chainM, noO, soM, sliM, sliD, fldM, tupM, lstM, dataM, bmM, bmD, lendM, callM, callF, argSl, lentBack, slotsOf, makeM, insM, permM, permute, dataR, isM, isI_tup, isI_str, isI_tD, isI_ttD, isI_ins, len_tD, len_ttD, seqM, seqD, enmM, enmD, zipM, zipD, forM, dzM, trueM, mt_is_name, mt_wrong_name, mt_is_ascending, mt_is_one_of, mt_check_guests, mt_check_rooms, mt_check_accepted, mt_House_init, mt_House_place_of, mt_House_check_room, mt_House_accepts, mt_check_house, mt_are_places, mt_is_good, mt_is_placing, mt_check_placing, mt_frees, mt_lets, mt_law_cell, mt_law_well, mt_law_dip, mt_law_names, mt_law_new_home, mt_law_all_lain, mt_law_full, mt_law_made, mt_law_let_moves, mt_law_pick, mt_law_right, mt_law, in_House, cl_len, f_check_rooms, b_check_rooms, eq_nil h.rn, h.r0, w]
theorem r_check_accepted {k : Nat} (h : Home g r a) : runN Pg0 (k + 2) i_check_accepted [.va (ttD a), .va (.int g.length), .va (tD r)] = some (.dt .non, [.no, .no, .no]) := by
  rw [run_of (fn := f_check_accepted) rfl rfl]
  have hs : ∃ x y, exS Pg0 (runN Pg0 (k + 1)) s1_check_accepted [.va (ttD a), .va (.int g.length), .va (tD r), .no, .no] = some (.next, [.va (ttD a), .va (.int g.length), .va (tD r), x, y]) := by
    have w := forL_inv (t := .tu [3, 4]) (b := exSs Pg0 (runN Pg0 (k + 1)) b0_check_accepted) (fun pre env => ∃ x y, env = [.va (ttD a), .va (.int g.length), .va (tD r), x, y] ∧ Pl x ∧ Pl y) (fun _ _ => False)
      ((a.map tD).zipIdx.map fun p => D.tup [.int (p.2 : Nat), p.1]) ((a.map tD).zipIdx.map fun p => D.tup [.int (p.2 : Nat), p.1]) [] [.va (ttD a), .va (.int g.length), .va (tD r), .no, .no] rfl ⟨_, _, rfl, .no, .no⟩ (fun pre x post env q ⟨u, v, e, f1, f2⟩ => by
        subst e
        obtain ⟨hi, hx⟩ := enm_at q
        rw [List.length_map] at hi
        rw [List.getElem_map] at hx
        subst hx
        have hi2 := hi
        rw [h.al] at hi2
        have g3 : ¬ ((pre.length : Int) = (g.length : Int)) := by omega
        have r1 := r_is_ascending (k := k) (h.as _ (List.getElem_mem hi)) h.rd (Nat.le_trans h.r8 (by decide))
        refine ⟨[.va (ttD a), .va (.int g.length), .va (tD r), .va (.int (pre.length : Nat)), .va (tD a[pre.length])], .next, [.va (ttD a), .va (.int g.length), .va (tD r), .va (.int (pre.length : Nat)), .va (tD a[pre.length])], ?_, ?_, fun _ => ⟨_, _, rfl, .va _, .va _⟩, by simp, fun r h => nomatch h⟩
        · rcases f1 with rfl | ⟨d, rfl⟩ <;> rcases f2 with rfl | ⟨d', rfl⟩ <;> rfl
        · simp [startE, exSs, exS, evE, evV, evPs, evR, evA, evO, evC, evI, exT, consM, setIxM, frzM, op2, pz, varM, opD, ixR, ixD, binD, frz, isOw, setAt, asgM, keepM, keepR, putSl, free, biM, biD, biInt, len_tup, len_lst, len_scr, len_dic, len_str, biTuple, biList, biAbs, biMax2, biMin2, biDivmod, consP, consR, consV, nilR, nilD, iteM, boolM, cmpR, cmpD, retM, retNM, endR, clean1, clean2, clean3, clean4, clean5, lentAt, Ct.d, putTg, putAll, parPut, parM, asgTuM, asgTM, tNilM, tNmM, tIxM, exM, nextM, ifeM, andM, orM, notM, negM, isNM, notNM, isTM, notTM, chainM, noO, soM, sliM, sliD, fldM, tupM, lstM, dataM, bmM, bmD, lendM, callM, callF, argSl, lentBack, slotsOf, makeM, insM, permM, permute, dataR, isM, isI_tup, isI_str, isI_tD, isI_ttD, isI_ins, len_tD, len_ttD, seqM, seqD, enmM, enmD, zipM, zipD, forM, dzM, trueM, mt_is_name, mt_wrong_name, mt_is_ascending, mt_is_one_of, mt_check_guests, mt_check_rooms, mt_check_accepted, mt_House_init, mt_House_place_of, mt_House_check_room, mt_House_accepts, mt_check_house, mt_are_places, mt_is_good, mt_is_placing, mt_check_placing, mt_frees, mt_lets, mt_law_cell, mt_law_well, mt_law_dip, mt_law_names, mt_law_new_home, mt_law_all_lain, mt_law_full, mt_law_made, mt_law_let_moves, mt_law_pick, mt_law_right, mt_law, in_House, cl_len, b0_check_accepted, eqD_int, g3, r1])
    obtain ⟨fl, env', k1, k2 | ⟨r, _, k3⟩⟩ := w
    · obtain ⟨rfl, x, y, rfl, _⟩ := k2
      refine ⟨x, y, ?_⟩
      simp only [s1_check_accepted, exS, forM, evI, enmM, frzM, evE, varM, List.getElem?_cons_zero, frz, enmD, ttD, Option.map]
      exact k1
    · exact k3.elim
  obtain ⟨x, y, hs⟩ := hs
  have g3 : ¬ ((a.length : Int) < (g.length : Int)) := by have := h.al; omega
  simp [startE, exSs, exS, evE, evV, evPs, evR, evA, evO, evC, evI, exT, consM, setIxM, frzM, op2, pz, varM, opD, ixR, ixD, binD, frz, isOw, setAt, asgM, keepM, keepR, putSl, free, biM, biD, biInt, len_tup, len_lst, len_scr, len_dic, len_str, biTuple, biList, biAbs, biMax2, biMin2, biDivmod, consP, consR, consV, nilR, nilD, iteM, boolM, cmpR, cmpD, retM, retNM, endR, clean1, clean2, clean3, clean4, clean5, lentAt, Ct.d, putTg, putAll, parPut, parM, asgTuM, asgTM, tNilM, tNmM, tIxM, exM, nextM, ifeM, andM, orM, notM, negM, isNM, notNM, isTM, notTM, chainM, noO, soM, sliM, sliD, fldM, tupM, lstM, dataM, bmM, bmD, lendM, callM, callF, argSl, lentBack, slotsOf, makeM, insM, permM, permute, dataR, isM, isI_tup, isI_str, isI_tD, isI_ttD, isI_ins, len_tD, len_ttD, seqM, seqD, enmM, enmD, zipM, zipD, forM, dzM, trueM, mt_is_name, mt_wrong_name, mt_is_ascending, mt_is_one_of, mt_check_guests, mt_check_rooms, mt_check_accepted, mt_House_init, mt_House_place_of, mt_House_check_room, mt_House_accepts, mt_check_house, mt_are_places, mt_is_good, mt_is_placing, mt_check_placing, mt_frees, mt_lets, mt_law_cell, mt_law_well, mt_law_dip, mt_law_names, mt_law_new_home, mt_law_all_lain, mt_law_full, mt_law_made, mt_law_let_moves, mt_law_pick, mt_law_right, mt_law, in_House, cl_len, f_check_accepted, b_check_accepted, hs, g3]
theorem r_init {k : Nat} (h : Home g r a) : runN Pg0 (k + 4) i_House_init [.ow true (.ins 0 []), .va (tD g), .va (tD r), .va (ttD a)] = some (.dt .non, [.ow true (houseD g r a), .no, .no, .no]) := by
  rw [run_of (fn := f_House_init) rfl rfl]
  have w1 := r_check_guests (k := k) h
  have w2 := r_check_rooms (k := k) h
  have w3 := r_check_accepted (k := k + 1) h
  have hz : g.length ≤ sizeLine := Nat.le_trans h.g6 (by decide)
  simp only [tD, ttD] at w1 w2 w3
  simp [startE, exSs, exS, evE, evV, evPs, evR, evA, evO, evC, evI, exT, consM, setIxM, frzM, op2, pz, varM, opD, ixR, ixD, binD, frz, isOw, setAt, asgM, keepM, keepR, putSl, free, biM, biD, biInt, len_tup, len_lst, len_scr, len_dic, len_str, biTuple, biList, biAbs, biMax2, biMin2, biDivmod, consP, consR, consV, nilR, nilD, iteM, boolM, cmpR, cmpD, retM, retNM, endR, clean1, clean2, clean3, clean4, clean5, lentAt, Ct.d, putTg, putAll, parPut, parM, asgTuM, asgTM, tNilM, tNmM, tIxM, exM, nextM, ifeM, andM, orM, notM, negM, isNM, notNM, isTM, notTM, chainM, noO, soM, sliM, sliD, fldM, tupM, lstM, dataM, bmM, bmD, lendM, callM, callF, argSl, lentBack, slotsOf, makeM, insM, permM, permute, dataR, isM, isI_tup, isI_str, isI_tD, isI_ttD, isI_ins, len_tD, len_ttD, seqM, seqD, enmM, enmD, zipM, zipD, forM, dzM, trueM, mt_is_name, mt_wrong_name, mt_is_ascending, mt_is_one_of, mt_check_guests, mt_check_rooms, mt_check_accepted, mt_House_init, mt_House_place_of, mt_House_check_room, mt_House_accepts, mt_check_house, mt_are_places, mt_is_good, mt_is_placing, mt_check_placing, mt_frees, mt_lets, mt_law_cell, mt_law_well, mt_law_dip, mt_law_names, mt_law_new_home, mt_law_all_lain, mt_law_full, mt_law_made, mt_law_let_moves, mt_law_pick, mt_law_right, mt_law, in_House, cl_len, f_House_init, b_House_init, w1, w2, w3, setFM, tD, ttD, txts_map, h.gd, hz, houseD, lk_0, lk_1, lk_2, lk_3, lkm_0, lkm_1, lkm_2, lkm_3, fne_0_1, fnb_0_1, fne_0_2, fnb_0_2, fne_0_3, fnb_0_3, fne_1_0, fnb_1_0, fne_1_2, fnb_1_2, fne_1_3, fnb_1_3, fne_2_0, fnb_2_0, fne_2_1, fnb_2_1, fne_2_3, fnb_2_3, fne_3_0, fnb_3_0, fne_3_1, fnb_3_1, fne_3_2, fnb_3_2, fne_4_0, fnb_4_0, fne_4_1, fnb_4_1, fne_4_2, fnb_4_2, fne_4_3, fnb_4_3, fne_5_0, fnb_5_0, fne_5_1, fnb_5_1, fne_5_2, fnb_5_2, fne_5_3, fnb_5_3, fne_6_0, fnb_6_0, fne_6_1, fnb_6_1, fne_6_2, fnb_6_2, fne_6_3, fnb_6_3, fne_7_0, fnb_7_0, fne_7_1, fnb_7_1, fne_7_2, fnb_7_2, fne_7_3, fnb_7_3]
end
end VI
namespace VI
open PySem L2
section
variable {g r : List Str} {a : List (List Str)}
theorem r_is_one_of {k : Nat} {x : Str} {l : List Str} : runN Pg0 (k + 1) i_is_one_of [.va (.str x), .va (tD l)] = some (.dt (.bl (decide (x ∈ l))), [.no, .no]) := by
  rw [run_of (fn := f_is_one_of) rfl rfl]
  simp [startE, exSs, exS, evE, evV, evPs, evR, evA, evO, evC, evI, exT, consM, setIxM, frzM, op2, pz, varM, opD, ixR, ixD, binD, frz, isOw, setAt, asgM, keepM, keepR, putSl, free, biM, biD, biInt, len_tup, len_lst, len_scr, len_dic, len_str, biTuple, biList, biAbs, biMax2, biMin2, biDivmod, consP, consR, consV, nilR, nilD, iteM, boolM, cmpR, cmpD, retM, retNM, endR, clean1, clean2, clean3, clean4, clean5, lentAt, Ct.d, putTg, putAll, parPut, parM, asgTuM, asgTM, tNilM, tNmM, tIxM, exM, nextM, ifeM, andM, orM, notM, negM, isNM, notNM, isTM, notTM, chainM, noO, soM, sliM, sliD, fldM, tupM, lstM, dataM, bmM, bmD, lendM, callM, callF, argSl, lentBack, slotsOf, makeM, insM, permM, permute, dataR, isM, isI_tup, isI_str, isI_tD, isI_ttD, isI_ins, len_tD, len_ttD, seqM, seqD, enmM, enmD, zipM, zipD, forM, dzM, trueM, mt_is_name, mt_wrong_name, mt_is_ascending, mt_is_one_of, mt_check_guests, mt_check_rooms, mt_check_accepted, mt_House_init, mt_House_place_of, mt_House_check_room, mt_House_accepts, mt_check_house, mt_are_places, mt_is_good, mt_is_placing, mt_check_placing, mt_frees, mt_lets, mt_law_cell, mt_law_well, mt_law_dip, mt_law_names, mt_law_new_home, mt_law_all_lain, mt_law_full, mt_law_made, mt_law_let_moves, mt_law_pick, mt_law_right, mt_law, in_House, cl_len, f_is_one_of, b_is_one_of, inD_tD]
theorem r_place_of {k i : Nat} (hi : i < g.length) : ∃ d, runN Pg0 (k + 2) i_House_place_of [.va (houseD g r a), .va (.str g[i])] = some (.dt d, [.no, .no]) := by
  rw [run_of (fn := f_House_place_of) rfl rfl]
  have w := r_is_one_of (k := k) (x := g[i]) (l := g)
  have hm : g[i] ∈ g := List.getElem_mem hi
  refine ⟨.int (g.idxOf g[i] : Nat), ?_⟩
  simp only [tD] at w
  simp [startE, exSs, exS, evE, evV, evPs, evR, evA, evO, evC, evI, exT, consM, setIxM, frzM, op2, pz, varM, opD, ixR, ixD, binD, frz, isOw, setAt, asgM, keepM, keepR, putSl, free, biM, biD, biInt, len_tup, len_lst, len_scr, len_dic, len_str, biTuple, biList, biAbs, biMax2, biMin2, biDivmod, consP, consR, consV, nilR, nilD, iteM, boolM, cmpR, cmpD, retM, retNM, endR, clean1, clean2, clean3, clean4, clean5, lentAt, Ct.d, putTg, putAll, parPut, parM, asgTuM, asgTM, tNilM, tNmM, tIxM, exM, nextM, ifeM, andM, orM, notM, negM, isNM, notNM, isTM, notTM, chainM, noO, soM, sliM, sliD, fldM, tupM, lstM, dataM, bmM, bmD, lendM, callM, callF, argSl, lentBack, slotsOf, makeM, insM, permM, permute, dataR, isM, isI_tup, isI_str, isI_tD, isI_ttD, isI_ins, len_tD, len_ttD, seqM, seqD, enmM, enmD, zipM, zipD, forM, dzM, trueM, mt_is_name, mt_wrong_name, mt_is_ascending, mt_is_one_of, mt_check_guests, mt_check_rooms, mt_check_accepted, mt_House_init, mt_House_place_of, mt_House_check_room, mt_House_accepts, mt_check_house, mt_are_places, mt_is_good, mt_is_placing, mt_check_placing, mt_frees, mt_lets, mt_law_cell, mt_law_well, mt_law_dip, mt_law_names, mt_law_new_home, mt_law_all_lain, mt_law_full, mt_law_made, mt_law_let_moves, mt_law_pick, mt_law_right, mt_law, in_House, cl_len, f_House_place_of, b_House_place_of, houseD, lk_0, lk_1, lk_2, lk_3, lkm_0, lkm_1, lkm_2, lkm_3, fne_0_1, fnb_0_1, fne_0_2, fnb_0_2, fne_0_3, fnb_0_3, fne_1_0, fnb_1_0, fne_1_2, fnb_1_2, fne_1_3, fnb_1_3, fne_2_0, fnb_2_0, fne_2_1, fnb_2_1, fne_2_3, fnb_2_3, fne_3_0, fnb_3_0, fne_3_1, fnb_3_1, fne_3_2, fnb_3_2, fne_4_0, fnb_4_0, fne_4_1, fnb_4_1, fne_4_2, fnb_4_2, fne_4_3, fnb_4_3, fne_5_0, fnb_5_0, fne_5_1, fnb_5_1, fne_5_2, fnb_5_2, fne_5_3, fnb_5_3, fne_6_0, fnb_6_0, fne_6_1, fnb_6_1, fne_6_2, fnb_6_2, fne_6_3, fnb_6_3, fne_7_0, fnb_7_0, fne_7_1, fnb_7_1, fne_7_2, fnb_7_2, fne_7_3, fnb_7_3, w, hm, bmIndex, tD, txts_map]
theorem r_check_room {k : Nat} {y : Str} (hy : y ∈ r) : runN Pg0 (k + 2) i_House_check_room [.va (houseD g r a), .va (.str y)] = some (.dt .non, [.no, .no]) := by
  rw [run_of (fn := f_House_check_room) rfl rfl]
  have w := r_is_one_of (k := k) (x := y) (l := r)
  simp [startE, exSs, exS, evE, evV, evPs, evR, evA, evO, evC, evI, exT, consM, setIxM, frzM, op2, pz, varM, opD, ixR, ixD, binD, frz, isOw, setAt, asgM, keepM, keepR, putSl, free, biM, biD, biInt, len_tup, len_lst, len_scr, len_dic, len_str, biTuple, biList, biAbs, biMax2, biMin2, biDivmod, consP, consR, consV, nilR, nilD, iteM, boolM, cmpR, cmpD, retM, retNM, endR, clean1, clean2, clean3, clean4, clean5, lentAt, Ct.d, putTg, putAll, parPut, parM, asgTuM, asgTM, tNilM, tNmM, tIxM, exM, nextM, ifeM, andM, orM, notM, negM, isNM, notNM, isTM, notTM, chainM, noO, soM, sliM, sliD, fldM, tupM, lstM, dataM, bmM, bmD, lendM, callM, callF, argSl, lentBack, slotsOf, makeM, insM, permM, permute, dataR, isM, isI_tup, isI_str, isI_tD, isI_ttD, isI_ins, len_tD, len_ttD, seqM, seqD, enmM, enmD, zipM, zipD, forM, dzM, trueM, mt_is_name, mt_wrong_name, mt_is_ascending, mt_is_one_of, mt_check_guests, mt_check_rooms, mt_check_accepted, mt_House_init, mt_House_place_of, mt_House_check_room, mt_House_accepts, mt_check_house, mt_are_places, mt_is_good, mt_is_placing, mt_check_placing, mt_frees, mt_lets, mt_law_cell, mt_law_well, mt_law_dip, mt_law_names, mt_law_new_home, mt_law_all_lain, mt_law_full, mt_law_made, mt_law_let_moves, mt_law_pick, mt_law_right, mt_law, in_House, cl_len, f_House_check_room, b_House_check_room, houseD, lk_0, lk_1, lk_2, lk_3, lkm_0, lkm_1, lkm_2, lkm_3, fne_0_1, fnb_0_1, fne_0_2, fnb_0_2, fne_0_3, fnb_0_3, fne_1_0, fnb_1_0, fne_1_2, fnb_1_2, fne_1_3, fnb_1_3, fne_2_0, fnb_2_0, fne_2_1, fnb_2_1, fne_2_3, fnb_2_3, fne_3_0, fnb_3_0, fne_3_1, fnb_3_1, fne_3_2, fnb_3_2, fne_4_0, fnb_4_0, fne_4_1, fnb_4_1, fne_4_2, fnb_4_2, fne_4_3, fnb_4_3, fne_5_0, fnb_5_0, fne_5_1, fnb_5_1, fne_5_2, fnb_5_2, fne_5_3, fnb_5_3, fne_6_0, fnb_6_0, fne_6_1, fnb_6_1, fne_6_2, fnb_6_2, fne_6_3, fnb_6_3, fne_7_0, fnb_7_0, fne_7_1, fnb_7_1, fne_7_2, fnb_7_2, fne_7_3, fnb_7_3, w, hy]
theorem dLook_zip : ∀ {g : List Str} {a : List (List Str)} {i : Nat}, g.Nodup → (h1 : i < g.length) → (h2 : i < a.length) → dLook g[i] ((g.zip (a.map tD)).map fun p => (D.str p.1, p.2)) = some (tD a[i])
  | [], _, _, _, h, _ => by cases h
  | _ :: _, [], _, _, _, h => by cases h
  | x :: g, l :: a, 0, _, _, _ => by simp [dLook]
  | x :: g, l :: a, i + 1, hd, h1, h2 => by
    obtain ⟨n1, n2⟩ := List.nodup_cons.mp hd
    have hi : i < g.length := by simpa using h1
    have hne : ¬ x = g[i] := fun e => n1 (e ▸ List.getElem_mem hi)
    have ih := dLook_zip (g := g) (a := a) (i := i) n2 hi (by simpa using h2)
    simp only [List.map_cons, List.zip_cons_cons, List.getElem_cons_succ, dLook, if_neg hne]
    exact ih
theorem r_accepts {k i : Nat} {y : Str} (h : Home g r a) (hi : i < g.length) (hi2 : i < a.length) (hy : y ∈ r) :
    runN Pg0 (k + 3) i_House_accepts [.va (houseD g r a), .va (.str g[i]), .va (.str y)] = some (.dt (.bl (decide (y ∈ a[i]))), [.no, .no, .no]) := by
  rw [run_of (fn := f_House_accepts) rfl rfl]
  obtain ⟨d, w1⟩ := r_place_of (k := k) (r := r) (a := a) hi
  have w2 := r_check_room (k := k) (g := g) (a := a) hy
  have e := dLook_zip h.gd hi hi2
  have e2 := inD_tD y a[i]
  simp only [houseD] at w1 w2
  simp [startE, exSs, exS, evE, evV, evPs, evR, evA, evO, evC, evI, exT, consM, setIxM, frzM, op2, pz, varM, opD, ixR, ixD, binD, frz, isOw, setAt, asgM, keepM, keepR, putSl, free, biM, biD, biInt, len_tup, len_lst, len_scr, len_dic, len_str, biTuple, biList, biAbs, biMax2, biMin2, biDivmod, consP, consR, consV, nilR, nilD, iteM, boolM, cmpR, cmpD, retM, retNM, endR, clean1, clean2, clean3, clean4, clean5, lentAt, Ct.d, putTg, putAll, parPut, parM, asgTuM, asgTM, tNilM, tNmM, tIxM, exM, nextM, ifeM, andM, orM, notM, negM, isNM, notNM, isTM, notTM, chainM, noO, soM, sliM, sliD, fldM, tupM, lstM, dataM, bmM, bmD, lendM, callM, callF, argSl, lentBack, slotsOf, makeM, insM, permM, permute, dataR, isM, isI_tup, isI_str, isI_tD, isI_ttD, isI_ins, len_tD, len_ttD, seqM, seqD, enmM, enmD, zipM, zipD, forM, dzM, trueM, mt_is_name, mt_wrong_name, mt_is_ascending, mt_is_one_of, mt_check_guests, mt_check_rooms, mt_check_accepted, mt_House_init, mt_House_place_of, mt_House_check_room, mt_House_accepts, mt_check_house, mt_are_places, mt_is_good, mt_is_placing, mt_check_placing, mt_frees, mt_lets, mt_law_cell, mt_law_well, mt_law_dip, mt_law_names, mt_law_new_home, mt_law_all_lain, mt_law_full, mt_law_made, mt_law_let_moves, mt_law_pick, mt_law_right, mt_law, in_House, cl_len, f_House_accepts, b_House_accepts, houseD, lk_0, lk_1, lk_2, lk_3, lkm_0, lkm_1, lkm_2, lkm_3, fne_0_1, fnb_0_1, fne_0_2, fnb_0_2, fne_0_3, fnb_0_3, fne_1_0, fnb_1_0, fne_1_2, fnb_1_2, fne_1_3, fnb_1_3, fne_2_0, fnb_2_0, fne_2_1, fnb_2_1, fne_2_3, fnb_2_3, fne_3_0, fnb_3_0, fne_3_1, fnb_3_1, fne_3_2, fnb_3_2, fne_4_0, fnb_4_0, fne_4_1, fnb_4_1, fne_4_2, fnb_4_2, fne_4_3, fnb_4_3, fne_5_0, fnb_5_0, fne_5_1, fnb_5_1, fne_5_2, fnb_5_2, fne_5_3, fnb_5_3, fne_6_0, fnb_6_0, fne_6_1, fnb_6_1, fne_6_2, fnb_6_2, fne_6_3, fnb_6_3, fne_7_0, fnb_7_0, fne_7_1, fnb_7_1, fne_7_2, fnb_7_2, fne_7_3, fnb_7_3, w1, w2, e, e2]
theorem r_check_house {k : Nat} : runN Pg0 (k + 1) i_check_house [.va (houseD g r a)] = some (.dt .non, [.no]) := by
  rw [run_of (fn := f_check_house) rfl rfl]
  simp [startE, exSs, exS, evE, evV, evPs, evR, evA, evO, evC, evI, exT, consM, setIxM, frzM, op2, pz, varM, opD, ixR, ixD, binD, frz, isOw, setAt, asgM, keepM, keepR, putSl, free, biM, biD, biInt, len_tup, len_lst, len_scr, len_dic, len_str, biTuple, biList, biAbs, biMax2, biMin2, biDivmod, consP, consR, consV, nilR, nilD, iteM, boolM, cmpR, cmpD, retM, retNM, endR, clean1, clean2, clean3, clean4, clean5, lentAt, Ct.d, putTg, putAll, parPut, parM, asgTuM, asgTM, tNilM, tNmM, tIxM, exM, nextM, ifeM, andM, orM, notM, negM, isNM, notNM, isTM, notTM, chainM, noO, soM, sliM, sliD, fldM, tupM, lstM, dataM, bmM, bmD, lendM, callM, callF, argSl, lentBack, slotsOf, makeM, insM, permM, permute, dataR, isM, isI_tup, isI_str, isI_tD, isI_ttD, isI_ins, len_tD, len_ttD, seqM, seqD, enmM, enmD, zipM, zipD, forM, dzM, trueM, mt_is_name, mt_wrong_name, mt_is_ascending, mt_is_one_of, mt_check_guests, mt_check_rooms, mt_check_accepted, mt_House_init, mt_House_place_of, mt_House_check_room, mt_House_accepts, mt_check_house, mt_are_places, mt_is_good, mt_is_placing, mt_check_placing, mt_frees, mt_lets, mt_law_cell, mt_law_well, mt_law_dip, mt_law_names, mt_law_new_home, mt_law_all_lain, mt_law_full, mt_law_made, mt_law_let_moves, mt_law_pick, mt_law_right, mt_law, in_House, cl_len, f_check_house, b_check_house, houseD, isI]
/-! placings -/
structure Plc (r : List Str) (a : List (List Str)) (p : List Str) : Prop where
  len : p.length = a.length
  nd : p.Nodup
  at_ : ∀ (i : Nat) (h1 : i < p.length) (h2 : i < a.length), p[i] ∈ a[i]
theorem dPut_new {l : List Str} {x : Str} (h : x ∉ l) : dPut (l.map fun y => (D.str y, D.bl true)) x (.bl true) = (l ++ [x]).map fun y => (D.str y, D.bl true) := by
  unfold dPut
  rw [if_neg]
  · simp
  · rw [List.any_map]
    intro q
    obtain ⟨y, hy, e⟩ := List.any_eq_true.mp q
    have : y = x := by simpa [keyB] using e
    exact h (this ▸ hy)
theorem dcL_ok {vs : List Nat} {t : Tg} {c : Env' → Option (Bool × Env')} {kk e : Env' → Option (R × Env')} (I : Env' → Prop) :
    ∀ (post pre : List Str) (env : Env'), (pre ++ post).Nodup → (pre ++ post).length ≤ sizeLine → I env →
      (∀ x ∈ post, ∀ env, I env → ∃ e1 e2 e3 e4, putTg t (.str x) (wipeE env vs) = some e1 ∧ c e1 = some (true, e2) ∧ frzM kk e2 = some (.dt (.str x), e3) ∧ frzM e e3 = some (.dt (.bl true), e4) ∧ I e4) →
      ∃ env', dcL t vs c kk e (post.map .str) (pre.map fun y => (D.str y, D.bl true)) env = some ((pre ++ post).map fun y => (D.str y, D.bl true), env') ∧ I env'
  | [], pre, env, _, _, i, _ => ⟨env, by simp [dcL], i⟩
  | x :: post, pre, env, nd, hl, i, st => by
    obtain ⟨e1, e2, e3, e4, h1, h2, h3, h4, h5⟩ := st x (by simp) env i
    have hx : x ∉ pre := by
      rw [List.nodup_append] at nd
      exact fun hm => nd.2.2 x hm x (by simp) rfl
    have hlt : pre.length < sizeLine := by simp at hl; omega
    obtain ⟨env', k1, k2⟩ := dcL_ok I post (pre ++ [x]) e4 (by simpa using nd) (by simpa using hl) h5 (fun y hy => st y (by simp [hy]))
    refine ⟨env', ?_, k2⟩
    simp only [List.map_cons, dcL, h1, h2, h3, h4, List.length_map, if_pos hlt, dPut_new hx]
    rw [k1]
    simp
theorem r_are_places {k : Nat} {p : List Str} (h : Home g r a) (hp : Plc r a p) : runN Pg0 (k + 1) i_are_places [.va (tD p), .va (tD g), .va (tD r)] = some (.dt (.bl true), [.no, .no, .no]) := by
  rw [run_of (fn := f_are_places) rfl rfl]
  have hlen : p.length = g.length := hp.len.trans h.al
  have hz : p.length ≤ sizeLine := Nat.le_trans (by rw [hlen]; exact h.g6) (by decide)
  have hin : ∀ x ∈ p, x ∈ r := fun x hx => by
    obtain ⟨i, hi, rfl⟩ := List.mem_iff_getElem.mp hx
    have h2 : i < a.length := by rw [← hp.len]; exact hi
    exact (h.as _ (List.getElem_mem h2)).subset (hp.at_ i hi h2)
  have c0 : evE Pg0 (runN Pg0 k) e0_are_places [.va (tD p), .va (tD g), .va (tD r), .no] = some (.nw (.lst (p.map fun _ => .bl true)), [.va (tD p), .va (tD g), .va (tD r), .no]) := by
    have w := lcM_map (vs := [3]) (t := .nm 3) (it := seqM (varM 0)) (e := andM (isM Pg0.cls.length .isStr (varM 3)) (op2 (cmpR .isin) (varM 3) (varM 2))) (env := [.va (tD p), .va (tD g), .va (tD r), .no]) (fun _ => .bl true) (seq_tD rfl) rfl (by simpa using hz) (fun y hy => by
      obtain ⟨x, hx, rfl⟩ := List.mem_map.mp hy
      refine ⟨_, [.va (tD p), .va (tD g), .va (tD r), .va (.str x)], rfl, ?_, rfl, rfl⟩
      have e := inD_tD x r
      simp [startE, exSs, exS, evE, evV, evPs, evR, evA, evO, evC, evI, exT, consM, setIxM, frzM, op2, pz, varM, opD, ixR, ixD, binD, frz, isOw, setAt, asgM, keepM, keepR, putSl, free, biM, biD, biInt, len_tup, len_lst, len_scr, len_dic, len_str, biTuple, biList, biAbs, biMax2, biMin2, biDivmod, consP, consR, consV, nilR, nilD, iteM, boolM, cmpR, cmpD, retM, retNM, endR, clean1, clean2, clean3, clean4, clean5, lentAt, Ct.d, putTg, putAll, parPut, parM, asgTuM, asgTM, tNilM, tNmM, tIxM, exM, nextM, ifeM, andM, orM, notM, negM, isNM, notNM, isTM, notTM, chainM, noO, soM, sliM, sliD, fldM, tupM, lstM, dataM, bmM, bmD, lendM, callM, callF, argSl, lentBack, slotsOf, makeM, insM, permM, permute, dataR, isM, isI_tup, isI_str, isI_tD, isI_ttD, isI_ins, len_tD, len_ttD, seqM, seqD, enmM, enmD, zipM, zipD, forM, dzM, trueM, mt_is_name, mt_wrong_name, mt_is_ascending, mt_is_one_of, mt_check_guests, mt_check_rooms, mt_check_accepted, mt_House_init, mt_House_place_of, mt_House_check_room, mt_House_accepts, mt_check_house, mt_are_places, mt_is_good, mt_is_placing, mt_check_placing, mt_frees, mt_lets, mt_law_cell, mt_law_well, mt_law_dip, mt_law_names, mt_law_new_home, mt_law_all_lain, mt_law_full, mt_law_made, mt_law_let_moves, mt_law_pick, mt_law_right, mt_law, in_House, cl_len, wipeE, e, hin x hx])
    simp only [List.map_map] at w
    exact w
  have c1 : evE Pg0 (runN Pg0 k) e1_are_places [.va (tD p), .va (tD g), .va (tD r), .no] = some (.nw (.dic (p.map fun y => (D.str y, D.bl true))), [.va (tD p), .va (tD g), .va (tD r), .no]) := by
    obtain ⟨env', k1, b, k2⟩ := dcL_ok (vs := [3]) (t := .nm 3) (c := trueM) (kk := varM 3) (e := fun env => some (.dt (.bl true), env)) (fun env => ∃ b, env = [.va (tD p), .va (tD g), .va (tD r), b] ) p [] [.va (tD p), .va (tD g), .va (tD r), .no] hp.nd hz ⟨_, rfl⟩ (fun x hx env ⟨b, e⟩ => by
      subst e
      exact ⟨_, _, _, _, rfl, rfl, rfl, rfl, _, rfl⟩)
    subst k2
    have s1 : seqM (varM 0) [.va (tD p), .va (tD g), .va (tD r), .no] = some (p.map .str, [.va (tD p), .va (tD g), .va (tD r), .no]) := seq_tD rfl
    show dcM [3] (.nm 3) (seqM (varM 0)) trueM (varM 3) (fun env => some (.dt (.bl true), env)) _ = _
    unfold dcM
    rw [s1]
    simp only [List.map_nil, List.nil_append] at k1
    simp only [show plainAt [.va (tD p), .va (tD g), .va (tD r), .no] [3] = true from rfl, if_true, k1]
    rfl
  simp [startE, exSs, exS, evE, evV, evPs, evR, evA, evO, evC, evI, exT, consM, setIxM, frzM, op2, pz, varM, opD, ixR, ixD, binD, frz, isOw, setAt, asgM, keepM, keepR, putSl, free, biM, biD, biInt, len_tup, len_lst, len_scr, len_dic, len_str, biTuple, biList, biAbs, biMax2, biMin2, biDivmod, consP, consR, consV, nilR, nilD, iteM, boolM, cmpR, cmpD, retM, retNM, endR, clean1, clean2, clean3, clean4, clean5, lentAt, Ct.d, putTg, putAll, parPut, parM, asgTuM, asgTM, tNilM, tNmM, tIxM, exM, nextM, ifeM, andM, orM, notM, negM, isNM, notNM, isTM, notTM, chainM, noO, soM, sliM, sliD, fldM, tupM, lstM, dataM, bmM, bmD, lendM, callM, callF, argSl, lentBack, slotsOf, makeM, insM, permM, permute, dataR, isM, isI_tup, isI_str, isI_tD, isI_ttD, isI_ins, len_tD, len_ttD, seqM, seqD, enmM, enmD, zipM, zipD, forM, dzM, trueM, mt_is_name, mt_wrong_name, mt_is_ascending, mt_is_one_of, mt_check_guests, mt_check_rooms, mt_check_accepted, mt_House_init, mt_House_place_of, mt_House_check_room, mt_House_accepts, mt_check_house, mt_are_places, mt_is_good, mt_is_placing, mt_check_placing, mt_frees, mt_lets, mt_law_cell, mt_law_well, mt_law_dip, mt_law_names, mt_law_new_home, mt_law_all_lain, mt_law_full, mt_law_made, mt_law_let_moves, mt_law_pick, mt_law_right, mt_law, in_House, cl_len, f_are_places, b_are_places, c0, c1, biAll_true, eqD_int, hlen]
theorem zip_mem {p : List Str} {a : List (List Str)} {d : D} (hp : Plc r a p) (h : d ∈ ((p.map D.str).zip (a.map tD)).map fun q => D.tup [q.1, q.2]) : ∃ x l, d = .tup [.str x, tD l] ∧ x ∈ l := by
  obtain ⟨⟨u, v⟩, hm, rfl⟩ := List.mem_map.mp h
  obtain ⟨i, hi, e⟩ := List.mem_iff_getElem.mp hm
  have hl : i < p.length ∧ i < a.length := by simp at hi; omega
  rw [List.getElem_zip] at e
  simp at e
  refine ⟨p[i], a[i], ?_, hp.at_ i hl.1 hl.2⟩
  rw [← e.1, ← e.2]
theorem r_is_good {k : Nat} {p : List Str} (h : Home g r a) (hp : Plc r a p) : runN Pg0 (k + 2) i_is_good [.va (houseD g r a), .va (tD p)] = some (.dt (.bl true), [.no, .no]) := by
  rw [run_of (fn := f_is_good) rfl rfl]
  have w1 := r_are_places (k := k) h hp
  have hlen : p.length = g.length := hp.len.trans h.al
  have hz : p.length ≤ 6 := by rw [hlen]; exact h.g6
  have c0 : evE Pg0 (runN Pg0 (k + 1)) e0_is_good [.va (houseD g r a), .va (tD p), .no, .no] = some (.nw (.lst ((((p.map D.str).zip (a.map tD)).map fun q => D.tup [q.1, q.2]).map fun _ => .bl true)), [.va (houseD g r a), .va (tD p), .no, .no]) := by
    refine lcM_map (vs := [2, 3]) (t := .tu [2, 3]) (it := evI Pg0 (runN Pg0 (k + 1)) (.zip2 (.var 1) (.fld (.var 0) "accepted"))) (e := evE Pg0 (runN Pg0 (k + 1)) (.cmp .isin (.var 2) (.var 3))) (env1 := [.va (houseD g r a), .va (tD p), .no, .no]) (fun _ => .bl true) ?_ rfl ?_ (fun y hy => ?_)
    · simp [startE, exSs, exS, evE, evV, evPs, evR, evA, evO, evC, evI, exT, consM, setIxM, frzM, op2, pz, varM, opD, ixR, ixD, binD, frz, isOw, setAt, asgM, keepM, keepR, putSl, free, biM, biD, biInt, len_tup, len_lst, len_scr, len_dic, len_str, biTuple, biList, biAbs, biMax2, biMin2, biDivmod, consP, consR, consV, nilR, nilD, iteM, boolM, cmpR, cmpD, retM, retNM, endR, clean1, clean2, clean3, clean4, clean5, lentAt, Ct.d, putTg, putAll, parPut, parM, asgTuM, asgTM, tNilM, tNmM, tIxM, exM, nextM, ifeM, andM, orM, notM, negM, isNM, notNM, isTM, notTM, chainM, noO, soM, sliM, sliD, fldM, tupM, lstM, dataM, bmM, bmD, lendM, callM, callF, argSl, lentBack, slotsOf, makeM, insM, permM, permute, dataR, isM, isI_tup, isI_str, isI_tD, isI_ttD, isI_ins, len_tD, len_ttD, seqM, seqD, enmM, enmD, zipM, zipD, forM, dzM, trueM, mt_is_name, mt_wrong_name, mt_is_ascending, mt_is_one_of, mt_check_guests, mt_check_rooms, mt_check_accepted, mt_House_init, mt_House_place_of, mt_House_check_room, mt_House_accepts, mt_check_house, mt_are_places, mt_is_good, mt_is_placing, mt_check_placing, mt_frees, mt_lets, mt_law_cell, mt_law_well, mt_law_dip, mt_law_names, mt_law_new_home, mt_law_all_lain, mt_law_full, mt_law_made, mt_law_let_moves, mt_law_pick, mt_law_right, mt_law, in_House, cl_len, houseD, lk_0, lk_1, lk_2, lk_3, lkm_0, lkm_1, lkm_2, lkm_3, fne_0_1, fnb_0_1, fne_0_2, fnb_0_2, fne_0_3, fnb_0_3, fne_1_0, fnb_1_0, fne_1_2, fnb_1_2, fne_1_3, fnb_1_3, fne_2_0, fnb_2_0, fne_2_1, fnb_2_1, fne_2_3, fnb_2_3, fne_3_0, fnb_3_0, fne_3_1, fnb_3_1, fne_3_2, fnb_3_2, fne_4_0, fnb_4_0, fne_4_1, fnb_4_1, fne_4_2, fnb_4_2, fne_4_3, fnb_4_3, fne_5_0, fnb_5_0, fne_5_1, fnb_5_1, fne_5_2, fnb_5_2, fne_5_3, fnb_5_3, fne_6_0, fnb_6_0, fne_6_1, fnb_6_1, fne_6_2, fnb_6_2, fne_6_3, fnb_6_3, fne_7_0, fnb_7_0, fne_7_1, fnb_7_1, fne_7_2, fnb_7_2, fne_7_3, fnb_7_3, tD, ttD]
    · have : ((p.map D.str).zip (a.map tD)).length ≤ 6 := by rw [List.length_zip, List.length_map]; omega
      rw [List.length_map]
      exact Nat.le_trans this (by decide)
    · obtain ⟨x, l, rfl, hx⟩ := zip_mem hp hy
      refine ⟨_, [.va (houseD g r a), .va (tD p), .va (.str x), .va (tD l)], rfl, ?_, rfl, rfl⟩
      have e := inD_tD x l
      simp [startE, exSs, exS, evE, evV, evPs, evR, evA, evO, evC, evI, exT, consM, setIxM, frzM, op2, pz, varM, opD, ixR, ixD, binD, frz, isOw, setAt, asgM, keepM, keepR, putSl, free, biM, biD, biInt, len_tup, len_lst, len_scr, len_dic, len_str, biTuple, biList, biAbs, biMax2, biMin2, biDivmod, consP, consR, consV, nilR, nilD, iteM, boolM, cmpR, cmpD, retM, retNM, endR, clean1, clean2, clean3, clean4, clean5, lentAt, Ct.d, putTg, putAll, parPut, parM, asgTuM, asgTM, tNilM, tNmM, tIxM, exM, nextM, ifeM, andM, orM, notM, negM, isNM, notNM, isTM, notTM, chainM, noO, soM, sliM, sliD, fldM, tupM, lstM, dataM, bmM, bmD, lendM, callM, callF, argSl, lentBack, slotsOf, makeM, insM, permM, permute, dataR, isM, isI_tup, isI_str, isI_tD, isI_ttD, isI_ins, len_tD, len_ttD, seqM, seqD, enmM, enmD, zipM, zipD, forM, dzM, trueM, mt_is_name, mt_wrong_name, mt_is_ascending, mt_is_one_of, mt_check_guests, mt_check_rooms, mt_check_accepted, mt_House_init, mt_House_place_of, mt_House_check_room, mt_House_accepts, mt_check_house, mt_are_places, mt_is_good, mt_is_placing, mt_check_placing, mt_frees, mt_lets, mt_law_cell, mt_law_well, mt_law_dip, mt_law_names, mt_law_new_home, mt_law_all_lain, mt_law_full, mt_law_made, mt_law_let_moves, mt_law_pick, mt_law_right, mt_law, in_House, cl_len, wipeE, e, hx]
  simp only [houseD] at c0 w1
  simp [startE, exSs, exS, evE, evV, evPs, evR, evA, evO, evC, evI, exT, consM, setIxM, frzM, op2, pz, varM, opD, ixR, ixD, binD, frz, isOw, setAt, asgM, keepM, keepR, putSl, free, biM, biD, biInt, len_tup, len_lst, len_scr, len_dic, len_str, biTuple, biList, biAbs, biMax2, biMin2, biDivmod, consP, consR, consV, nilR, nilD, iteM, boolM, cmpR, cmpD, retM, retNM, endR, clean1, clean2, clean3, clean4, clean5, lentAt, Ct.d, putTg, putAll, parPut, parM, asgTuM, asgTM, tNilM, tNmM, tIxM, exM, nextM, ifeM, andM, orM, notM, negM, isNM, notNM, isTM, notTM, chainM, noO, soM, sliM, sliD, fldM, tupM, lstM, dataM, bmM, bmD, lendM, callM, callF, argSl, lentBack, slotsOf, makeM, insM, permM, permute, dataR, isM, isI_tup, isI_str, isI_tD, isI_ttD, isI_ins, len_tD, len_ttD, seqM, seqD, enmM, enmD, zipM, zipD, forM, dzM, trueM, mt_is_name, mt_wrong_name, mt_is_ascending, mt_is_one_of, mt_check_guests, mt_check_rooms, mt_check_accepted, mt_House_init, mt_House_place_of, mt_House_check_room, mt_House_accepts, mt_check_house, mt_are_places, mt_is_good, mt_is_placing, mt_check_placing, mt_frees, mt_lets, mt_law_cell, mt_law_well, mt_law_dip, mt_law_names, mt_law_new_home, mt_law_all_lain, mt_law_full, mt_law_made, mt_law_let_moves, mt_law_pick, mt_law_right, mt_law, in_House, cl_len, f_is_good, b_is_good, houseD, lk_0, lk_1, lk_2, lk_3, lkm_0, lkm_1, lkm_2, lkm_3, fne_0_1, fnb_0_1, fne_0_2, fnb_0_2, fne_0_3, fnb_0_3, fne_1_0, fnb_1_0, fne_1_2, fnb_1_2, fne_1_3, fnb_1_3, fne_2_0, fnb_2_0, fne_2_1, fnb_2_1, fne_2_3, fnb_2_3, fne_3_0, fnb_3_0, fne_3_1, fnb_3_1, fne_3_2, fnb_3_2, fne_4_0, fnb_4_0, fne_4_1, fnb_4_1, fne_4_2, fnb_4_2, fne_4_3, fnb_4_3, fne_5_0, fnb_5_0, fne_5_1, fnb_5_1, fne_5_2, fnb_5_2, fne_5_3, fnb_5_3, fne_6_0, fnb_6_0, fne_6_1, fnb_6_1, fne_6_2, fnb_6_2, fne_6_3, fnb_6_3, fne_7_0, fnb_7_0, fne_7_1, fnb_7_1, fne_7_2, fnb_7_2, fne_7_3, fnb_7_3, w1, c0, biAll_comp]
theorem r_is_placing {k : Nat} {p : List Str} (h : Home g r a) (hp : Plc r a p) : runN Pg0 (k + 3) i_is_placing [.va (houseD g r a), .va (tD p)] = some (.dt (.bl true), [.no, .no]) := by
  rw [run_of (fn := f_is_placing) rfl rfl]
  have w1 := r_check_house (k := k + 1) (g := g) (r := r) (a := a)
  have w2 := r_is_good (k := k) h hp
  simp [startE, exSs, exS, evE, evV, evPs, evR, evA, evO, evC, evI, exT, consM, setIxM, frzM, op2, pz, varM, opD, ixR, ixD, binD, frz, isOw, setAt, asgM, keepM, keepR, putSl, free, biM, biD, biInt, len_tup, len_lst, len_scr, len_dic, len_str, biTuple, biList, biAbs, biMax2, biMin2, biDivmod, consP, consR, consV, nilR, nilD, iteM, boolM, cmpR, cmpD, retM, retNM, endR, clean1, clean2, clean3, clean4, clean5, lentAt, Ct.d, putTg, putAll, parPut, parM, asgTuM, asgTM, tNilM, tNmM, tIxM, exM, nextM, ifeM, andM, orM, notM, negM, isNM, notNM, isTM, notTM, chainM, noO, soM, sliM, sliD, fldM, tupM, lstM, dataM, bmM, bmD, lendM, callM, callF, argSl, lentBack, slotsOf, makeM, insM, permM, permute, dataR, isM, isI_tup, isI_str, isI_tD, isI_ttD, isI_ins, len_tD, len_ttD, seqM, seqD, enmM, enmD, zipM, zipD, forM, dzM, trueM, mt_is_name, mt_wrong_name, mt_is_ascending, mt_is_one_of, mt_check_guests, mt_check_rooms, mt_check_accepted, mt_House_init, mt_House_place_of, mt_House_check_room, mt_House_accepts, mt_check_house, mt_are_places, mt_is_good, mt_is_placing, mt_check_placing, mt_frees, mt_lets, mt_law_cell, mt_law_well, mt_law_dip, mt_law_names, mt_law_new_home, mt_law_all_lain, mt_law_full, mt_law_made, mt_law_let_moves, mt_law_pick, mt_law_right, mt_law, in_House, cl_len, f_is_placing, b_is_placing, w1, w2]
theorem r_check_placing {k : Nat} {p : List Str} (h : Home g r a) (hp : Plc r a p) : runN Pg0 (k + 3) i_check_placing [.va (houseD g r a), .va (tD p)] = some (.dt .non, [.no, .no]) := by
  rw [run_of (fn := f_check_placing) rfl rfl]
  have w2 := r_is_good (k := k) h hp
  simp [startE, exSs, exS, evE, evV, evPs, evR, evA, evO, evC, evI, exT, consM, setIxM, frzM, op2, pz, varM, opD, ixR, ixD, binD, frz, isOw, setAt, asgM, keepM, keepR, putSl, free, biM, biD, biInt, len_tup, len_lst, len_scr, len_dic, len_str, biTuple, biList, biAbs, biMax2, biMin2, biDivmod, consP, consR, consV, nilR, nilD, iteM, boolM, cmpR, cmpD, retM, retNM, endR, clean1, clean2, clean3, clean4, clean5, lentAt, Ct.d, putTg, putAll, parPut, parM, asgTuM, asgTM, tNilM, tNmM, tIxM, exM, nextM, ifeM, andM, orM, notM, negM, isNM, notNM, isTM, notTM, chainM, noO, soM, sliM, sliD, fldM, tupM, lstM, dataM, bmM, bmD, lendM, callM, callF, argSl, lentBack, slotsOf, makeM, insM, permM, permute, dataR, isM, isI_tup, isI_str, isI_tD, isI_ttD, isI_ins, len_tD, len_ttD, seqM, seqD, enmM, enmD, zipM, zipD, forM, dzM, trueM, mt_is_name, mt_wrong_name, mt_is_ascending, mt_is_one_of, mt_check_guests, mt_check_rooms, mt_check_accepted, mt_House_init, mt_House_place_of, mt_House_check_room, mt_House_accepts, mt_check_house, mt_are_places, mt_is_good, mt_is_placing, mt_check_placing, mt_frees, mt_lets, mt_law_cell, mt_law_well, mt_law_dip, mt_law_names, mt_law_new_home, mt_law_all_lain, mt_law_full, mt_law_made, mt_law_let_moves, mt_law_pick, mt_law_right, mt_law, in_House, cl_len, f_check_placing, b_check_placing, w2]
theorem r_frees {k : Nat} {p : List Str} (h : Home g r a) : runN Pg0 (k + 1) i_frees [.va (houseD g r a), .va (tD p)] = some (.nw (.lst ((r.filter fun x => !decide (x ∈ p)).map .str)), [.no, .no]) := by
  rw [run_of (fn := f_frees) rfl rfl]
  have hz : r.length ≤ sizeLine := Nat.le_trans h.r8 (by decide)
  have c0 : evE Pg0 (runN Pg0 k) e0_frees [.va (houseD g r a), .va (tD p), .no] = some (.nw (.lst (((r.map D.str).filter fun d => match d with | .str x => !decide (x ∈ p) | _ => false).map id)), [.va (houseD g r a), .va (tD p), .no]) := by
    refine lcM_pure (vs := [2]) (t := .nm 2) (it := evI Pg0 (runN Pg0 k) (.seq (.fld (.var 0) "rooms"))) (c := evC Pg0 (runN Pg0 k) (.so (.cmp .notin (.var 2) (.var 1)))) (e := varM 2) (env1 := [.va (houseD g r a), .va (tD p), .no]) _ id ?_ rfl (by simpa using hz) (fun y hy => ?_)
    · simp [startE, exSs, exS, evE, evV, evPs, evR, evA, evO, evC, evI, exT, consM, setIxM, frzM, op2, pz, varM, opD, ixR, ixD, binD, frz, isOw, setAt, asgM, keepM, keepR, putSl, free, biM, biD, biInt, len_tup, len_lst, len_scr, len_dic, len_str, biTuple, biList, biAbs, biMax2, biMin2, biDivmod, consP, consR, consV, nilR, nilD, iteM, boolM, cmpR, cmpD, retM, retNM, endR, clean1, clean2, clean3, clean4, clean5, lentAt, Ct.d, putTg, putAll, parPut, parM, asgTuM, asgTM, tNilM, tNmM, tIxM, exM, nextM, ifeM, andM, orM, notM, negM, isNM, notNM, isTM, notTM, chainM, noO, soM, sliM, sliD, fldM, tupM, lstM, dataM, bmM, bmD, lendM, callM, callF, argSl, lentBack, slotsOf, makeM, insM, permM, permute, dataR, isM, isI_tup, isI_str, isI_tD, isI_ttD, isI_ins, len_tD, len_ttD, seqM, seqD, enmM, enmD, zipM, zipD, forM, dzM, trueM, mt_is_name, mt_wrong_name, mt_is_ascending, mt_is_one_of, mt_check_guests, mt_check_rooms, mt_check_accepted, mt_House_init, mt_House_place_of, mt_House_check_room, mt_House_accepts, mt_check_house, mt_are_places, mt_is_good, mt_is_placing, mt_check_placing, mt_frees, mt_lets, mt_law_cell, mt_law_well, mt_law_dip, mt_law_names, mt_law_new_home, mt_law_all_lain, mt_law_full, mt_law_made, mt_law_let_moves, mt_law_pick, mt_law_right, mt_law, in_House, cl_len, houseD, lk_0, lk_1, lk_2, lk_3, lkm_0, lkm_1, lkm_2, lkm_3, fne_0_1, fnb_0_1, fne_0_2, fnb_0_2, fne_0_3, fnb_0_3, fne_1_0, fnb_1_0, fne_1_2, fnb_1_2, fne_1_3, fnb_1_3, fne_2_0, fnb_2_0, fne_2_1, fnb_2_1, fne_2_3, fnb_2_3, fne_3_0, fnb_3_0, fne_3_1, fnb_3_1, fne_3_2, fnb_3_2, fne_4_0, fnb_4_0, fne_4_1, fnb_4_1, fne_4_2, fnb_4_2, fne_4_3, fnb_4_3, fne_5_0, fnb_5_0, fne_5_1, fnb_5_1, fne_5_2, fnb_5_2, fne_5_3, fnb_5_3, fne_6_0, fnb_6_0, fne_6_1, fnb_6_1, fne_6_2, fnb_6_2, fne_6_3, fnb_6_3, fne_7_0, fnb_7_0, fne_7_1, fnb_7_1, fne_7_2, fnb_7_2, fne_7_3, fnb_7_3, tD]
    · obtain ⟨x, hx, rfl⟩ := List.mem_map.mp hy
      refine ⟨_, [.va (houseD g r a), .va (tD p), .va (.str x)], rfl, ?_, rfl, fun _ => ⟨_, rfl, rfl⟩⟩
      have e := inD_tD x p
      simp [startE, exSs, exS, evE, evV, evPs, evR, evA, evO, evC, evI, exT, consM, setIxM, frzM, op2, pz, varM, opD, ixR, ixD, binD, frz, isOw, setAt, asgM, keepM, keepR, putSl, free, biM, biD, biInt, len_tup, len_lst, len_scr, len_dic, len_str, biTuple, biList, biAbs, biMax2, biMin2, biDivmod, consP, consR, consV, nilR, nilD, iteM, boolM, cmpR, cmpD, retM, retNM, endR, clean1, clean2, clean3, clean4, clean5, lentAt, Ct.d, putTg, putAll, parPut, parM, asgTuM, asgTM, tNilM, tNmM, tIxM, exM, nextM, ifeM, andM, orM, notM, negM, isNM, notNM, isTM, notTM, chainM, noO, soM, sliM, sliD, fldM, tupM, lstM, dataM, bmM, bmD, lendM, callM, callF, argSl, lentBack, slotsOf, makeM, insM, permM, permute, dataR, isM, isI_tup, isI_str, isI_tD, isI_ttD, isI_ins, len_tD, len_ttD, seqM, seqD, enmM, enmD, zipM, zipD, forM, dzM, trueM, mt_is_name, mt_wrong_name, mt_is_ascending, mt_is_one_of, mt_check_guests, mt_check_rooms, mt_check_accepted, mt_House_init, mt_House_place_of, mt_House_check_room, mt_House_accepts, mt_check_house, mt_are_places, mt_is_good, mt_is_placing, mt_check_placing, mt_frees, mt_lets, mt_law_cell, mt_law_well, mt_law_dip, mt_law_names, mt_law_new_home, mt_law_all_lain, mt_law_full, mt_law_made, mt_law_let_moves, mt_law_pick, mt_law_right, mt_law, in_House, cl_len, wipeE, e]
  have e : ((r.map D.str).filter fun d => match d with | .str x => !decide (x ∈ p) | _ => false).map id = (r.filter fun x => !decide (x ∈ p)).map D.str := by
    rw [List.map_id, List.filter_map]; rfl
  rw [e] at c0
  simp [startE, exSs, exS, evE, evV, evPs, evR, evA, evO, evC, evI, exT, consM, setIxM, frzM, op2, pz, varM, opD, ixR, ixD, binD, frz, isOw, setAt, asgM, keepM, keepR, putSl, free, biM, biD, biInt, len_tup, len_lst, len_scr, len_dic, len_str, biTuple, biList, biAbs, biMax2, biMin2, biDivmod, consP, consR, consV, nilR, nilD, iteM, boolM, cmpR, cmpD, retM, retNM, endR, clean1, clean2, clean3, clean4, clean5, lentAt, Ct.d, putTg, putAll, parPut, parM, asgTuM, asgTM, tNilM, tNmM, tIxM, exM, nextM, ifeM, andM, orM, notM, negM, isNM, notNM, isTM, notTM, chainM, noO, soM, sliM, sliD, fldM, tupM, lstM, dataM, bmM, bmD, lendM, callM, callF, argSl, lentBack, slotsOf, makeM, insM, permM, permute, dataR, isM, isI_tup, isI_str, isI_tD, isI_ttD, isI_ins, len_tD, len_ttD, seqM, seqD, enmM, enmD, zipM, zipD, forM, dzM, trueM, mt_is_name, mt_wrong_name, mt_is_ascending, mt_is_one_of, mt_check_guests, mt_check_rooms, mt_check_accepted, mt_House_init, mt_House_place_of, mt_House_check_room, mt_House_accepts, mt_check_house, mt_are_places, mt_is_good, mt_is_placing, mt_check_placing, mt_frees, mt_lets, mt_law_cell, mt_law_well, mt_law_dip, mt_law_names, mt_law_new_home, mt_law_all_lain, mt_law_full, mt_law_made, mt_law_let_moves, mt_law_pick, mt_law_right, mt_law, in_House, cl_len, f_frees, b_frees, c0]
theorem r_lets {k i : Nat} {p : List Str} {y : Str} (h : Home g r a) (hp : Plc r a p) (hi : i < g.length) (hi2 : i < a.length) (hy : y ∈ r) :
    runN Pg0 (k + 4) i_lets [.va (houseD g r a), .va (tD p), .va (.str g[i]), .va (.str y)] = some (.dt (.bl (decide (y ∈ a[i] ∧ y ∉ p))), [.no, .no, .no, .no]) := by
  rw [run_of (fn := f_lets) rfl rfl]
  have w1 := r_check_house (k := k + 2) (g := g) (r := r) (a := a)
  have w2 := r_check_placing (k := k) h hp
  have w3 := r_accepts (k := k) h hi hi2 hy
  have w4 := r_frees (k := k + 2) (p := p) h
  have e := inD_lst y (r.filter fun x => !decide (x ∈ p))
  have e2 : (y ∈ r.filter fun x => !decide (x ∈ p)) ↔ y ∉ p := by simp [hy]
  simp only [houseD] at w1 w2 w3 w4
  by_cases q : y ∈ a[i]
  · simp only [e2] at e
    simp [startE, exSs, exS, evE, evV, evPs, evR, evA, evO, evC, evI, exT, consM, setIxM, frzM, op2, pz, varM, opD, ixR, ixD, binD, frz, isOw, setAt, asgM, keepM, keepR, putSl, free, biM, biD, biInt, len_tup, len_lst, len_scr, len_dic, len_str, biTuple, biList, biAbs, biMax2, biMin2, biDivmod, consP, consR, consV, nilR, nilD, iteM, boolM, cmpR, cmpD, retM, retNM, endR, clean1, clean2, clean3, clean4, clean5, lentAt, Ct.d, putTg, putAll, parPut, parM, asgTuM, asgTM, tNilM, tNmM, tIxM, exM, nextM, ifeM, andM, orM, notM, negM, isNM, notNM, isTM, notTM, chainM, noO, soM, sliM, sliD, fldM, tupM, lstM, dataM, bmM, bmD, lendM, callM, callF, argSl, lentBack, slotsOf, makeM, insM, permM, permute, dataR, isM, isI_tup, isI_str, isI_tD, isI_ttD, isI_ins, len_tD, len_ttD, seqM, seqD, enmM, enmD, zipM, zipD, forM, dzM, trueM, mt_is_name, mt_wrong_name, mt_is_ascending, mt_is_one_of, mt_check_guests, mt_check_rooms, mt_check_accepted, mt_House_init, mt_House_place_of, mt_House_check_room, mt_House_accepts, mt_check_house, mt_are_places, mt_is_good, mt_is_placing, mt_check_placing, mt_frees, mt_lets, mt_law_cell, mt_law_well, mt_law_dip, mt_law_names, mt_law_new_home, mt_law_all_lain, mt_law_full, mt_law_made, mt_law_let_moves, mt_law_pick, mt_law_right, mt_law, in_House, cl_len, f_lets, b_lets, houseD, lk_0, lk_1, lk_2, lk_3, lkm_0, lkm_1, lkm_2, lkm_3, fne_0_1, fnb_0_1, fne_0_2, fnb_0_2, fne_0_3, fnb_0_3, fne_1_0, fnb_1_0, fne_1_2, fnb_1_2, fne_1_3, fnb_1_3, fne_2_0, fnb_2_0, fne_2_1, fnb_2_1, fne_2_3, fnb_2_3, fne_3_0, fnb_3_0, fne_3_1, fnb_3_1, fne_3_2, fnb_3_2, fne_4_0, fnb_4_0, fne_4_1, fnb_4_1, fne_4_2, fnb_4_2, fne_4_3, fnb_4_3, fne_5_0, fnb_5_0, fne_5_1, fnb_5_1, fne_5_2, fnb_5_2, fne_5_3, fnb_5_3, fne_6_0, fnb_6_0, fne_6_1, fnb_6_1, fne_6_2, fnb_6_2, fne_6_3, fnb_6_3, fne_7_0, fnb_7_0, fne_7_1, fnb_7_1, fne_7_2, fnb_7_2, fne_7_3, fnb_7_3, w1, w2, w3, w4, e, q]
  · simp [startE, exSs, exS, evE, evV, evPs, evR, evA, evO, evC, evI, exT, consM, setIxM, frzM, op2, pz, varM, opD, ixR, ixD, binD, frz, isOw, setAt, asgM, keepM, keepR, putSl, free, biM, biD, biInt, len_tup, len_lst, len_scr, len_dic, len_str, biTuple, biList, biAbs, biMax2, biMin2, biDivmod, consP, consR, consV, nilR, nilD, iteM, boolM, cmpR, cmpD, retM, retNM, endR, clean1, clean2, clean3, clean4, clean5, lentAt, Ct.d, putTg, putAll, parPut, parM, asgTuM, asgTM, tNilM, tNmM, tIxM, exM, nextM, ifeM, andM, orM, notM, negM, isNM, notNM, isTM, notTM, chainM, noO, soM, sliM, sliD, fldM, tupM, lstM, dataM, bmM, bmD, lendM, callM, callF, argSl, lentBack, slotsOf, makeM, insM, permM, permute, dataR, isM, isI_tup, isI_str, isI_tD, isI_ttD, isI_ins, len_tD, len_ttD, seqM, seqD, enmM, enmD, zipM, zipD, forM, dzM, trueM, mt_is_name, mt_wrong_name, mt_is_ascending, mt_is_one_of, mt_check_guests, mt_check_rooms, mt_check_accepted, mt_House_init, mt_House_place_of, mt_House_check_room, mt_House_accepts, mt_check_house, mt_are_places, mt_is_good, mt_is_placing, mt_check_placing, mt_frees, mt_lets, mt_law_cell, mt_law_well, mt_law_dip, mt_law_names, mt_law_new_home, mt_law_all_lain, mt_law_full, mt_law_made, mt_law_let_moves, mt_law_pick, mt_law_right, mt_law, in_House, cl_len, f_lets, b_lets, houseD, lk_0, lk_1, lk_2, lk_3, lkm_0, lkm_1, lkm_2, lkm_3, fne_0_1, fnb_0_1, fne_0_2, fnb_0_2, fne_0_3, fnb_0_3, fne_1_0, fnb_1_0, fne_1_2, fnb_1_2, fne_1_3, fnb_1_3, fne_2_0, fnb_2_0, fne_2_1, fnb_2_1, fne_2_3, fnb_2_3, fne_3_0, fnb_3_0, fne_3_1, fnb_3_1, fne_3_2, fnb_3_2, fne_4_0, fnb_4_0, fne_4_1, fnb_4_1, fne_4_2, fnb_4_2, fne_4_3, fnb_4_3, fne_5_0, fnb_5_0, fne_5_1, fnb_5_1, fne_5_2, fnb_5_2, fne_5_3, fnb_5_3, fne_6_0, fnb_6_0, fne_6_1, fnb_6_1, fne_6_2, fnb_6_2, fne_6_3, fnb_6_3, fne_7_0, fnb_7_0, fne_7_1, fnb_7_1, fne_7_2, fnb_7_2, fne_7_3, fnb_7_3, w1, w2, w3, q]
end
end VI
namespace VI
open PySem L2
theorem r_cell {k i : Nat} {ns : List Int} (hi : i < 100) : ∃ v, runN Pg0 (k + 1) i_law_cell [.va (.scr ns), .va (.int i)] = some (.dt (.int v), [.no, .no]) := by
  rw [run_of (fn := f_law_cell) rfl rfl]
  by_cases q : i < ns.length
  · have q2 : (i : Int) < (ns.length : Int) := by omega
    exact ⟨ns[i], by simp [startE, exSs, exS, evE, evV, evPs, evR, evA, evO, evC, evI, exT, consM, setIxM, frzM, op2, pz, varM, opD, ixR, ixD, binD, frz, isOw, setAt, asgM, keepM, keepR, putSl, free, biM, biD, biInt, len_tup, len_lst, len_scr, len_dic, len_str, biTuple, biList, biAbs, biMax2, biMin2, biDivmod, consP, consR, consV, nilR, nilD, iteM, boolM, cmpR, cmpD, retM, retNM, endR, clean1, clean2, clean3, clean4, clean5, lentAt, Ct.d, putTg, putAll, parPut, parM, asgTuM, asgTM, tNilM, tNmM, tIxM, exM, nextM, ifeM, andM, orM, notM, negM, isNM, notNM, isTM, notTM, chainM, noO, soM, sliM, sliD, fldM, tupM, lstM, dataM, bmM, bmD, lendM, callM, callF, argSl, lentBack, slotsOf, makeM, insM, permM, permute, dataR, isM, isI_tup, isI_str, isI_tD, isI_ttD, isI_ins, len_tD, len_ttD, seqM, seqD, enmM, enmD, zipM, zipD, forM, dzM, trueM, mt_is_name, mt_wrong_name, mt_is_ascending, mt_is_one_of, mt_check_guests, mt_check_rooms, mt_check_accepted, mt_House_init, mt_House_place_of, mt_House_check_room, mt_House_accepts, mt_check_house, mt_are_places, mt_is_good, mt_is_placing, mt_check_placing, mt_frees, mt_lets, mt_law_cell, mt_law_well, mt_law_dip, mt_law_names, mt_law_new_home, mt_law_all_lain, mt_law_full, mt_law_made, mt_law_let_moves, mt_law_pick, mt_law_right, mt_law, in_House, cl_len, f_law_cell, b_law_cell, q2, atI_cast, q]⟩
  · have q2 : ¬ ((i : Int) < (ns.length : Int)) := by omega
    have hs : ∃ m x, exS Pg0 (runN Pg0 k) s1_law_cell [.va (.scr ns), .va (.int i), .va (.int (830477 + 30113 * (i : Int))), .no] = some (.next, [.va (.scr ns), .va (.int i), .va (.int m), x]) := by
      have w := forL_inv (t := .nm 3) (b := exSs Pg0 (runN Pg0 k) b0_law_cell) (fun pre env => ∃ m x, env = [.va (.scr ns), .va (.int i), .va (.int m), x] ∧ Pl x) (fun _ _ => False)
        (cutD (ns.map .int) none (some 5)) (cutD (ns.map .int) none (some 5)) [] [.va (.scr ns), .va (.int i), .va (.int (830477 + 30113 * (i : Int))), .no] rfl ⟨_, _, rfl, .no⟩ (fun pre x post env q ⟨m, y, e, f1⟩ => by
          subst e
          have hx : x ∈ cutD (ns.map .int) none (some 5) := by rw [← q]; simp
          obtain ⟨n, hn⟩ : ∃ n, x = .int n := by
            have h1 : x ∈ ns.map D.int := List.mem_of_mem_drop (List.mem_of_mem_take hx)
            obtain ⟨n, _, rfl⟩ := List.mem_map.mp h1
            exact ⟨n, rfl⟩
          subst hn
          have c1 : CMul m 47059 := .inr ⟨by decide, by decide⟩
          have c2 : CMul n 1009 := .inr ⟨by decide, by decide⟩
          refine ⟨[.va (.scr ns), .va (.int i), .va (.int m), .va (.int n)], .next, [.va (.scr ns), .va (.int i), .va (.int ((m * 47059 + n * 1009 + i) % 2147483563)), .va (.int n)], ?_, ?_, fun _ => ⟨_, _, rfl, .va _⟩, by simp, fun r h => nomatch h⟩
          · rcases f1 with rfl | ⟨d, rfl⟩ <;> rfl
          · simp [startE, exSs, exS, evE, evV, evPs, evR, evA, evO, evC, evI, exT, consM, setIxM, frzM, op2, pz, varM, opD, ixR, ixD, binD, frz, isOw, setAt, asgM, keepM, keepR, putSl, free, biM, biD, biInt, len_tup, len_lst, len_scr, len_dic, len_str, biTuple, biList, biAbs, biMax2, biMin2, biDivmod, consP, consR, consV, nilR, nilD, iteM, boolM, cmpR, cmpD, retM, retNM, endR, clean1, clean2, clean3, clean4, clean5, lentAt, Ct.d, putTg, putAll, parPut, parM, asgTuM, asgTM, tNilM, tNmM, tIxM, exM, nextM, ifeM, andM, orM, notM, negM, isNM, notNM, isTM, notTM, chainM, noO, soM, sliM, sliD, fldM, tupM, lstM, dataM, bmM, bmD, lendM, callM, callF, argSl, lentBack, slotsOf, makeM, insM, permM, permute, dataR, isM, isI_tup, isI_str, isI_tD, isI_ttD, isI_ins, len_tD, len_ttD, seqM, seqD, enmM, enmD, zipM, zipD, forM, dzM, trueM, mt_is_name, mt_wrong_name, mt_is_ascending, mt_is_one_of, mt_check_guests, mt_check_rooms, mt_check_accepted, mt_House_init, mt_House_place_of, mt_House_check_room, mt_House_accepts, mt_check_house, mt_are_places, mt_is_good, mt_is_placing, mt_check_placing, mt_frees, mt_lets, mt_law_cell, mt_law_well, mt_law_dip, mt_law_names, mt_law_new_home, mt_law_all_lain, mt_law_full, mt_law_made, mt_law_let_moves, mt_law_pick, mt_law_right, mt_law, in_House, cl_len, b0_law_cell, c1, c2])
      obtain ⟨fl, env', k1, k2 | ⟨r, _, k3⟩⟩ := w
      · obtain ⟨rfl, m, x, rfl, _⟩ := k2
        refine ⟨m, x, ?_⟩
        simp only [s1_law_cell, exS, forM, evI, seqM, frzM, evE, evO, sliM, varM, pz, List.getElem?_cons_zero, soM, noO, Ct.d, opD, sliD, frz, seqD, Option.map]
        exact k1
      · exact k3.elim
    obtain ⟨m, x, hs⟩ := hs
    have c1 : CMul 30113 (i : Int) := .inl ⟨by decide, by decide⟩
    exact ⟨m, by simp [startE, exSs, exS, evE, evV, evPs, evR, evA, evO, evC, evI, exT, consM, setIxM, frzM, op2, pz, varM, opD, ixR, ixD, binD, frz, isOw, setAt, asgM, keepM, keepR, putSl, free, biM, biD, biInt, len_tup, len_lst, len_scr, len_dic, len_str, biTuple, biList, biAbs, biMax2, biMin2, biDivmod, consP, consR, consV, nilR, nilD, iteM, boolM, cmpR, cmpD, retM, retNM, endR, clean1, clean2, clean3, clean4, clean5, lentAt, Ct.d, putTg, putAll, parPut, parM, asgTuM, asgTM, tNilM, tNmM, tIxM, exM, nextM, ifeM, andM, orM, notM, negM, isNM, notNM, isTM, notTM, chainM, noO, soM, sliM, sliD, fldM, tupM, lstM, dataM, bmM, bmD, lendM, callM, callF, argSl, lentBack, slotsOf, makeM, insM, permM, permute, dataR, isM, isI_tup, isI_str, isI_tD, isI_ttD, isI_ins, len_tD, len_ttD, seqM, seqD, enmM, enmD, zipM, zipD, forM, dzM, trueM, mt_is_name, mt_wrong_name, mt_is_ascending, mt_is_one_of, mt_check_guests, mt_check_rooms, mt_check_accepted, mt_House_init, mt_House_place_of, mt_House_check_room, mt_House_accepts, mt_check_house, mt_are_places, mt_is_good, mt_is_placing, mt_check_placing, mt_frees, mt_lets, mt_law_cell, mt_law_well, mt_law_dip, mt_law_names, mt_law_new_home, mt_law_all_lain, mt_law_full, mt_law_made, mt_law_let_moves, mt_law_pick, mt_law_right, mt_law, in_House, cl_len, f_law_cell, b_law_cell, q2, c1, hs]⟩
theorem r_well {k : Nat} {c : Int} : ∃ j, Jar j ∧ runN Pg0 (k + 1) i_law_well [.va (.int c)] = some (.nw j, [.no]) := by
  rw [run_of (fn := f_law_well) rfl rfl]
  have cp : CPow 10 18 := ⟨by decide, by decide, by decide⟩
  by_cases q1 : c < 0
  · exact ⟨jarD (-c) (c % 2147483587) 0, ⟨_, _, _, by omega, rfl⟩, by simp [startE, exSs, exS, evE, evV, evPs, evR, evA, evO, evC, evI, exT, consM, setIxM, frzM, op2, pz, varM, opD, ixR, ixD, binD, frz, isOw, setAt, asgM, keepM, keepR, putSl, free, biM, biD, biInt, len_tup, len_lst, len_scr, len_dic, len_str, biTuple, biList, biAbs, biMax2, biMin2, biDivmod, consP, consR, consV, nilR, nilD, iteM, boolM, cmpR, cmpD, retM, retNM, endR, clean1, clean2, clean3, clean4, clean5, lentAt, Ct.d, putTg, putAll, parPut, parM, asgTuM, asgTM, tNilM, tNmM, tIxM, exM, nextM, ifeM, andM, orM, notM, negM, isNM, notNM, isTM, notTM, chainM, noO, soM, sliM, sliD, fldM, tupM, lstM, dataM, bmM, bmD, lendM, callM, callF, argSl, lentBack, slotsOf, makeM, insM, permM, permute, dataR, isM, isI_tup, isI_str, isI_tD, isI_ttD, isI_ins, len_tD, len_ttD, seqM, seqD, enmM, enmD, zipM, zipD, forM, dzM, trueM, mt_is_name, mt_wrong_name, mt_is_ascending, mt_is_one_of, mt_check_guests, mt_check_rooms, mt_check_accepted, mt_House_init, mt_House_place_of, mt_House_check_room, mt_House_accepts, mt_check_house, mt_are_places, mt_is_good, mt_is_placing, mt_check_placing, mt_frees, mt_lets, mt_law_cell, mt_law_well, mt_law_dip, mt_law_names, mt_law_new_home, mt_law_all_lain, mt_law_full, mt_law_made, mt_law_let_moves, mt_law_pick, mt_law_right, mt_law, in_House, cl_len, f_law_well, b_law_well, q1, jarD, sizeLine]⟩
  · by_cases q2 : (1000000000000000000 : Int) ≤ c
    · exact ⟨jarD c (c % 2147483587) 0, ⟨_, _, _, by omega, rfl⟩, by simp [startE, exSs, exS, evE, evV, evPs, evR, evA, evO, evC, evI, exT, consM, setIxM, frzM, op2, pz, varM, opD, ixR, ixD, binD, frz, isOw, setAt, asgM, keepM, keepR, putSl, free, biM, biD, biInt, len_tup, len_lst, len_scr, len_dic, len_str, biTuple, biList, biAbs, biMax2, biMin2, biDivmod, consP, consR, consV, nilR, nilD, iteM, boolM, cmpR, cmpD, retM, retNM, endR, clean1, clean2, clean3, clean4, clean5, lentAt, Ct.d, putTg, putAll, parPut, parM, asgTuM, asgTM, tNilM, tNmM, tIxM, exM, nextM, ifeM, andM, orM, notM, negM, isNM, notNM, isTM, notTM, chainM, noO, soM, sliM, sliD, fldM, tupM, lstM, dataM, bmM, bmD, lendM, callM, callF, argSl, lentBack, slotsOf, makeM, insM, permM, permute, dataR, isM, isI_tup, isI_str, isI_tD, isI_ttD, isI_ins, len_tD, len_ttD, seqM, seqD, enmM, enmD, zipM, zipD, forM, dzM, trueM, mt_is_name, mt_wrong_name, mt_is_ascending, mt_is_one_of, mt_check_guests, mt_check_rooms, mt_check_accepted, mt_House_init, mt_House_place_of, mt_House_check_room, mt_House_accepts, mt_check_house, mt_are_places, mt_is_good, mt_is_placing, mt_check_placing, mt_frees, mt_lets, mt_law_cell, mt_law_well, mt_law_dip, mt_law_names, mt_law_new_home, mt_law_all_lain, mt_law_full, mt_law_made, mt_law_let_moves, mt_law_pick, mt_law_right, mt_law, in_House, cl_len, f_law_well, b_law_well, q1, q2, cp, jarD, sizeLine]⟩
    · exact ⟨jarD 0 (c % 2147483587) 0, ⟨_, _, _, by omega, rfl⟩, by simp [startE, exSs, exS, evE, evV, evPs, evR, evA, evO, evC, evI, exT, consM, setIxM, frzM, op2, pz, varM, opD, ixR, ixD, binD, frz, isOw, setAt, asgM, keepM, keepR, putSl, free, biM, biD, biInt, len_tup, len_lst, len_scr, len_dic, len_str, biTuple, biList, biAbs, biMax2, biMin2, biDivmod, consP, consR, consV, nilR, nilD, iteM, boolM, cmpR, cmpD, retM, retNM, endR, clean1, clean2, clean3, clean4, clean5, lentAt, Ct.d, putTg, putAll, parPut, parM, asgTuM, asgTM, tNilM, tNmM, tIxM, exM, nextM, ifeM, andM, orM, notM, negM, isNM, notNM, isTM, notTM, chainM, noO, soM, sliM, sliD, fldM, tupM, lstM, dataM, bmM, bmD, lendM, callM, callF, argSl, lentBack, slotsOf, makeM, insM, permM, permute, dataR, isM, isI_tup, isI_str, isI_tD, isI_ttD, isI_ins, len_tD, len_ttD, seqM, seqD, enmM, enmD, zipM, zipD, forM, dzM, trueM, mt_is_name, mt_wrong_name, mt_is_ascending, mt_is_one_of, mt_check_guests, mt_check_rooms, mt_check_accepted, mt_House_init, mt_House_place_of, mt_House_check_room, mt_House_accepts, mt_check_house, mt_are_places, mt_is_good, mt_is_placing, mt_check_placing, mt_frees, mt_lets, mt_law_cell, mt_law_well, mt_law_dip, mt_law_names, mt_law_new_home, mt_law_all_lain, mt_law_full, mt_law_made, mt_law_let_moves, mt_law_pick, mt_law_right, mt_law, in_House, cl_len, f_law_well, b_law_well, q1, q2, cp, jarD, sizeLine]⟩
/-! names -/
def folkS : List Str := ["ann", "bob", "cy", "rooms", "zzzzzzzz", "go", "a", "ab", "in", "loose", "b"]
def hallS : List Str := ["p", "red", "q", "attic", "out", "abcdefgh", "hall", "aa", "r", "free", "good"]
theorem nm_dec : ∀ x ∈ folkS ++ hallS, 1 ≤ x.length ∧ x.length ≤ 8 ∧ x ≠ "none" ∧ (∀ c ∈ x.cps.toList, c ∈ lets0.cps.toList) ∧ PyData.strOk x = true := by decide +kernel
theorem nm_ok {x : Str} (h : x ∈ folkS ++ hallS) : IsNm x := let ⟨h1, h2, h3, h4, h5⟩ := nm_dec x h; ⟨h1, h2, h3, h4, h5⟩
theorem apart : ∀ x ∈ hallS, x ∉ folkS := by decide +kernel
theorem folk_nd : folkS.Nodup := by decide +kernel
theorem hall_nd : hallS.Nodup := by decide +kernel
def nmL (st : List Str) (u v n : Nat) : List Str := (List.range n).map fun k => st.getD ((u + v * k) % 11) ""
theorem ix_nd : ∀ u < 11, ∀ v < 11, 1 ≤ v → ((List.range 8).map fun k => (u + v * k) % 11).Nodup := by decide +kernel
theorem nmL_nd {st : List Str} (hs : st.Nodup) (hl : st.length = 11) {u v n : Nat} (hu : u < 11) (hv : v < 11) (h1 : 1 ≤ v) (hn : n ≤ 8) : (nmL st u v n).Nodup := by
  have e : nmL st u v n = (((List.range 8).map fun k => (u + v * k) % 11).take n).map fun i => st.getD i "" := by
    unfold nmL
    rw [← List.map_take, List.take_range, Nat.min_eq_left hn, List.map_map]
    rfl
  rw [e]
  have nd := (ix_nd u hu v hv h1).sublist (List.take_sublist n _)
  rw [List.Nodup, List.pairwise_map]
  refine List.Pairwise.imp_of_mem (fun {a b} ha hb hne e => ?_) nd
  have lt : ∀ c ∈ ((List.range 8).map fun k => (u + v * k) % 11).take n, c < 11 := fun c hc => by
    obtain ⟨k, _, rfl⟩ := List.mem_map.mp (List.mem_of_mem_take hc)
    exact Nat.mod_lt _ (by decide)
  have ha' := lt a ha
  have hb' := lt b hb
  rw [List.getD_eq_getElem?_getD, List.getD_eq_getElem?_getD, List.getElem?_eq_getElem (by omega), List.getElem?_eq_getElem (by omega)] at e
  have e' : st[a]'(by omega) = st[b]'(by omega) := e
  rcases Nat.lt_trichotomy a b with q | q | q
  · exact List.pairwise_iff_getElem.mp hs a b (by omega) (by omega) q e'
  · exact hne q
  · exact List.pairwise_iff_getElem.mp hs b a (by omega) (by omega) q e'.symm
theorem nmL_mem {st : List Str} (hl : st.length = 11) {u v n : Nat} : ∀ x ∈ nmL st u v n, x ∈ st := fun x hx => by
  obtain ⟨k, _, rfl⟩ := List.mem_map.mp hx
  have : (u + v * k) % 11 < st.length := by rw [hl]; exact Nat.mod_lt _ (by decide)
  rw [List.getD_eq_getElem?_getD, List.getElem?_eq_getElem this]
  exact List.getElem_mem this
theorem nmL_len {st : List Str} {u v n : Nat} : (nmL st u v n).length = n := by simp [nmL]
theorem names_core {k n : Nat} {st : List Str} {j : D} {u v : Nat} {b : D} (hl : st.length = 11) (hn : n ≤ 8) :
    evE Pg0 (runN Pg0 k) e2_law_names [.ow true j, .va (.int n), .va b, .ow false (.lst (st.map .str)), .va (.int u), .va (.int v), .no] = some (.nw (.lst ((nmL st u v n).map .str)), [.ow true j, .va (.int n), .va b, .ow false (.lst (st.map .str)), .va (.int u), .va (.int v), .no]) := by
  have w := lcM_map (vs := [6]) (t := .nm 6) (it := evI Pg0 (runN Pg0 k) (.rng1 (.var 1))) (e := evE Pg0 (runN Pg0 k) (.ix (.var 3) (.bin .mod (.bi .int (.cons (.bin .add (.var 4) (.bin .mul (.var 5) (.var 6))) .nil)) (.cst (.int 11)))))
    (env := [.ow true j, .va (.int n), .va b, .ow false (.lst (st.map .str)), .va (.int u), .va (.int v), .no]) (env1 := [.ow true j, .va (.int n), .va b, .ow false (.lst (st.map .str)), .va (.int u), .va (.int v), .no])
    (xs := (List.range (n : Int).toNat).map fun (k : Nat) => .int (k : Int)) (fun d => match d with | .int i => .str (st.getD ((u + v * i.toNat) % 11) "") | _ => .non) (by
      unfold evI
      exact rng1_ok (by simp [startE, exSs, exS, evE, evV, evPs, evR, evA, evO, evC, evI, exT, consM, setIxM, frzM, op2, pz, varM, opD, ixR, ixD, binD, frz, isOw, setAt, asgM, keepM, keepR, putSl, free, biM, biD, biInt, len_tup, len_lst, len_scr, len_dic, len_str, biTuple, biList, biAbs, biMax2, biMin2, biDivmod, consP, consR, consV, nilR, nilD, iteM, boolM, cmpR, cmpD, retM, retNM, endR, clean1, clean2, clean3, clean4, clean5, lentAt, Ct.d, putTg, putAll, parPut, parM, asgTuM, asgTM, tNilM, tNmM, tIxM, exM, nextM, ifeM, andM, orM, notM, negM, isNM, notNM, isTM, notTM, chainM, noO, soM, sliM, sliD, fldM, tupM, lstM, dataM, bmM, bmD, lendM, callM, callF, argSl, lentBack, slotsOf, makeM, insM, permM, permute, dataR, isM, isI_tup, isI_str, isI_tD, isI_ttD, isI_ins, len_tD, len_ttD, seqM, seqD, enmM, enmD, zipM, zipD, forM, dzM, trueM, mt_is_name, mt_wrong_name, mt_is_ascending, mt_is_one_of, mt_check_guests, mt_check_rooms, mt_check_accepted, mt_House_init, mt_House_place_of, mt_House_check_room, mt_House_accepts, mt_check_house, mt_are_places, mt_is_good, mt_is_placing, mt_check_placing, mt_frees, mt_lets, mt_law_cell, mt_law_well, mt_law_dip, mt_law_names, mt_law_new_home, mt_law_all_lain, mt_law_full, mt_law_made, mt_law_let_moves, mt_law_pick, mt_law_right, mt_law, in_House, cl_len]) (by omega) (by omega)) rfl (by simp; exact Nat.le_trans hn (by decide)) (fun y hy => by
      obtain ⟨i, hi, rfl⟩ := List.mem_map.mp hy
      have c1 : CMul (v : Int) (i : Int) := .inr (by have := List.mem_range.mp hi; simp at this; constructor <;> omega)
      refine ⟨_, [.ow true j, .va (.int n), .va b, .ow false (.lst (st.map .str)), .va (.int u), .va (.int v), .va (.int (i : Int))], rfl, ?_, rfl, rfl⟩
      have lt : (u + v * i) % 11 < st.length := by rw [hl]; exact Nat.mod_lt _ (by decide)
      have e1 : ((u : Int) + (v : Int) * (i : Int)) % 11 = (((u + v * i) % 11 : Nat) : Int) := by omega
      have a1 : atI (st.map D.str) (((u : Int) + (v : Int) * (i : Int)) % 11) = some (.str (st.getD ((u + v * i) % 11) "")) := by
        rw [e1, atI_cast, List.getElem?_map, List.getElem?_eq_getElem lt, List.getD_eq_getElem?_getD, List.getElem?_eq_getElem lt]
        rfl
      generalize he : (wipeE [.ow true j, .va (.int n), .va b, .ow false (.lst (st.map .str)), .va (.int u), .va (.int v), .no] [6]).set 6 (Sl.va (.int (i : Int))) = E0
      have he2 : E0 = [.ow true j, .va (.int n), .va b, .ow false (.lst (st.map .str)), .va (.int u), .va (.int v), .va (.int (i : Int))] := he.symm
      subst he2
      refine frz_dt (op2_sl (i := 3) (b := false) (d := .lst (st.map .str)) rfl rfl (op2_dt (bi1_dt (op2_dt rfl (op2_dt rfl rfl (r := .dt (.int (v * i))) ?_) rfl) rfl) rfl rfl) ?_)
      · simp only [binD, if_pos c1]
      · simp only [ixR, ixD, a1, Option.map]; rfl)
  simp only [List.map_map, Int.toNat_natCast] at w
  have e : ((nmL st u v n).map D.str) = (List.range n).map ((fun d => match d with | .int i => D.str (st.getD ((u + v * i.toNat) % 11) "") | _ => .non) ∘ fun (k : Nat) => D.int (k : Int)) := by
    unfold nmL; rw [List.map_map]; rfl
  rw [e]
  exact w
structure NmR (st : List Str) (l : List Str) (n : Nat) : Prop where
  len : l.length = n
  nd : l.Nodup
  mem : ∀ x ∈ l, x ∈ st
theorem lst_f {cf : Nat → List Sl → Option (R × List Sl)} (env : Env') : evE Pg0 cf e0_law_names env = some (.nw (.lst (folkS.map .str)), env) := by
  simp [e0_law_names, evE, lstM, evV, consV, nilD, frz, Ct.d, folkS, sizeLine]
theorem lst_h {cf : Nat → List Sl → Option (R × List Sl)} (env : Env') : evE Pg0 cf e1_law_names env = some (.nw (.lst (hallS.map .str)), env) := by
  simp [e1_law_names, evE, lstM, evV, consV, nilD, frz, Ct.d, hallS, sizeLine]
end VI
namespace VI
open PySem L2
theorem r_names {k n : Nat} {j : D} {b : Bool} (hj : Jar j) (hn : n ≤ 8) : ∃ l j', Jar j' ∧ NmR (if b then folkS else hallS) l n ∧
    runN Pg0 (k + 2) i_law_names [.ow true j, .va (.int n), .va (.bl b)] = some (.dt (tD l), [.ow true j', .no, .no]) := by
  rw [run_of (fn := f_law_names) rfl rfl]
  obtain ⟨d1, j1, hj1, l1, l2, w1⟩ := r_dip (k := k) (n := 11) hj (by decide) (by decide)
  obtain ⟨d2, j2, hj2, l3, l4, w2⟩ := r_dip (k := k) (n := 10) hj1 (by decide) (by decide)
  have hst : (if b then folkS else hallS).Nodup ∧ (if b then folkS else hallS).length = 11 := by
    cases b
    · exact ⟨hall_nd, rfl⟩
    · exact ⟨folk_nd, rfl⟩
  have c := names_core (k := k + 1) (n := n) (st := if b then folkS else hallS) (j := j2) (u := d1.toNat) (v := 1 + d2.toNat) (b := .bl b) hst.2 hn
  have e1 : ((d1.toNat : Nat) : Int) = d1 := by omega
  have e2 : (((1 + d2.toNat) : Nat) : Int) = 1 + d2 := by omega
  rw [e1, e2] at c
  refine ⟨nmL (if b then folkS else hallS) d1.toNat (1 + d2.toNat) n, j2, hj2, ⟨nmL_len, nmL_nd hst.1 hst.2 (by omega) (by omega) (by omega) hn, nmL_mem hst.2⟩, ?_⟩
  have st : startE f_law_names.n [.ow true j, .va (.int n), .va (.bl b)] = [.ow true j, .va (.int n), .va (.bl b), .no, .no, .no, .no] := rfl
  rw [st]
  simp only [f_law_names, b_law_names, exSs]
  rw [seq_next [.ow true j, .va (.int n), .va (.bl b), .ow false (.lst ((if b then folkS else hallS).map .str)), .no, .no, .no] ?h1, seq_next [.ow true j2, .va (.int n), .va (.bl b), .ow false (.lst ((if b then folkS else hallS).map .str)), .va (.int d1), .va (.int (1 + d2)), .no] ?h2, seq_ret (.dt (tD (nmL (if b then folkS else hallS) d1.toNat (1 + d2.toNat) n))) [.ow true j2, .va (.int n), .va (.bl b), .ow false (.lst ((if b then folkS else hallS).map .str)), .va (.int d1), .va (.int (1 + d2)), .no] ?h3, end_ret]
  · rfl
  case h1 =>
    generalize hB : (if b then folkS else hallS) = B at *
    cases b
    · have e : B = hallS := by rw [← hB]; rfl
      subst e
      simp [startE, exSs, exS, evE, evV, evPs, evR, evA, evO, evC, evI, exT, consM, setIxM, frzM, op2, pz, varM, opD, ixR, ixD, binD, frz, isOw, setAt, asgM, keepM, keepR, putSl, free, biM, biD, biInt, len_tup, len_lst, len_scr, len_dic, len_str, biTuple, biList, biAbs, biMax2, biMin2, biDivmod, consP, consR, consV, nilR, nilD, iteM, boolM, cmpR, cmpD, retM, retNM, endR, clean1, clean2, clean3, clean4, clean5, lentAt, Ct.d, putTg, putAll, parPut, parM, asgTuM, asgTM, tNilM, tNmM, tIxM, exM, nextM, ifeM, andM, orM, notM, negM, isNM, notNM, isTM, notTM, chainM, noO, soM, sliM, sliD, fldM, tupM, lstM, dataM, bmM, bmD, lendM, callM, callF, argSl, lentBack, slotsOf, makeM, insM, permM, permute, dataR, isM, isI_tup, isI_str, isI_tD, isI_ttD, isI_ins, len_tD, len_ttD, seqM, seqD, enmM, enmD, zipM, zipD, forM, dzM, trueM, mt_is_name, mt_wrong_name, mt_is_ascending, mt_is_one_of, mt_check_guests, mt_check_rooms, mt_check_accepted, mt_House_init, mt_House_place_of, mt_House_check_room, mt_House_accepts, mt_check_house, mt_are_places, mt_is_good, mt_is_placing, mt_check_placing, mt_frees, mt_lets, mt_law_cell, mt_law_well, mt_law_dip, mt_law_names, mt_law_new_home, mt_law_all_lain, mt_law_full, mt_law_made, mt_law_let_moves, mt_law_pick, mt_law_right, mt_law, in_House, cl_len, lst_h]
    · have e : B = folkS := by rw [← hB]; rfl
      subst e
      simp [startE, exSs, exS, evE, evV, evPs, evR, evA, evO, evC, evI, exT, consM, setIxM, frzM, op2, pz, varM, opD, ixR, ixD, binD, frz, isOw, setAt, asgM, keepM, keepR, putSl, free, biM, biD, biInt, len_tup, len_lst, len_scr, len_dic, len_str, biTuple, biList, biAbs, biMax2, biMin2, biDivmod, consP, consR, consV, nilR, nilD, iteM, boolM, cmpR, cmpD, retM, retNM, endR, clean1, clean2, clean3, clean4, clean5, lentAt, Ct.d, putTg, putAll, parPut, parM, asgTuM, asgTM, tNilM, tNmM, tIxM, exM, nextM, ifeM, andM, orM, notM, negM, isNM, notNM, isTM, notTM, chainM, noO, soM, sliM, sliD, fldM, tupM, lstM, dataM, bmM, bmD, lendM, callM, callF, argSl, lentBack, slotsOf, makeM, insM, permM, permute, dataR, isM, isI_tup, isI_str, isI_tD, isI_ttD, isI_ins, len_tD, len_ttD, seqM, seqD, enmM, enmD, zipM, zipD, forM, dzM, trueM, mt_is_name, mt_wrong_name, mt_is_ascending, mt_is_one_of, mt_check_guests, mt_check_rooms, mt_check_accepted, mt_House_init, mt_House_place_of, mt_House_check_room, mt_House_accepts, mt_check_house, mt_are_places, mt_is_good, mt_is_placing, mt_check_placing, mt_frees, mt_lets, mt_law_cell, mt_law_well, mt_law_dip, mt_law_names, mt_law_new_home, mt_law_all_lain, mt_law_full, mt_law_made, mt_law_let_moves, mt_law_pick, mt_law_right, mt_law, in_House, cl_len, lst_f]
  case h2 =>
    generalize (if b then folkS else hallS) = B at *
    simp [startE, exSs, exS, evE, evV, evPs, evR, evA, evO, evC, evI, exT, consM, setIxM, frzM, op2, pz, varM, opD, ixR, ixD, binD, frz, isOw, setAt, asgM, keepM, keepR, putSl, free, biM, biD, biInt, len_tup, len_lst, len_scr, len_dic, len_str, biTuple, biList, biAbs, biMax2, biMin2, biDivmod, consP, consR, consV, nilR, nilD, iteM, boolM, cmpR, cmpD, retM, retNM, endR, clean1, clean2, clean3, clean4, clean5, lentAt, Ct.d, putTg, putAll, parPut, parM, asgTuM, asgTM, tNilM, tNmM, tIxM, exM, nextM, ifeM, andM, orM, notM, negM, isNM, notNM, isTM, notTM, chainM, noO, soM, sliM, sliD, fldM, tupM, lstM, dataM, bmM, bmD, lendM, callM, callF, argSl, lentBack, slotsOf, makeM, insM, permM, permute, dataR, isM, isI_tup, isI_str, isI_tD, isI_ttD, isI_ins, len_tD, len_ttD, seqM, seqD, enmM, enmD, zipM, zipD, forM, dzM, trueM, mt_is_name, mt_wrong_name, mt_is_ascending, mt_is_one_of, mt_check_guests, mt_check_rooms, mt_check_accepted, mt_House_init, mt_House_place_of, mt_House_check_room, mt_House_accepts, mt_check_house, mt_are_places, mt_is_good, mt_is_placing, mt_check_placing, mt_frees, mt_lets, mt_law_cell, mt_law_well, mt_law_dip, mt_law_names, mt_law_new_home, mt_law_all_lain, mt_law_full, mt_law_made, mt_law_let_moves, mt_law_pick, mt_law_right, mt_law, in_House, cl_len, w1, w2]
  case h3 =>
    have h := bi1_nw (f := biD .tuple) (r := .dt (.tup ((nmL (if b then folkS else hallS) d1.toNat (1 + d2.toNat) n).map .str))) c rfl
    simp only [exS, evE, evPs]
    exact ret_dt h
end VI
namespace VI
open PySem L2
/-! all placings, as the law goes through them -/
def lstep (f : List (List Str)) (s : List Str) : List (List Str) := f.flatMap fun p => (s.filter fun y => !decide (y ∈ p)).map fun y => p ++ [y]
def lains (a : List (List Str)) : List (List Str) := a.foldl lstep [[]]
theorem lstep_len (f : List (List Str)) (s : List Str) (h : s.length ≤ 8) : (lstep f s).length ≤ 8 * f.length := by
  unfold lstep
  induction f with
  | nil => simp
  | cons p f ih =>
    rw [List.flatMap_cons, List.length_append, List.length_map, List.length_cons]
    have := List.length_filter_le (fun y => !decide (y ∈ p)) s
    omega
theorem fold_len : ∀ (a f : List (List Str)), (∀ s ∈ a, s.length ≤ 8) → (a.foldl lstep f).length ≤ 8 ^ a.length * f.length
  | [], f, _ => by simp
  | s :: a, f, h => by
    have h1 := fold_len a (lstep f s) (fun t ht => h t (by simp [ht]))
    have h2 := lstep_len f s (h s (by simp))
    rw [List.foldl_cons, List.length_cons, Nat.pow_succ, Nat.mul_assoc]
    exact Nat.le_trans h1 (Nat.mul_le_mul_left _ h2)
theorem fold_mem : ∀ (a f : List (List Str)) (p : List Str), p ∈ a.foldl lstep f → ∃ q t, q ∈ f ∧ p = q ++ t ∧ t.length = a.length ∧ (∀ (i : Nat) (h1 : i < t.length) (h2 : i < a.length), t[i] ∈ a[i]) ∧ (q.Nodup → p.Nodup)
  | [], f, p, h => ⟨p, [], h, by simp, rfl, fun i h1 => by simp at h1, fun h => h⟩
  | s :: a, f, p, h => by
    rw [List.foldl_cons] at h
    obtain ⟨q, t, h1, h2, h3, h4, h5⟩ := fold_mem a (lstep f s) p h
    unfold lstep at h1
    obtain ⟨q0, g1, g2⟩ := List.mem_flatMap.mp h1
    obtain ⟨y, g3, rfl⟩ := List.mem_map.mp g2
    obtain ⟨g4, g5⟩ := List.mem_filter.mp g3
    refine ⟨q0, y :: t, g1, by rw [h2]; simp, by simp [h3], fun i i1 i2 => ?_, fun nd => h5 ?_⟩
    · cases i with
      | zero => simpa using g4
      | succ i => simpa using h4 i (by simpa using i1) (by simpa using i2)
    · have hy : y ∉ q0 := by simpa using g5
      rw [List.nodup_append]
      exact ⟨nd, by simp, fun x hx z hz => by simp at hz; subst hz; exact fun e => hy (e ▸ hx)⟩
theorem fold_in : ∀ (a f : List (List Str)) (q t : List Str), q ∈ f → t.length = a.length → (∀ (i : Nat) (h1 : i < t.length) (h2 : i < a.length), t[i] ∈ a[i]) → (q ++ t).Nodup → q ++ t ∈ a.foldl lstep f
  | [], f, q, t, h, hl, _, _ => by
    have : t = [] := List.length_eq_zero_iff.mp hl
    subst this; simpa using h
  | s :: a, f, q, [], h, hl, _, _ => by simp at hl
  | s :: a, f, q, y :: t, h, hl, ha, nd => by
    rw [List.foldl_cons]
    have e : q ++ y :: t = (q ++ [y]) ++ t := by simp
    rw [e] at nd ⊢
    refine fold_in a (lstep f s) (q ++ [y]) t ?_ (by simpa using hl) (fun i h1 h2 => ha (i + 1) (Nat.succ_lt_succ h1) (Nat.succ_lt_succ h2)) nd
    unfold lstep
    refine List.mem_flatMap.mpr ⟨q, h, List.mem_map.mpr ⟨y, List.mem_filter.mpr ⟨ha 0 (Nat.succ_pos _) (Nat.succ_pos _), ?_⟩, rfl⟩⟩
    have : y ∉ q := by
      have := (List.nodup_append.mp (List.nodup_append.mp nd).1).2.2
      exact fun hm => this y hm y (by simp) rfl
    simpa using this
theorem lains_plc {r : List Str} {a : List (List Str)} {p : List Str} (h : p ∈ lains a) : Plc r a p := by
  obtain ⟨q, t, h1, h2, h3, h4, h5⟩ := fold_mem a [[]] p h
  have e : q = [] := by simpa using h1
  subst e
  simp only [List.nil_append] at h2
  subst h2
  exact ⟨h3, h5 (by simp), h4⟩
theorem plc_lains {r : List Str} {a : List (List Str)} {p : List Str} (h : Plc r a p) : p ∈ lains a := by
  have := fold_in a [[]] [] p (by simp) h.len h.at_ (by simpa using h.nd)
  simpa [lains] using this
def homeD (g r : List Str) (a : List (List Str)) : D := .tup [tD g, tD r, ttD a]
theorem bin_tup {p q : List Str} (h : p.length + q.length ≤ sizeLine) : binD .add (tD p) (tD q) = some (.dt (tD (p ++ q))) := by
  simp [binD, tD, h]
def Ow (s : Sl) (d : D) : Prop := s = .ow false d ∨ s = .va d
theorem lain_e0 {k : Nat} {h0 f0 : D} {s p : List Str} {l0 : D} {x : Sl} (hx : Pl x) (hs : s.length ≤ 8) (hp : p.length ≤ 6) :
    evE Pg0 (runN Pg0 k) e0_law_all_lain [.va h0, .va f0, .va (tD s), .ow false l0, .va (tD p), x] = some (.nw (.lst ((s.filter fun y => !decide (y ∈ p)).map fun y => tD (p ++ [y]))), [.va h0, .va f0, .va (tD s), .ow false l0, .va (tD p), x]) := by
  have w := lcM_pure (vs := [5]) (t := .nm 5) (it := evI Pg0 (runN Pg0 k) (.seq (.var 2))) (c := evC Pg0 (runN Pg0 k) (.so (.cmp .notin (.var 5) (.var 4)))) (e := evE Pg0 (runN Pg0 k) (.bin .add (.var 4) (.tup (.cons (.var 5) .nil))))
    (env := [.va h0, .va f0, .va (tD s), .ow false l0, .va (tD p), x]) (env1 := [.va h0, .va f0, .va (tD s), .ow false l0, .va (tD p), x]) (xs := s.map .str) (fun d => match d with | .str y => !decide (y ∈ p) | _ => false) (fun d => match d with | .str y => tD (p ++ [y]) | _ => .non) rfl (by rcases hx with rfl | ⟨d, rfl⟩ <;> rfl) (by rw [List.length_map]; exact Nat.le_trans hs (by decide)) (fun d hd => by
      obtain ⟨y, hy, rfl⟩ := List.mem_map.mp hd
      refine ⟨[.va h0, .va f0, .va (tD s), .ow false l0, .va (tD p), .va (.str y)], [.va h0, .va f0, .va (tD s), .ow false l0, .va (tD p), .va (.str y)], rfl, ?_, rfl, fun _ => ⟨[.va h0, .va f0, .va (tD s), .ow false l0, .va (tD p), .va (.str y)], ?_, rfl⟩⟩
      · have e := inD_tD y p
        simp [startE, exSs, exS, evE, evV, evPs, evR, evA, evO, evC, evI, exT, consM, setIxM, frzM, op2, pz, varM, opD, ixR, ixD, binD, frz, isOw, setAt, asgM, keepM, keepR, putSl, free, biM, biD, biInt, len_tup, len_lst, len_scr, len_dic, len_str, biTuple, biList, biAbs, biMax2, biMin2, biDivmod, consP, consR, consV, nilR, nilD, iteM, boolM, cmpR, cmpD, retM, retNM, endR, clean1, clean2, clean3, clean4, clean5, lentAt, Ct.d, putTg, putAll, parPut, parM, asgTuM, asgTM, tNilM, tNmM, tIxM, exM, nextM, ifeM, andM, orM, notM, negM, isNM, notNM, isTM, notTM, chainM, noO, soM, sliM, sliD, fldM, tupM, lstM, dataM, bmM, bmD, lendM, callM, callF, argSl, lentBack, slotsOf, makeM, insM, permM, permute, dataR, isM, isI_tup, isI_str, isI_tD, isI_ttD, isI_ins, len_tD, len_ttD, seqM, seqD, enmM, enmD, zipM, zipD, forM, dzM, trueM, mt_is_name, mt_wrong_name, mt_is_ascending, mt_is_one_of, mt_check_guests, mt_check_rooms, mt_check_accepted, mt_House_init, mt_House_place_of, mt_House_check_room, mt_House_accepts, mt_check_house, mt_are_places, mt_is_good, mt_is_placing, mt_check_placing, mt_frees, mt_lets, mt_law_cell, mt_law_well, mt_law_dip, mt_law_names, mt_law_new_home, mt_law_all_lain, mt_law_full, mt_law_made, mt_law_let_moves, mt_law_pick, mt_law_right, mt_law, in_House, cl_len, e]
      · have e := bin_tup (p := p) (q := [y]) (by simp; exact Nat.le_trans (Nat.succ_le_succ hp) (by decide))
        refine frz_dt (op2_dt rfl (e := tD [y]) rfl e))
  have e1 : (((s.map D.str).filter fun d => match d with | .str y => !decide (y ∈ p) | _ => false).map fun d => match d with | .str y => tD (p ++ [y]) | _ => .non) = (s.filter fun y => !decide (y ∈ p)).map fun y => tD (p ++ [y]) := by
    rw [List.filter_map, List.map_map]; rfl
  rw [e1] at w
  exact w
theorem ext_ok {i : Nat} {m : Env' → Option (R × Env')} {env : Env'} {l l2 : List D} {b : Bool} (hi : env[i]? = some (.ow b (.lst l))) (h : m env = some (.nw (.lst l2), env)) (hz : l.length + l2.length ≤ sizeLine) : exM (extendM i m) env = some (.next, env.set i (.ow b (.lst (l ++ l2)))) := by
  have ho : isOw env i = true := by simp only [isOw, hi]
  simp only [exM, extendM, ho, if_true, h, pz, hi, if_pos hz]
theorem lain_in {k : Nat} {h0 : D} {F : List (List Str)} {s : List Str} {y z : Sl} (hy : Pl y) (hz : Pl z) (hs : s.length ≤ 8) (hF : 8 * F.length ≤ sizeLine) (hp : ∀ p ∈ F, p.length ≤ 6) :
    ∃ y' z', Pl y' ∧ Pl z' ∧ forL (.nm 4) (exSs Pg0 (runN Pg0 k) b1_law_all_lain) (F.map tD) [.va h0, .va (.lst (F.map tD)), .va (tD s), .ow false (.lst []), y, z] = some (.next, [.va h0, .va (.lst (F.map tD)), .va (tD s), .ow false (.lst ((lstep F s).map tD)), y', z']) := by
  have w := forL_inv (t := .nm 4) (b := exSs Pg0 (runN Pg0 k) b1_law_all_lain) (fun pre env => ∃ y z n, Pl y ∧ Pl z ∧ pre = (F.take n).map tD ∧ n = pre.length ∧ env = [.va h0, .va (.lst (F.map tD)), .va (tD s), .ow false (.lst ((lstep (F.take n) s).map tD)), y, z]) (fun _ _ => False)
    (F.map tD) (F.map tD) [] [.va h0, .va (.lst (F.map tD)), .va (tD s), .ow false (.lst []), y, z] rfl ⟨y, z, 0, hy, hz, by simp, rfl, by simp [lstep]⟩ (fun pre x post env q ⟨y, z, n, hy, hz, e1, e2, e3⟩ => by
      subst e3
      obtain ⟨hn, hx⟩ := at_pre q
      rw [← e2] at hn
      have hn' : n < F.length := by simpa using hn
      have hx' : x = tD F[n] := by rw [hx]; simp [← e2]
      subst hx'
      have hc := lain_e0 (k := k) (h0 := h0) (f0 := .lst (F.map tD)) (s := s) (p := F[n]) (l0 := .lst ((lstep (F.take n) s).map tD)) (x := z) hz hs (hp _ (List.getElem_mem hn'))
      have et : F.take (n + 1) = F.take n ++ [F[n]] := by rw [List.take_succ, List.getElem?_eq_getElem hn']; rfl
      have el : lstep (F.take (n + 1)) s = lstep (F.take n) s ++ (s.filter fun y => !decide (y ∈ F[n])).map fun y => F[n] ++ [y] := by
        unfold lstep; rw [et, List.flatMap_append]; simp only [List.flatMap_cons, List.flatMap_nil, List.append_nil]
      have hsz : ((lstep (F.take n) s).map tD).length + ((s.filter fun y => !decide (y ∈ F[n])).map fun y => tD (F[n] ++ [y])).length ≤ sizeLine := by
        have h1 := lstep_len (F.take n) s hs
        have h2 := List.length_filter_le (fun y => !decide (y ∈ F[n])) s
        rw [List.length_map, List.length_map]
        rw [List.length_take] at h1
        omega
      have ex := ext_ok (i := 3) (b := false) (env := [.va h0, .va (.lst (F.map tD)), .va (tD s), .ow false (.lst ((lstep (F.take n) s).map tD)), .va (tD F[n]), z]) rfl hc hsz
      refine ⟨[.va h0, .va (.lst (F.map tD)), .va (tD s), .ow false (.lst ((lstep (F.take n) s).map tD)), .va (tD F[n]), z], .next, [.va h0, .va (.lst (F.map tD)), .va (tD s), .ow false (.lst ((lstep (F.take (n + 1)) s).map tD)), .va (tD F[n]), z], ?_, ?_, fun _ => ⟨_, _, n + 1, .va _, hz, ?_, by simp [e2], rfl⟩, by simp, fun r h => nomatch h⟩
      · rcases hy with rfl | ⟨d, rfl⟩ <;> rfl
      · simp only [b1_law_all_lain, exSs, exS, evE]
        rw [seq_next _ ex]
        simp only [nextM, el, List.map_append, List.map_map]
        rfl
      · rw [e1, et, List.map_append]; rfl)
  obtain ⟨fl, env', k1, k2 | ⟨r, _, k3⟩⟩ := w
  · obtain ⟨rfl, y', z', n, hy', hz', e1, e2, rfl⟩ := k2
    rw [List.length_map] at e2
    subst e2
    rw [List.take_length] at k1
    exact ⟨y', z', hy', hz', k1⟩
  · exact k3.elim
theorem r_all_lain {k : Nat} {g r : List Str} {a : List (List Str)} (ha : a ≠ []) (h8 : ∀ s ∈ a, s.length ≤ 8) (h6 : a.length ≤ 6) :
    runN Pg0 (k + 1) i_law_all_lain [.va (homeD g r a)] = some (.dt (.lst ((lains a).map tD)), [.no]) := by
  rw [run_of (fn := f_law_all_lain) rfl rfl]
  have bound : ∀ n, n ≤ 6 → 8 * (8 ^ n) ≤ sizeLine := fun n hn => Nat.le_trans (Nat.mul_le_mul_left 8 (Nat.pow_le_pow_right (by decide) hn)) (by decide)
  have w := forL_inv (t := .nm 2) (b := exSs Pg0 (runN Pg0 k) b3_law_all_lain) (fun pre env => ∃ s1 s2 s3 s4 s5 n, n = pre.length ∧ pre = (a.take n).map tD ∧ Ow s1 (.lst ((lains (a.take n)).map tD)) ∧ (1 ≤ n → s1 = .va (.lst ((lains (a.take n)).map tD))) ∧ Pl s2 ∧ Pl s3 ∧ Pl s4 ∧ Pl s5 ∧ env = [.va (homeD g r a), s1, s2, s3, s4, s5]) (fun _ _ => False)
    (a.map tD) (a.map tD) [] [.va (homeD g r a), .ow false (.lst [.tup []]), .no, .no, .no, .no] rfl ⟨_, _, _, _, _, 0, rfl, by simp, .inl (by simp [lains, tD]), by omega, .no, .no, .no, .no, rfl⟩ (fun pre x post env q ⟨s1, s2, s3, s4, s5, n, e1, e2, o1, _, p2, p3, p4, p5, e3⟩ => by
      subst e3
      obtain ⟨hn, hx⟩ := at_pre q
      rw [← e1] at hn
      have hn' : n < a.length := by simpa using hn
      have hx' : x = tD a[n] := by rw [hx]; simp [← e1]
      subst hx'
      have et : a.take (n + 1) = a.take n ++ [a[n]] := by rw [List.take_succ, List.getElem?_eq_getElem hn']; rfl
      have el : lains (a.take (n + 1)) = lstep (lains (a.take n)) a[n] := by unfold lains; rw [et, List.foldl_append]; rfl
      have hF : 8 * (lains (a.take n)).length ≤ sizeLine := by
        have h1 := fold_len (a.take n) [[]] (fun t ht => h8 t (List.mem_of_mem_take ht))
        have h2 : (lains (a.take n)).length ≤ 8 ^ (a.take n).length := by simpa [lains] using h1
        exact Nat.le_trans (Nat.mul_le_mul_left 8 h2) (bound _ (by rw [List.length_take]; omega))
      have hp : ∀ p ∈ lains (a.take n), p.length ≤ 6 := fun p hp => by
        have := (lains_plc (r := r) hp).len
        rw [this, List.length_take]; omega
      obtain ⟨y', z', hy', hz', wi⟩ := lain_in (k := k) (h0 := homeD g r a) (F := lains (a.take n)) (s := a[n]) (y := s4) (z := s5) p4 p5 (h8 _ (List.getElem_mem hn')) hF hp
      have i1 : seqM (varM 1) [.va (homeD g r a), s1, .va (tD a[n]), .ow false (.lst []), s4, s5] = some ((lains (a.take n)).map tD, [.va (homeD g r a), .va (.lst ((lains (a.take n)).map tD)), .va (tD a[n]), .ow false (.lst []), s4, s5]) := by
        rcases o1 with rfl | rfl <;> rfl
      refine ⟨[.va (homeD g r a), s1, .va (tD a[n]), s3, s4, s5], .next, [.va (homeD g r a), .va (.lst ((lains (a.take (n + 1))).map tD)), .va (tD a[n]), .va (.lst ((lains (a.take (n + 1))).map tD)), y', z'], ?_, ?_, fun _ => ⟨_, _, _, _, _, n + 1, by simp [e1], ?_, .inr rfl, fun _ => rfl, .va _, .va _, hy', hz', rfl⟩, by simp, fun r h => nomatch h⟩
      · rcases p2 with rfl | ⟨d, rfl⟩ <;> rfl
      · simp only [b3_law_all_lain, exSs]
        rw [seq_next [.va (homeD g r a), s1, .va (tD a[n]), .ow false (.lst []), s4, s5] ?h1, seq_next [.va (homeD g r a), .va (.lst ((lains (a.take n)).map tD)), .va (tD a[n]), .ow false (.lst ((lains (a.take (n + 1))).map tD)), y', z'] ?h2, seq_next [.va (homeD g r a), .va (.lst ((lains (a.take (n + 1))).map tD)), .va (tD a[n]), .va (.lst ((lains (a.take (n + 1))).map tD)), y', z'] ?h3]
        · rfl
        case h1 => rcases p3 with rfl | ⟨d, rfl⟩ <;> rfl
        case h2 =>
          simp only [s2_law_all_lain, exS, forM, evI, evE, i1, el]
          exact wi
        case h3 => rfl
      · rw [e2, et, List.map_append]; rfl)
  obtain ⟨fl, env', k1, k2 | ⟨r, _, k3⟩⟩ := w
  · obtain ⟨rfl, s1, s2, s3, s4, s5, n, e1, e2, o1, o2, p2, p3, p4, p5, rfl⟩ := k2
    rw [List.length_map] at e1
    subst e1
    have hpos : 1 ≤ a.length := by
      cases a with
      | nil => exact (ha rfl).elim
      | cons _ _ => simp
    have o3 := o2 hpos
    rw [List.take_length] at o3
    subst o3
    simp only [f_law_all_lain, b_law_all_lain, exSs]
    rw [show startE 6 [.va (homeD g r a)] = [.va (homeD g r a), .no, .no, .no, .no, .no] from rfl]
    rw [seq_next [.va (homeD g r a), .ow false (.lst [.tup []]), .no, .no, .no, .no] ?h1, seq_next _ ?h2, seq_ret (.dt (.lst ((lains a).map tD))) [.va (homeD g r a), .va (.lst ((lains a).map tD)), s2, s3, s4, s5] ?h3, end_ret]
    · rfl
    case h1 => rfl
    case h2 =>
      have i1 : evI Pg0 (runN Pg0 k) (.seq (.ix (.var 0) (.cst (.int 2)))) [.va (homeD g r a), .ow false (.lst [.tup []]), .no, .no, .no, .no] = some (a.map tD, [.va (homeD g r a), .ow false (.lst [.tup []]), .no, .no, .no, .no]) := rfl
      simp only [s4_law_all_lain, exS, forM, i1]
      exact k1
    case h3 => rfl
  · exact k3.elim
end VI
namespace VI
open PySem L2
theorem depth_tups : ∀ L : List (List Str), PyData.depthAll (L.map fun l => PyData.tuple (l.map .str)) ≤ 2
  | [] => by simp [PyData.depthAll]
  | l :: L => by
    have h1 := depth_strs l
    have h2 := depth_tups L
    simp only [List.map_cons, PyData.depthAll, PyData.depth]
    omega
theorem lay_tups : ∀ {L : List (List Str)}, (∀ l ∈ L, ∀ x ∈ l, PyData.strOk x = true) → PyData.canLayAll0 (L.map fun l => PyData.tuple (l.map .str)) = true
  | [], _ => by simp [PyData.canLayAll0]
  | l :: L, h => by simp [PyData.canLayAll0, PyData.canLay0, lay_strs (h l (by simp)), lay_tups (L := L) fun m hm => h m (by simp [hm])]
theorem eq_ll {L : List (List Str)} (h : ∀ l ∈ L, ∀ x ∈ l, PyData.strOk x = true) : eqD (.lst (L.map tD)) (.lst []) = some (decide (L = [])) := by
  have s1 : SeqAt.shaped (.list (L.map fun l => PyData.tuple (l.map .str))) = true := by
    have := depth_tups L
    simp [SeqAt.shaped, PyData.canLay0, lay_tups h, PyData.depth]; omega
  have s2 : SeqAt.shaped (.list []) = true := by simp [SeqAt.shaped, PyData.canLay0, PyData.canLayAll0, PyData.depth, PyData.depthAll]
  have p1 : py (.lst (L.map tD)) = some (.list (L.map fun l => PyData.tuple (l.map .str))) := by simp [py, pyAll_tD]
  have p2 : py (.lst []) = some (.list []) := by simp [py, pyAll]
  simp only [eqD, p1, p2, s1, s2, and_self, if_true, PyData.eqv]
  cases L with
  | nil => simp [PyData.eqvAll]
  | cons l L => simp [PyData.eqvAll]
theorem home_e0 {k : Nat} {j : D} {l m rr fo kk de li : D} {r : List Str} {s9 s10 : Sl} (hj : Jar j) (hd : ∃ z : Int, de = .int z) (hr : r.length ≤ 8) (h10 : Pl s10) :
    ∃ (s : List Str) (j' : D), Jar j' ∧ s.Sublist r ∧ evE Pg0 (runN Pg0 (k + 1)) e0_law_new_home [.ow true j, .va l, .va m, .va rr, .va fo, .va (tD r), .va kk, .va de, .ow false li, s9, s10] = some (.nw (.lst (s.map .str)), [.ow true j', .va l, .va m, .va rr, .va fo, .va (tD r), .va kk, .va de, .ow false li, s9, s10]) := by
  obtain ⟨z, rfl⟩ := hd
  have w := lcL_inv (t := .nm 10) (vs := [10]) (c := evC Pg0 (runN Pg0 (k + 1)) (.so (.cmp .lt (.call i_law_dip (.cons (.var 0) (.cons (.cst (.int 4)) .nil))) (.var 7)))) (e := evE Pg0 (runN Pg0 (k + 1)) (.var 10))
    (fun pre acc env => ∃ (s : List Str) (j : D) (x : Sl), Jar j ∧ acc = s.map .str ∧ s.Sublist (r.take pre.length) ∧ env = [.ow true j, .va l, .va m, .va rr, .va fo, .va (tD r), .va kk, .va (.int z), .ow false li, s9, x]) (r.map .str) (r.map .str) [] [] [.ow true j, .va l, .va m, .va rr, .va fo, .va (tD r), .va kk, .va (.int z), .ow false li, s9, s10] rfl ⟨[], j, s10, hj, rfl, by simp, rfl⟩ (fun pre x post acc env q ⟨s, j, y, hj, e1, e2, e3⟩ => by
      subst e3
      obtain ⟨hn, hx⟩ := at_pre q
      have hn' : pre.length < r.length := by simpa using hn
      have hx' : x = .str r[pre.length] := by rw [hx]; simp
      subst hx'
      obtain ⟨d, j', hj', d0, d4, wd⟩ := r_dip (k := k) (n := 4) hj (by decide) (by decide)
      have et : r.take (pre.length + 1) = r.take pre.length ++ [r[pre.length]] := by rw [List.take_succ, List.getElem?_eq_getElem hn']; rfl
      refine ⟨[.ow true j, .va l, .va m, .va rr, .va fo, .va (tD r), .va kk, .va (.int z), .ow false li, s9, .va (.str r[pre.length])], decide (d < z), [.ow true j', .va l, .va m, .va rr, .va fo, .va (tD r), .va kk, .va (.int z), .ow false li, s9, .va (.str r[pre.length])], rfl, ?_, fun _ => ⟨s, j', _, hj', e1, ?_, rfl⟩, fun _ => ⟨.str r[pre.length], [.ow true j', .va l, .va m, .va rr, .va fo, .va (tD r), .va kk, .va (.int z), .ow false li, s9, .va (.str r[pre.length])], rfl, ?_, s ++ [r[pre.length]], j', _, hj', by rw [e1]; simp, ?_, rfl⟩⟩
      · simp [startE, exSs, exS, evE, evV, evPs, evR, evA, evO, evC, evI, exT, consM, setIxM, frzM, op2, pz, varM, opD, ixR, ixD, binD, frz, isOw, setAt, asgM, keepM, keepR, putSl, free, biM, biD, biInt, len_tup, len_lst, len_scr, len_dic, len_str, biTuple, biList, biAbs, biMax2, biMin2, biDivmod, consP, consR, consV, nilR, nilD, iteM, boolM, cmpR, cmpD, retM, retNM, endR, clean1, clean2, clean3, clean4, clean5, lentAt, Ct.d, putTg, putAll, parPut, parM, asgTuM, asgTM, tNilM, tNmM, tIxM, exM, nextM, ifeM, andM, orM, notM, negM, isNM, notNM, isTM, notTM, chainM, noO, soM, sliM, sliD, fldM, tupM, lstM, dataM, bmM, bmD, lendM, callM, callF, argSl, lentBack, slotsOf, makeM, insM, permM, permute, dataR, isM, isI_tup, isI_str, isI_tD, isI_ttD, isI_ins, len_tD, len_ttD, seqM, seqD, enmM, enmD, zipM, zipD, forM, dzM, trueM, mt_is_name, mt_wrong_name, mt_is_ascending, mt_is_one_of, mt_check_guests, mt_check_rooms, mt_check_accepted, mt_House_init, mt_House_place_of, mt_House_check_room, mt_House_accepts, mt_check_house, mt_are_places, mt_is_good, mt_is_placing, mt_check_placing, mt_frees, mt_lets, mt_law_cell, mt_law_well, mt_law_dip, mt_law_names, mt_law_new_home, mt_law_all_lain, mt_law_full, mt_law_made, mt_law_let_moves, mt_law_pick, mt_law_right, mt_law, in_House, cl_len, wd]
      · rw [List.length_append, List.length_singleton, et]; exact e2.trans (List.sublist_append_left _ _)
      · have h1 := e2.length_le
        rw [List.length_take] at h1
        have h3 : acc.length ≤ 8 := by rw [e1, List.length_map]; omega
        exact Nat.lt_of_le_of_lt h3 (by decide)
      · rw [List.length_append, List.length_singleton, et]; exact e2.append (List.Sublist.refl _))
  obtain ⟨ds, env', k1, s, j', x, hj', e1, e2, e3⟩ := w
  subst e1 e3
  rw [List.length_map, List.take_length] at e2
  refine ⟨s, j', hj', e2, ?_⟩
  have hp : plainAt [.ow true j, .va l, .va m, .va rr, .va fo, .va (tD r), .va kk, .va (.int z), .ow false li, s9, s10] [10] = true := by rcases h10 with rfl | ⟨d, rfl⟩ <;> rfl
  show lcM [10] (.nm 10) (evI Pg0 (runN Pg0 (k + 1)) (.seq (.var 5))) _ _ _ = _
  unfold lcM
  have i1 : evI Pg0 (runN Pg0 (k + 1)) (.seq (.var 5)) [.ow true j, .va l, .va m, .va rr, .va fo, .va (tD r), .va kk, .va (.int z), .ow false li, s9, s10] = some (r.map .str, [.ow true j, .va l, .va m, .va rr, .va fo, .va (tD r), .va kk, .va (.int z), .ow false li, s9, s10]) := rfl
  rw [i1]
  simp only [hp, if_true]
  rw [k1]
  rfl
theorem home_turn {k : Nat} {j : D} {l m rr kk : D} {g r : List Str} {z : Int} {L : List (List Str)} {s9 s10 : Sl} (hj : Jar j) (hr : r.length ≤ 8) (hok : ∀ x ∈ r, PyData.strOk x = true) (hL : ∀ t ∈ L, t.Sublist r) (hl : L.length ≤ 6) (h9 : Pl s9) (h10 : Pl s10) :
    ∃ (t : List Str) (j' : D) (s9' s10' : Sl), Jar j' ∧ t.Sublist r ∧ Pl s9' ∧ Pl s10' ∧ exSs Pg0 (runN Pg0 (k + 1)) b1_law_new_home [.ow true j, .va l, .va m, .va rr, .va (tD g), .va (tD r), .va kk, .va (.int z), .ow false (.lst (L.map tD)), s9, s10] = some (.next, [.ow true j', .va l, .va m, .va rr, .va (tD g), .va (tD r), .va kk, .va (.int z), .ow false (.lst ((L ++ [t]).map tD)), s9', s10']) := by
  obtain ⟨s, j1, hj1, hs, w0⟩ := home_e0 (k := k) (l := l) (m := m) (rr := rr) (fo := tD g) (kk := kk) (de := .int z) (li := .lst (L.map tD)) (r := r) (s9 := s9) (s10 := s10) hj ⟨z, rfl⟩ hr h10
  have okL : ∀ t ∈ L, ∀ x ∈ t, PyData.strOk x = true := fun t ht x hx => hok x ((hL t ht).subset hx)
  have eL := eq_ll okL
  have hz : (L.map tD).length < sizeLine := by rw [List.length_map]; exact Nat.lt_of_le_of_lt hl (by decide)
  have p9 : ∀ d, putSl 9 (.dt d) [.ow true j1, .va l, .va m, .va rr, .va (tD g), .va (tD r), .va kk, .va (.int z), .ow false (.lst (L.map tD)), s9, s10] = some [.ow true j1, .va l, .va m, .va rr, .va (tD g), .va (tD r), .va kk, .va (.int z), .ow false (.lst (L.map tD)), .va d, s10] := fun d => by
    rcases h9 with rfl | ⟨e, rfl⟩ <;> rfl
  have t0 : exS Pg0 (runN Pg0 (k + 1)) (.asg (.nm 9) (.bi .tuple (.cons e0_law_new_home .nil))) [.ow true j, .va l, .va m, .va rr, .va (tD g), .va (tD r), .va kk, .va (.int z), .ow false (.lst (L.map tD)), s9, s10] = some (.next, [.ow true j1, .va l, .va m, .va rr, .va (tD g), .va (tD r), .va kk, .va (.int z), .ow false (.lst (L.map tD)), .va (tD s), s10]) := by
    simp only [exS, evE, evPs]
    exact asg_dt (bi1_nw (r := .dt (tD s)) w0 rfl) (p9 _)
  -- what the second statement leaves
  have t1 : ∃ (t : List Str) (j2 : D), Jar j2 ∧ t.Sublist r ∧ exS Pg0 (runN Pg0 (k + 1)) (.ite (.and (.cmp .ne (.var 8) (.lst .nil)) (.cmp .eq (.call i_law_dip (.cons (.var 0) (.cons (.cst (.int 4)) .nil))) (.cst (.int 0)))) (.cons (.asg (.nm 9) (.ix (.var 8) (.call i_law_dip (.cons (.var 0) (.cons (.bi .len (.cons (.var 8) .nil)) .nil))))) .nil) .nil) [.ow true j1, .va l, .va m, .va rr, .va (tD g), .va (tD r), .va kk, .va (.int z), .ow false (.lst (L.map tD)), .va (tD s), s10] = some (.next, [.ow true j2, .va l, .va m, .va rr, .va (tD g), .va (tD r), .va kk, .va (.int z), .ow false (.lst (L.map tD)), .va (tD t), s10]) := by
    by_cases hn : L = []
    · subst hn
      have eL' : eqD (.lst []) (.lst []) = some true := by simpa using eL
      exact ⟨s, j1, hj1, hs, by simp [startE, exSs, exS, evE, evV, evPs, evR, evA, evO, evC, evI, exT, consM, setIxM, frzM, op2, pz, varM, opD, ixR, ixD, binD, frz, isOw, setAt, asgM, keepM, keepR, putSl, free, biM, biD, biInt, len_tup, len_lst, len_scr, len_dic, len_str, biTuple, biList, biAbs, biMax2, biMin2, biDivmod, consP, consR, consV, nilR, nilD, iteM, boolM, cmpR, cmpD, retM, retNM, endR, clean1, clean2, clean3, clean4, clean5, lentAt, Ct.d, putTg, putAll, parPut, parM, asgTuM, asgTM, tNilM, tNmM, tIxM, exM, nextM, ifeM, andM, orM, notM, negM, isNM, notNM, isTM, notTM, chainM, noO, soM, sliM, sliD, fldM, tupM, lstM, dataM, bmM, bmD, lendM, callM, callF, argSl, lentBack, slotsOf, makeM, insM, permM, permute, dataR, isM, isI_tup, isI_str, isI_tD, isI_ttD, isI_ins, len_tD, len_ttD, seqM, seqD, enmM, enmD, zipM, zipD, forM, dzM, trueM, mt_is_name, mt_wrong_name, mt_is_ascending, mt_is_one_of, mt_check_guests, mt_check_rooms, mt_check_accepted, mt_House_init, mt_House_place_of, mt_House_check_room, mt_House_accepts, mt_check_house, mt_are_places, mt_is_good, mt_is_placing, mt_check_placing, mt_frees, mt_lets, mt_law_cell, mt_law_well, mt_law_dip, mt_law_names, mt_law_new_home, mt_law_all_lain, mt_law_full, mt_law_made, mt_law_let_moves, mt_law_pick, mt_law_right, mt_law, in_House, cl_len, eL', sizeLine]⟩
    · obtain ⟨d, j2, hj2, d0, d4, wd⟩ := r_dip (k := k) (n := 4) hj1 (by decide) (by decide)
      by_cases hd : d = 0
      · have lp : 0 < L.length := List.length_pos_iff.mpr hn
        obtain ⟨e, j3, hj3, e0, e4, we⟩ := r_dip (k := k) (n := (L.length : Int)) hj2 (by omega) (by omega)
        have ei : e.toNat < L.length := by omega
        have at1 : atI (L.map tD) e = some (tD L[e.toNat]) := by rw [atI_toNat e0 (by rw [List.length_map]; exact ei)]; simp
        refine ⟨L[e.toNat], j3, hj3, hL _ (List.getElem_mem ei), ?_⟩
        simp [startE, exSs, exS, evE, evV, evPs, evR, evA, evO, evC, evI, exT, consM, setIxM, frzM, op2, pz, varM, opD, ixR, ixD, binD, frz, isOw, setAt, asgM, keepM, keepR, putSl, free, biM, biD, biInt, len_tup, len_lst, len_scr, len_dic, len_str, biTuple, biList, biAbs, biMax2, biMin2, biDivmod, consP, consR, consV, nilR, nilD, iteM, boolM, cmpR, cmpD, retM, retNM, endR, clean1, clean2, clean3, clean4, clean5, lentAt, Ct.d, putTg, putAll, parPut, parM, asgTuM, asgTM, tNilM, tNmM, tIxM, exM, nextM, ifeM, andM, orM, notM, negM, isNM, notNM, isTM, notTM, chainM, noO, soM, sliM, sliD, fldM, tupM, lstM, dataM, bmM, bmD, lendM, callM, callF, argSl, lentBack, slotsOf, makeM, insM, permM, permute, dataR, isM, isI_tup, isI_str, isI_tD, isI_ttD, isI_ins, len_tD, len_ttD, seqM, seqD, enmM, enmD, zipM, zipD, forM, dzM, trueM, mt_is_name, mt_wrong_name, mt_is_ascending, mt_is_one_of, mt_check_guests, mt_check_rooms, mt_check_accepted, mt_House_init, mt_House_place_of, mt_House_check_room, mt_House_accepts, mt_check_house, mt_are_places, mt_is_good, mt_is_placing, mt_check_placing, mt_frees, mt_lets, mt_law_cell, mt_law_well, mt_law_dip, mt_law_names, mt_law_new_home, mt_law_all_lain, mt_law_full, mt_law_made, mt_law_let_moves, mt_law_pick, mt_law_right, mt_law, in_House, cl_len, eL, hn, wd, hd, eqD_int, we, at1, sizeLine]
      · exact ⟨s, j2, hj2, hs, by simp [startE, exSs, exS, evE, evV, evPs, evR, evA, evO, evC, evI, exT, consM, setIxM, frzM, op2, pz, varM, opD, ixR, ixD, binD, frz, isOw, setAt, asgM, keepM, keepR, putSl, free, biM, biD, biInt, len_tup, len_lst, len_scr, len_dic, len_str, biTuple, biList, biAbs, biMax2, biMin2, biDivmod, consP, consR, consV, nilR, nilD, iteM, boolM, cmpR, cmpD, retM, retNM, endR, clean1, clean2, clean3, clean4, clean5, lentAt, Ct.d, putTg, putAll, parPut, parM, asgTuM, asgTM, tNilM, tNmM, tIxM, exM, nextM, ifeM, andM, orM, notM, negM, isNM, notNM, isTM, notTM, chainM, noO, soM, sliM, sliD, fldM, tupM, lstM, dataM, bmM, bmD, lendM, callM, callF, argSl, lentBack, slotsOf, makeM, insM, permM, permute, dataR, isM, isI_tup, isI_str, isI_tD, isI_ttD, isI_ins, len_tD, len_ttD, seqM, seqD, enmM, enmD, zipM, zipD, forM, dzM, trueM, mt_is_name, mt_wrong_name, mt_is_ascending, mt_is_one_of, mt_check_guests, mt_check_rooms, mt_check_accepted, mt_House_init, mt_House_place_of, mt_House_check_room, mt_House_accepts, mt_check_house, mt_are_places, mt_is_good, mt_is_placing, mt_check_placing, mt_frees, mt_lets, mt_law_cell, mt_law_well, mt_law_dip, mt_law_names, mt_law_new_home, mt_law_all_lain, mt_law_full, mt_law_made, mt_law_let_moves, mt_law_pick, mt_law_right, mt_law, in_House, cl_len, eL, hn, wd, hd, eqD_int, sizeLine]⟩
  obtain ⟨t, j2, hj2, ht, t1⟩ := t1
  refine ⟨t, j2, .va (tD t), s10, hj2, ht, .va _, h10, ?_⟩
  simp only [b1_law_new_home, exSs]
  rw [seq_next _ t0, seq_next _ t1, seq_next [.ow true j2, .va l, .va m, .va rr, .va (tD g), .va (tD r), .va kk, .va (.int z), .ow false (.lst ((L ++ [t]).map tD)), .va (tD t), s10] ?h]
  · rfl
  case h =>
    simp only [exS, evE, exM, appendM, isOw, List.getElem?_cons_succ, List.getElem?_cons_zero, if_true, frzM, varM, frz, if_pos hz, List.map_append, List.map_cons, List.map_nil]
    rfl
/-- what is drawn -/
structure HomeW (g r : List Str) (a : List (List Str)) : Prop where
  gN : NmR folkS g g.length
  rN : NmR hallS r r.length
  g1 : 1 ≤ g.length
  g6 : g.length ≤ 6
  r1 : 1 ≤ r.length
  r8 : r.length ≤ 8
  al : a.length = g.length
  as : ∀ l ∈ a, l.Sublist r
theorem HomeW.home {g r : List Str} {a : List (List Str)} (h : HomeW g r a) : Home g r a where
  gn := fun x hx => nm_ok (List.mem_append_left _ (h.gN.mem x hx))
  rn := fun x hx => nm_ok (List.mem_append_right _ (h.rN.mem x hx))
  gd := h.gN.nd
  rd := h.rN.nd
  gr := fun x hx hg => apart x (h.rN.mem x hx) (h.gN.mem x hg)
  g0 := fun e => by have := h.g1; rw [e] at this; simp at this
  r0 := fun e => by have := h.r1; rw [e] at this; simp at this
  g6 := h.g6
  r8 := h.r8
  al := h.al
  as := h.as
end VI
namespace VI
open PySem L2
theorem r_new_home {k least most rooms : Nat} {j : D} (hj : Jar j) (h1 : 1 ≤ least) (h2 : least ≤ most) (h6 : most ≤ 6) (r1 : 1 ≤ rooms) (r8 : rooms ≤ 8) :
    ∃ g r a j', Jar j' ∧ HomeW g r a ∧ runN Pg0 (k + 3) i_law_new_home [.ow true j, .va (.int least), .va (.int most), .va (.int rooms)] = some (.dt (homeD g r a), [.ow true j', .no, .no, .no]) := by
  rw [run_of (fn := f_law_new_home) rfl rfl]
  obtain ⟨d1, j1, hj1, a0, a1, w1⟩ := r_dip (k := k + 1) (n := (most : Int) - least + 1) hj (by omega) (by omega)
  obtain ⟨g, j2, hj2, ng, w2⟩ := r_names (k := k) (n := least + d1.toNat) (b := true) hj1 (by omega)
  have e1 : ((least + d1.toNat : Nat) : Int) = (least : Int) + d1 := by omega
  rw [e1] at w2
  obtain ⟨d3, j3, hj3, b0, b1, w3⟩ := r_dip (k := k + 1) (n := 4) hj2 (by decide) (by decide)
  have gl : g.length = least + d1.toNat := ng.len
  generalize hm : (if 1 < (if (g.length : Int) + d3 - 1 < (rooms : Int) then (g.length : Int) + d3 - 1 else (rooms : Int)) then (if (g.length : Int) + d3 - 1 < (rooms : Int) then (g.length : Int) + d3 - 1 else (rooms : Int)) else 1) = mm
  have hmm : 1 ≤ mm ∧ mm ≤ rooms := by
    rw [← hm]
    split
    · split at * <;> omega
    · omega
  obtain ⟨r, j4, hj4, nr, w4⟩ := r_names (k := k) (n := mm.toNat) (b := false) hj3 (by omega)
  have e4 : ((mm.toNat : Nat) : Int) = mm := by omega
  rw [e4] at w4
  obtain ⟨d5, j5, hj5, c0, c1, w5⟩ := r_dip (k := k + 1) (n := 4) hj4 (by decide) (by decide)
  have rl : r.length = mm.toNat := nr.len
  have nr' : NmR hallS r r.length := by rw [rl]; exact nr
  have ng' : NmR folkS g g.length := by rw [gl]; exact ng
  have hr8 : r.length ≤ 8 := by omega
  have hok : ∀ x ∈ r, PyData.strOk x = true := fun x hx => (nm_ok (List.mem_append_right _ (nr'.mem x hx))).ok
  have w := forL_inv (t := .nm 6) (b := exSs Pg0 (runN Pg0 (k + 2)) b1_law_new_home) (fun pre env => ∃ (L : List (List Str)) (j : D) (s6 s9 s10 : Sl), Jar j ∧ L.length = pre.length ∧ (∀ t ∈ L, t.Sublist r) ∧ Pl s6 ∧ Pl s9 ∧ Pl s10 ∧ env = [.ow true j, .va (.int least), .va (.int most), .va (.int rooms), .va (tD g), .va (tD r), s6, .va (.int (1 + d5)), .ow false (.lst (L.map tD)), s9, s10]) (fun _ _ => False)
    ((List.range g.length).map fun (k : Nat) => .int (k : Int)) ((List.range g.length).map fun (k : Nat) => .int (k : Int)) [] [.ow true j5, .va (.int least), .va (.int most), .va (.int rooms), .va (tD g), .va (tD r), .no, .va (.int (1 + d5)), .ow false (.lst []), .no, .no] rfl ⟨[], j5, .no, .no, .no, hj5, rfl, by simp, .no, .no, .no, rfl⟩ (fun pre x post env q ⟨L, j, s6, s9, s10, hj, hl, hL, p6, p9, p10, e⟩ => by
      subst e
      have hlen : pre.length < g.length := by have := (at_pre q).1; simpa using this
      obtain ⟨t, j', s9', s10', hj', ht, q9, q10, wt⟩ := home_turn (k := k + 1) (l := .int least) (m := .int most) (rr := .int rooms) (kk := x) (g := g) (r := r) (z := 1 + d5) (L := L) (s9 := s9) (s10 := s10) hj hr8 hok hL (by omega) p9 p10
      refine ⟨[.ow true j, .va (.int least), .va (.int most), .va (.int rooms), .va (tD g), .va (tD r), .va x, .va (.int (1 + d5)), .ow false (.lst (L.map tD)), s9, s10], .next, _, ?_, wt, fun _ => ⟨L ++ [t], j', _, s9', s10', hj', by simp [hl], fun u hu => ?_, .va _, q9, q10, rfl⟩, by simp, fun r h => nomatch h⟩
      · rcases p6 with rfl | ⟨d, rfl⟩ <;> rfl
      · rcases List.mem_append.mp hu with h | h
        · exact hL u h
        · simp at h; subst h; exact ht)
  obtain ⟨fl, env', k1, k2 | ⟨rr, _, k3⟩⟩ := w
  · obtain ⟨rfl, L, j6, s6, s9, s10, hj6, hl, hL, p6, p9, p10, rfl⟩ := k2
    refine ⟨g, r, L, j6, hj6, ⟨ng', nr', by omega, by omega, by omega, hr8, by simpa using hl, hL⟩, ?_⟩
    rw [show startE f_law_new_home.n [.ow true j, .va (.int least), .va (.int most), .va (.int rooms)] = [.ow true j, .va (.int least), .va (.int most), .va (.int rooms), .no, .no, .no, .no, .no, .no, .no] from rfl]
    simp only [f_law_new_home, b_law_new_home, exSs]
    rw [seq_next [.ow true j2, .va (.int least), .va (.int most), .va (.int rooms), .va (tD g), .no, .no, .no, .no, .no, .no] ?h1, seq_next [.ow true j4, .va (.int least), .va (.int most), .va (.int rooms), .va (tD g), .va (tD r), .no, .no, .no, .no, .no] ?h2, seq_next [.ow true j5, .va (.int least), .va (.int most), .va (.int rooms), .va (tD g), .va (tD r), .no, .va (.int (1 + d5)), .ow false (.lst []), .no, .no] ?h3, seq_next [.ow true j6, .va (.int least), .va (.int most), .va (.int rooms), .va (tD g), .va (tD r), s6, .va (.int (1 + d5)), .ow false (.lst (L.map tD)), s9, s10] ?h4, seq_ret (.dt (homeD g r L)) [.ow true j6, .va (.int least), .va (.int most), .va (.int rooms), .va (tD g), .va (tD r), s6, .va (.int (1 + d5)), .ow false (.lst (L.map tD)), s9, s10] ?h5, end_ret]
    · rfl
    case h1 => simp [startE, exSs, exS, evE, evV, evPs, evR, evA, evO, evC, evI, exT, consM, setIxM, frzM, op2, pz, varM, opD, ixR, ixD, binD, frz, isOw, setAt, asgM, keepM, keepR, putSl, free, biM, biD, biInt, len_tup, len_lst, len_scr, len_dic, len_str, biTuple, biList, biAbs, biMax2, biMin2, biDivmod, consP, consR, consV, nilR, nilD, iteM, boolM, cmpR, cmpD, retM, retNM, endR, clean1, clean2, clean3, clean4, clean5, lentAt, Ct.d, putTg, putAll, parPut, parM, asgTuM, asgTM, tNilM, tNmM, tIxM, exM, nextM, ifeM, andM, orM, notM, negM, isNM, notNM, isTM, notTM, chainM, noO, soM, sliM, sliD, fldM, tupM, lstM, dataM, bmM, bmD, lendM, callM, callF, argSl, lentBack, slotsOf, makeM, insM, permM, permute, dataR, isM, isI_tup, isI_str, isI_tD, isI_ttD, isI_ins, len_tD, len_ttD, seqM, seqD, enmM, enmD, zipM, zipD, forM, dzM, trueM, mt_is_name, mt_wrong_name, mt_is_ascending, mt_is_one_of, mt_check_guests, mt_check_rooms, mt_check_accepted, mt_House_init, mt_House_place_of, mt_House_check_room, mt_House_accepts, mt_check_house, mt_are_places, mt_is_good, mt_is_placing, mt_check_placing, mt_frees, mt_lets, mt_law_cell, mt_law_well, mt_law_dip, mt_law_names, mt_law_new_home, mt_law_all_lain, mt_law_full, mt_law_made, mt_law_let_moves, mt_law_pick, mt_law_right, mt_law, in_House, cl_len, w1, w2]
    case h2 => simp [startE, exSs, exS, evE, evV, evPs, evR, evA, evO, evC, evI, exT, consM, setIxM, frzM, op2, pz, varM, opD, ixR, ixD, binD, frz, isOw, setAt, asgM, keepM, keepR, putSl, free, biM, biD, biInt, len_tup, len_lst, len_scr, len_dic, len_str, biTuple, biList, biAbs, biMax2, biMin2, biDivmod, consP, consR, consV, nilR, nilD, iteM, boolM, cmpR, cmpD, retM, retNM, endR, clean1, clean2, clean3, clean4, clean5, lentAt, Ct.d, putTg, putAll, parPut, parM, asgTuM, asgTM, tNilM, tNmM, tIxM, exM, nextM, ifeM, andM, orM, notM, negM, isNM, notNM, isTM, notTM, chainM, noO, soM, sliM, sliD, fldM, tupM, lstM, dataM, bmM, bmD, lendM, callM, callF, argSl, lentBack, slotsOf, makeM, insM, permM, permute, dataR, isM, isI_tup, isI_str, isI_tD, isI_ttD, isI_ins, len_tD, len_ttD, seqM, seqD, enmM, enmD, zipM, zipD, forM, dzM, trueM, mt_is_name, mt_wrong_name, mt_is_ascending, mt_is_one_of, mt_check_guests, mt_check_rooms, mt_check_accepted, mt_House_init, mt_House_place_of, mt_House_check_room, mt_House_accepts, mt_check_house, mt_are_places, mt_is_good, mt_is_placing, mt_check_placing, mt_frees, mt_lets, mt_law_cell, mt_law_well, mt_law_dip, mt_law_names, mt_law_new_home, mt_law_all_lain, mt_law_full, mt_law_made, mt_law_let_moves, mt_law_pick, mt_law_right, mt_law, in_House, cl_len, w3, hm, w4]
    case h3 => simp [startE, exSs, exS, evE, evV, evPs, evR, evA, evO, evC, evI, exT, consM, setIxM, frzM, op2, pz, varM, opD, ixR, ixD, binD, frz, isOw, setAt, asgM, keepM, keepR, putSl, free, biM, biD, biInt, len_tup, len_lst, len_scr, len_dic, len_str, biTuple, biList, biAbs, biMax2, biMin2, biDivmod, consP, consR, consV, nilR, nilD, iteM, boolM, cmpR, cmpD, retM, retNM, endR, clean1, clean2, clean3, clean4, clean5, lentAt, Ct.d, putTg, putAll, parPut, parM, asgTuM, asgTM, tNilM, tNmM, tIxM, exM, nextM, ifeM, andM, orM, notM, negM, isNM, notNM, isTM, notTM, chainM, noO, soM, sliM, sliD, fldM, tupM, lstM, dataM, bmM, bmD, lendM, callM, callF, argSl, lentBack, slotsOf, makeM, insM, permM, permute, dataR, isM, isI_tup, isI_str, isI_tD, isI_ttD, isI_ins, len_tD, len_ttD, seqM, seqD, enmM, enmD, zipM, zipD, forM, dzM, trueM, mt_is_name, mt_wrong_name, mt_is_ascending, mt_is_one_of, mt_check_guests, mt_check_rooms, mt_check_accepted, mt_House_init, mt_House_place_of, mt_House_check_room, mt_House_accepts, mt_check_house, mt_are_places, mt_is_good, mt_is_placing, mt_check_placing, mt_frees, mt_lets, mt_law_cell, mt_law_well, mt_law_dip, mt_law_names, mt_law_new_home, mt_law_all_lain, mt_law_full, mt_law_made, mt_law_let_moves, mt_law_pick, mt_law_right, mt_law, in_House, cl_len, w5, sizeLine]
    case h4 =>
      have he : evE Pg0 (runN Pg0 (k + 2)) (.bi .len (.cons (.var 4) .nil)) [.ow true j5, .va (.int least), .va (.int most), .va (.int rooms), .va (tD g), .va (tD r), .no, .va (.int (1 + d5)), .ow false (.lst []), .no, .no] = some (.dt (.int (g.length : Nat)), [.ow true j5, .va (.int least), .va (.int most), .va (.int rooms), .va (tD g), .va (tD r), .no, .va (.int (1 + d5)), .ow false (.lst []), .no, .no]) := by
        simp [startE, exSs, exS, evE, evV, evPs, evR, evA, evO, evC, evI, exT, consM, setIxM, frzM, op2, pz, varM, opD, ixR, ixD, binD, frz, isOw, setAt, asgM, keepM, keepR, putSl, free, biM, biD, biInt, len_tup, len_lst, len_scr, len_dic, len_str, biTuple, biList, biAbs, biMax2, biMin2, biDivmod, consP, consR, consV, nilR, nilD, iteM, boolM, cmpR, cmpD, retM, retNM, endR, clean1, clean2, clean3, clean4, clean5, lentAt, Ct.d, putTg, putAll, parPut, parM, asgTuM, asgTM, tNilM, tNmM, tIxM, exM, nextM, ifeM, andM, orM, notM, negM, isNM, notNM, isTM, notTM, chainM, noO, soM, sliM, sliD, fldM, tupM, lstM, dataM, bmM, bmD, lendM, callM, callF, argSl, lentBack, slotsOf, makeM, insM, permM, permute, dataR, isM, isI_tup, isI_str, isI_tD, isI_ttD, isI_ins, len_tD, len_ttD, seqM, seqD, enmM, enmD, zipM, zipD, forM, dzM, trueM, mt_is_name, mt_wrong_name, mt_is_ascending, mt_is_one_of, mt_check_guests, mt_check_rooms, mt_check_accepted, mt_House_init, mt_House_place_of, mt_House_check_room, mt_House_accepts, mt_check_house, mt_are_places, mt_is_good, mt_is_placing, mt_check_placing, mt_frees, mt_lets, mt_law_cell, mt_law_well, mt_law_dip, mt_law_names, mt_law_new_home, mt_law_all_lain, mt_law_full, mt_law_made, mt_law_let_moves, mt_law_pick, mt_law_right, mt_law, in_House, cl_len]
      rw [s2_law_new_home, for_rng he (by omega)]
      exact k1
    case h5 => simp [startE, exSs, exS, evE, evV, evPs, evR, evA, evO, evC, evI, exT, consM, setIxM, frzM, op2, pz, varM, opD, ixR, ixD, binD, frz, isOw, setAt, asgM, keepM, keepR, putSl, free, biM, biD, biInt, len_tup, len_lst, len_scr, len_dic, len_str, biTuple, biList, biAbs, biMax2, biMin2, biDivmod, consP, consR, consV, nilR, nilD, iteM, boolM, cmpR, cmpD, retM, retNM, endR, clean1, clean2, clean3, clean4, clean5, lentAt, Ct.d, putTg, putAll, parPut, parM, asgTuM, asgTM, tNilM, tNmM, tIxM, exM, nextM, ifeM, andM, orM, notM, negM, isNM, notNM, isTM, notTM, chainM, noO, soM, sliM, sliD, fldM, tupM, lstM, dataM, bmM, bmD, lendM, callM, callF, argSl, lentBack, slotsOf, makeM, insM, permM, permute, dataR, isM, isI_tup, isI_str, isI_tD, isI_ttD, isI_ins, len_tD, len_ttD, seqM, seqD, enmM, enmD, zipM, zipD, forM, dzM, trueM, mt_is_name, mt_wrong_name, mt_is_ascending, mt_is_one_of, mt_check_guests, mt_check_rooms, mt_check_accepted, mt_House_init, mt_House_place_of, mt_House_check_room, mt_House_accepts, mt_check_house, mt_are_places, mt_is_good, mt_is_placing, mt_check_placing, mt_frees, mt_lets, mt_law_cell, mt_law_well, mt_law_dip, mt_law_names, mt_law_new_home, mt_law_all_lain, mt_law_full, mt_law_made, mt_law_let_moves, mt_law_pick, mt_law_right, mt_law, in_House, cl_len, homeD, ttD, sizeLine]
  · exact k3.elim
end VI
namespace VI
open PySem L2
def lkF (r : List Str) (a : List (List Str)) (n : Nat) : List Str := r.filter fun y => decide (y ∈ a.getD n []) || decide (y = r.getD n "")
theorem full_e0 {k n : Nat} {j l m rr li : D} {g r0 r : List Str} {a : List (List Str)} {s8 : Sl} (h8 : Pl s8) (hr : r.length ≤ 8) (hn : n < a.length) (hn2 : n < r.length) :
    evE Pg0 (runN Pg0 k) e0_law_full [.ow true j, .va l, .va m, .va rr, .va (homeD g r0 a), .va (tD r), .ow false li, .va (.int n), s8] = some (.nw (.lst ((lkF r a n).map .str)), [.ow true j, .va l, .va m, .va rr, .va (homeD g r0 a), .va (tD r), .ow false li, .va (.int n), s8]) := by
  have w := lcM_pure (vs := [8]) (t := .nm 8) (it := evI Pg0 (runN Pg0 k) (.seq (.var 5))) (c := evC Pg0 (runN Pg0 k) (.so (.or (.cmp .isin (.var 8) (.ix (.ix (.var 4) (.cst (.int 2))) (.var 7))) (.cmp .eq (.var 8) (.ix (.var 5) (.var 7)))))) (e := evE Pg0 (runN Pg0 k) (.var 8))
    (env := [.ow true j, .va l, .va m, .va rr, .va (homeD g r0 a), .va (tD r), .ow false li, .va (.int n), s8]) (env1 := [.ow true j, .va l, .va m, .va rr, .va (homeD g r0 a), .va (tD r), .ow false li, .va (.int n), s8]) (xs := r.map .str) (fun d => match d with | .str y => decide (y ∈ a.getD n []) || decide (y = r.getD n "") | _ => false) id rfl (by rcases h8 with rfl | ⟨d, rfl⟩ <;> rfl) (by rw [List.length_map]; exact Nat.le_trans hr (by decide)) (fun d hd => by
      obtain ⟨y, hy, rfl⟩ := List.mem_map.mp hd
      refine ⟨[.ow true j, .va l, .va m, .va rr, .va (homeD g r0 a), .va (tD r), .ow false li, .va (.int n), .va (.str y)], [.ow true j, .va l, .va m, .va rr, .va (homeD g r0 a), .va (tD r), .ow false li, .va (.int n), .va (.str y)], rfl, ?_, rfl, fun _ => ⟨_, rfl, rfl⟩⟩
      have e1 := inD_tD y a[n]
      have x1 : ixD (homeD g r0 a) (.int 2) = some (ttD a) := rfl
      have x2 : ixD (ttD a) (.int (n : Nat)) = some (tD a[n]) := by simp [ixD, ttD, atI_cast, hn]
      have x3 : ixD (tD r) (.int (n : Nat)) = some (.str r[n]) := by simp [ixD, tD, atI_cast, hn2]
      have g1 : a.getD n [] = a[n] := by rw [List.getD_eq_getElem?_getD, List.getElem?_eq_getElem hn]; rfl
      have g2 : r.getD n "" = r[n] := by rw [List.getD_eq_getElem?_getD, List.getElem?_eq_getElem hn2]; rfl
      rw [g1, g2]
      generalize homeD g r0 a = H0 at *
      generalize ttD a = A0 at *
      generalize hR : tD r = R0 at *
      by_cases q : y ∈ a[n]
      · simp [evC, boolM, evE, orM, op2, varM, pz, opD, ixR, x1, x2, x3, Ct.d, cmpR, cmpD, e1, q]
      · simp [evC, boolM, evE, orM, op2, varM, pz, opD, ixR, x1, x2, x3, Ct.d, cmpR, cmpD, e1, q, eqD_str])
  have e1 : (((r.map D.str).filter fun d => match d with | .str y => decide (y ∈ a.getD n []) || decide (y = r.getD n "") | _ => false).map id) = (lkF r a n).map .str := by
    rw [List.map_id, List.filter_map]; rfl
  rw [e1] at w
  exact w
theorem full_loop {k : Nat} {j l m rr : D} {g r0 r : List Str} {a : List (List Str)} (hr : r.length ≤ 8) (hg : g.length ≤ 6) (ha : a.length = g.length) (hgr : g.length ≤ r.length) :
    ∃ s7 s8, exS Pg0 (runN Pg0 k) s2_law_full [.ow true j, .va l, .va m, .va rr, .va (homeD g r0 a), .va (tD r), .ow false (.lst []), .no, .no] = some (.next, [.ow true j, .va l, .va m, .va rr, .va (homeD g r0 a), .va (tD r), .ow false (.lst (((List.range g.length).map (lkF r a)).map tD)), s7, s8]) := by
  have w := forL_inv (t := .nm 7) (b := exSs Pg0 (runN Pg0 k) b1_law_full) (fun pre env => ∃ s7 s8, Pl s7 ∧ Pl s8 ∧ env = [.ow true j, .va l, .va m, .va rr, .va (homeD g r0 a), .va (tD r), .ow false (.lst (((List.range pre.length).map (lkF r a)).map tD)), s7, s8]) (fun _ _ => False)
    ((List.range g.length).map fun (k : Nat) => .int (k : Int)) ((List.range g.length).map fun (k : Nat) => .int (k : Int)) [] [.ow true j, .va l, .va m, .va rr, .va (homeD g r0 a), .va (tD r), .ow false (.lst []), .no, .no] rfl ⟨_, _, .no, .no, rfl⟩ (fun pre x post env q ⟨s7, s8, p7, p8, e⟩ => by
      subst e
      obtain ⟨hn, hx⟩ := at_pre q
      have hn' : pre.length < g.length := by simpa using hn
      have hx' : x = .int (pre.length : Nat) := by rw [hx]; simp
      subst hx'
      have hc := full_e0 (k := k) (n := pre.length) (j := j) (l := l) (m := m) (rr := rr) (li := .lst (((List.range pre.length).map (lkF r a)).map tD)) (g := g) (r0 := r0) (r := r) (a := a) (s8 := s8) p8 hr (by omega) (by omega)
      have hz : (((List.range pre.length).map (lkF r a)).map tD).length < sizeLine := by simp only [List.length_map, List.length_range]; exact Nat.lt_of_lt_of_le (Nat.lt_of_lt_of_le hn' hg) (by decide)
      refine ⟨[.ow true j, .va l, .va m, .va rr, .va (homeD g r0 a), .va (tD r), .ow false (.lst (((List.range pre.length).map (lkF r a)).map tD)), .va (.int (pre.length : Nat)), s8], .next, [.ow true j, .va l, .va m, .va rr, .va (homeD g r0 a), .va (tD r), .ow false (.lst (((List.range (pre.length + 1)).map (lkF r a)).map tD)), .va (.int (pre.length : Nat)), s8], ?_, ?_, fun _ => ⟨_, _, .va _, p8, by rw [List.length_append]; rfl⟩, by simp, fun r h => nomatch h⟩
      · rcases p7 with rfl | ⟨d, rfl⟩ <;> rfl
      · have hb := bi1_nw (f := biD .tuple) (r := .dt (tD (lkF r a pre.length))) hc rfl
        simp only [b1_law_full, exSs, exS, evE, evPs]
        rw [seq_next [.ow true j, .va l, .va m, .va rr, .va (homeD g r0 a), .va (tD r), .ow false (.lst (((List.range (pre.length + 1)).map (lkF r a)).map tD)), .va (.int (pre.length : Nat)), s8] ?h]
        · rfl
        case h =>
          simp only [exM, appendM, isOw, List.getElem?_cons_succ, List.getElem?_cons_zero, if_true, frz_dt hb, if_pos hz, List.range_succ, List.map_append, List.map_cons, List.map_nil]
          rfl)
  obtain ⟨fl, env', k1, k2 | ⟨rr, _, k3⟩⟩ := w
  · obtain ⟨rfl, s7, s8, _, _, rfl⟩ := k2
    rw [List.length_map, List.length_range] at k1
    refine ⟨s7, s8, ?_⟩
    have he : evE Pg0 (runN Pg0 k) (.bi .len (.cons (.ix (.var 4) (.cst (.int 0))) .nil)) [.ow true j, .va l, .va m, .va rr, .va (homeD g r0 a), .va (tD r), .ow false (.lst []), .no, .no] = some (.dt (.int (g.length : Nat)), [.ow true j, .va l, .va m, .va rr, .va (homeD g r0 a), .va (tD r), .ow false (.lst []), .no, .no]) := by
      have x1 : ixD (homeD g r0 a) (.int 0) = some (tD g) := rfl
      generalize homeD g r0 a = H0 at *
      simp [evE, evPs, biM, consP, op2, varM, pz, opD, ixR, x1, Ct.d, nilR, biD, len_tD]
    rw [s2_law_full, for_rng he (by omega)]
    exact k1
  · exact k3.elim
theorem ih0 (g r : List Str) (a : List (List Str)) : ixD (homeD g r a) (.int 0) = some (tD g) := rfl
theorem ih1 (g r : List Str) (a : List (List Str)) : ixD (homeD g r a) (.int 1) = some (tD r) := rfl
theorem ih2 (g r : List Str) (a : List (List Str)) : ixD (homeD g r a) (.int 2) = some (ttD a) := rfl
theorem r_full {k least most rooms : Nat} {j : D} (hj : Jar j) (h1 : 1 ≤ least) (h2 : least ≤ most) (h6 : most ≤ 6) (r1 : 1 ≤ rooms) (r8 : rooms ≤ 8) :
    ∃ g r a j', Jar j' ∧ HomeW g r a ∧ lains a ≠ [] ∧ runN Pg0 (k + 4) i_law_full [.ow true j, .va (.int least), .va (.int most), .va (.int rooms)] = some (.dt (homeD g r a), [.ow true j', .no, .no, .no]) := by
  rw [run_of (fn := f_law_full) rfl rfl]
  obtain ⟨g, r0, a0, j1, hj1, H, w1⟩ := r_new_home (k := k) hj h1 h2 h6 r1 r8
  have a0n : a0 ≠ [] := fun e => by have := H.al; have := H.g1; rw [e] at *; simp at *; omega
  have s8 : ∀ s ∈ a0, s.length ≤ 8 := fun s hs => Nat.le_trans (H.as s hs).length_le H.r8
  have w2 := r_all_lain (k := k + 2) (g := g) (r := r0) a0n s8 (by rw [H.al]; exact H.g6)
  have okL : ∀ t ∈ lains a0, ∀ x ∈ t, PyData.strOk x = true := fun t ht x hx => by
    have P := lains_plc (r := r0) ht
    obtain ⟨i, hi, rfl⟩ := List.mem_iff_getElem.mp hx
    have hi2 : i < a0.length := by rw [← P.len]; exact hi
    exact (H.home.rn _ ((H.as _ (List.getElem_mem hi2)).subset (P.at_ i hi hi2))).ok
  have eL := eq_ll okL
  rw [show startE f_law_full.n [.ow true j, .va (.int least), .va (.int most), .va (.int rooms)] = [.ow true j, .va (.int least), .va (.int most), .va (.int rooms), .no, .no, .no, .no, .no] from rfl]
  have t0 : exS Pg0 (runN Pg0 (k + 3)) (.asg (.nm 4) (.call 22 (.cons (.var 0) (.cons (.var 1) (.cons (.var 2) (.cons (.var 3) .nil)))))) [.ow true j, .va (.int least), .va (.int most), .va (.int rooms), .no, .no, .no, .no, .no] = some (.next, [.ow true j1, .va (.int least), .va (.int most), .va (.int rooms), .va (homeD g r0 a0), .no, .no, .no, .no]) := by
    simp [startE, exSs, exS, evE, evV, evPs, evR, evA, evO, evC, evI, exT, consM, setIxM, frzM, op2, pz, varM, opD, ixR, ixD, binD, frz, isOw, setAt, asgM, keepM, keepR, putSl, free, biM, biD, biInt, len_tup, len_lst, len_scr, len_dic, len_str, biTuple, biList, biAbs, biMax2, biMin2, biDivmod, consP, consR, consV, nilR, nilD, iteM, boolM, cmpR, cmpD, retM, retNM, endR, clean1, clean2, clean3, clean4, clean5, lentAt, Ct.d, putTg, putAll, parPut, parM, asgTuM, asgTM, tNilM, tNmM, tIxM, exM, nextM, ifeM, andM, orM, notM, negM, isNM, notNM, isTM, notTM, chainM, noO, soM, sliM, sliD, fldM, tupM, lstM, dataM, bmM, bmD, lendM, callM, callF, argSl, lentBack, slotsOf, makeM, insM, permM, permute, dataR, isM, isI_tup, isI_str, isI_tD, isI_ttD, isI_ins, len_tD, len_ttD, seqM, seqD, enmM, enmD, zipM, zipD, forM, dzM, trueM, mt_is_name, mt_wrong_name, mt_is_ascending, mt_is_one_of, mt_check_guests, mt_check_rooms, mt_check_accepted, mt_House_init, mt_House_place_of, mt_House_check_room, mt_House_accepts, mt_check_house, mt_are_places, mt_is_good, mt_is_placing, mt_check_placing, mt_frees, mt_lets, mt_law_cell, mt_law_well, mt_law_dip, mt_law_names, mt_law_new_home, mt_law_all_lain, mt_law_full, mt_law_made, mt_law_let_moves, mt_law_pick, mt_law_right, mt_law, in_House, cl_len, w1]
  by_cases hL : lains a0 = []
  · -- rooms for all
    have hr : ∃ r j2, Jar j2 ∧ NmR hallS r r.length ∧ r.length ≤ 8 ∧ g.length ≤ r.length ∧ exS Pg0 (runN Pg0 (k + 3)) (.asg (.nm 5) (.ife (.cmp .ge (.bi .len (.cons (.ix (.var 4) (.cst (.int 1))) .nil)) (.bi .len (.cons (.ix (.var 4) (.cst (.int 0))) .nil))) (.ix (.var 4) (.cst (.int 1))) (.call 21 (.cons (.var 0) (.cons (.bi .len (.cons (.ix (.var 4) (.cst (.int 0))) .nil)) (.cons (.cst (.bl false)) .nil)))))) [.ow true j1, .va (.int least), .va (.int most), .va (.int rooms), .va (homeD g r0 a0), .no, .no, .no, .no] = some (.next, [.ow true j2, .va (.int least), .va (.int most), .va (.int rooms), .va (homeD g r0 a0), .va (tD r), .no, .no, .no]) := by
      by_cases q : g.length ≤ r0.length
      · refine ⟨r0, j1, hj1, H.rN, H.r8, q, ?_⟩
        have q' : (g.length : Int) ≤ (r0.length : Int) := by omega
        have x0 := ih0 g r0 a0
        have x1 := ih1 g r0 a0
        generalize homeD g r0 a0 = H0 at *
        simp [exS, evE, evPs, biM, consP, op2, varM, pz, opD, ixR, x0, x1, Ct.d, nilR, biD, len_tD, ifeM, cmpR, cmpD, q', asgM, keepM, keepR, putSl, free]
      · have q' : ¬ ((g.length : Int) ≤ (r0.length : Int)) := by omega
        obtain ⟨r, j2, hj2, nr, w3⟩ := r_names (k := k + 1) (n := g.length) (b := false) hj1 (by have := H.g6; omega)
        have rl : r.length = g.length := nr.len
        refine ⟨r, j2, hj2, by rw [rl]; exact nr, by have := H.g6; omega, by omega, ?_⟩
        have x0 := ih0 g r0 a0
        have x1 := ih1 g r0 a0
        generalize homeD g r0 a0 = H0 at *
        simp [exS, evE, evPs, biM, consP, op2, varM, pz, opD, ixR, x0, x1, Ct.d, nilR, biD, len_tD, ifeM, cmpR, cmpD, q', asgM, keepM, keepR, putSl, free, callM, callF, evA, consR, lendM, frzM, frz, slotsOf, argSl, lentBack, mt_law_names, w3]
    obtain ⟨r, j2, hj2, nr, hr8, hgr, t2⟩ := hr
    obtain ⟨s7, s8', t4⟩ := full_loop (k := k + 3) (j := j2) (l := .int least) (m := .int most) (rr := .int rooms) (g := g) (r0 := r0) (r := r) (a := a0) hr8 H.g6 H.al hgr
    have HW : HomeW g r ((List.range g.length).map (lkF r a0)) := ⟨H.gN, nr, H.g1, H.g6, by have := H.g1; omega, hr8, by simp, fun l hl => by
      obtain ⟨n, _, rfl⟩ := List.mem_map.mp hl
      exact List.filter_sublist⟩
    have P : Plc r ((List.range g.length).map (lkF r a0)) (r.take g.length) := ⟨by simp; omega, nr.nd.sublist (List.take_sublist _ _), fun i i1 i2 => by
      have hi : i < r.length := by rw [List.length_take] at i1; omega
      rw [List.getElem_take, List.getElem_map, List.getElem_range]
      refine List.mem_filter.mpr ⟨List.getElem_mem hi, ?_⟩
      have : r.getD i "" = r[i] := by rw [List.getD_eq_getElem?_getD, List.getElem?_eq_getElem hi]; rfl
      rw [this]; simp⟩
    refine ⟨g, r, _, j2, hj2, HW, fun e => ?_, ?_⟩
    · have := plc_lains P
      rw [e] at this; cases this
    · simp only [f_law_full, b_law_full, exSs]
      rw [seq_next _ t0, seq_next [.ow true j1, .va (.int least), .va (.int most), .va (.int rooms), .va (homeD g r0 a0), .no, .no, .no, .no] ?h1, seq_next _ t2, seq_next [.ow true j2, .va (.int least), .va (.int most), .va (.int rooms), .va (homeD g r0 a0), .va (tD r), .ow false (.lst []), .no, .no] ?h3, seq_next _ t4, seq_ret (.dt (homeD g r ((List.range g.length).map (lkF r a0)))) [.ow true j2, .va (.int least), .va (.int most), .va (.int rooms), .va (homeD g r0 a0), .va (tD r), .ow false (.lst (((List.range g.length).map (lkF r a0)).map tD)), s7, s8'] ?h5, end_ret]
      · rfl
      case h1 =>
        rw [hL] at w2 eL
        have eL' : eqD (.lst []) (.lst []) = some true := by simpa using eL
        have w2' : runN Pg0 (k + 3) i_law_all_lain [.va (homeD g r0 a0)] = some (.dt (.lst []), [.no]) := w2
        simp [startE, exSs, exS, evE, evV, evPs, evR, evA, evO, evC, evI, exT, consM, setIxM, frzM, op2, pz, varM, opD, ixR, ixD, binD, frz, isOw, setAt, asgM, keepM, keepR, putSl, free, biM, biD, biInt, len_tup, len_lst, len_scr, len_dic, len_str, biTuple, biList, biAbs, biMax2, biMin2, biDivmod, consP, consR, consV, nilR, nilD, iteM, boolM, cmpR, cmpD, retM, retNM, endR, clean1, clean2, clean3, clean4, clean5, lentAt, Ct.d, putTg, putAll, parPut, parM, asgTuM, asgTM, tNilM, tNmM, tIxM, exM, nextM, ifeM, andM, orM, notM, negM, isNM, notNM, isTM, notTM, chainM, noO, soM, sliM, sliD, fldM, tupM, lstM, dataM, bmM, bmD, lendM, callM, callF, argSl, lentBack, slotsOf, makeM, insM, permM, permute, dataR, isM, isI_tup, isI_str, isI_tD, isI_ttD, isI_ins, len_tD, len_ttD, seqM, seqD, enmM, enmD, zipM, zipD, forM, dzM, trueM, mt_is_name, mt_wrong_name, mt_is_ascending, mt_is_one_of, mt_check_guests, mt_check_rooms, mt_check_accepted, mt_House_init, mt_House_place_of, mt_House_check_room, mt_House_accepts, mt_check_house, mt_are_places, mt_is_good, mt_is_placing, mt_check_placing, mt_frees, mt_lets, mt_law_cell, mt_law_well, mt_law_dip, mt_law_names, mt_law_new_home, mt_law_all_lain, mt_law_full, mt_law_made, mt_law_let_moves, mt_law_pick, mt_law_right, mt_law, in_House, cl_len, w2', eL', sizeLine]
      case h3 => rfl
      case h5 =>
        have x0 := ih0 g r0 a0
        have e3 : homeD g r ((List.range g.length).map (lkF r a0)) = .tup [tD g, tD r, .tup (((List.range g.length).map (lkF r a0)).map tD)] := rfl
        rw [e3]
        generalize homeD g r0 a0 = H0 at *
        generalize ((List.range g.length).map (lkF r a0)).map tD = LL at *
        simp [exS, retM, evE, tupM, evV, consV, nilD, evPs, biM, consP, op2, varM, pz, opD, ixR, x0, Ct.d, nilR, biD, biTuple, frz, sizeLine]
  · refine ⟨g, r0, a0, j1, hj1, H, hL, ?_⟩
    simp only [f_law_full, b_law_full, exSs]
    rw [seq_next _ t0, seq_ret (.dt (homeD g r0 a0)) [.ow true j1, .va (.int least), .va (.int most), .va (.int rooms), .va (homeD g r0 a0), .no, .no, .no, .no] ?h1, end_ret]
    · rfl
    case h1 => simp [startE, exSs, exS, evE, evV, evPs, evR, evA, evO, evC, evI, exT, consM, setIxM, frzM, op2, pz, varM, opD, ixR, ixD, binD, frz, isOw, setAt, asgM, keepM, keepR, putSl, free, biM, biD, biInt, len_tup, len_lst, len_scr, len_dic, len_str, biTuple, biList, biAbs, biMax2, biMin2, biDivmod, consP, consR, consV, nilR, nilD, iteM, boolM, cmpR, cmpD, retM, retNM, endR, clean1, clean2, clean3, clean4, clean5, lentAt, Ct.d, putTg, putAll, parPut, parM, asgTuM, asgTM, tNilM, tNmM, tIxM, exM, nextM, ifeM, andM, orM, notM, negM, isNM, notNM, isTM, notTM, chainM, noO, soM, sliM, sliD, fldM, tupM, lstM, dataM, bmM, bmD, lendM, callM, callF, argSl, lentBack, slotsOf, makeM, insM, permM, permute, dataR, isM, isI_tup, isI_str, isI_tD, isI_ttD, isI_ins, len_tD, len_ttD, seqM, seqD, enmM, enmD, zipM, zipD, forM, dzM, trueM, mt_is_name, mt_wrong_name, mt_is_ascending, mt_is_one_of, mt_check_guests, mt_check_rooms, mt_check_accepted, mt_House_init, mt_House_place_of, mt_House_check_room, mt_House_accepts, mt_check_house, mt_are_places, mt_is_good, mt_is_placing, mt_check_placing, mt_frees, mt_lets, mt_law_cell, mt_law_well, mt_law_dip, mt_law_names, mt_law_new_home, mt_law_all_lain, mt_law_full, mt_law_made, mt_law_let_moves, mt_law_pick, mt_law_right, mt_law, in_House, cl_len, w2, eL, hL, sizeLine]
end VI
namespace VI
open PySem L2
theorem r_made {k : Nat} {g r : List Str} {a : List (List Str)} (h : Home g r a) : runN Pg0 (k + 5) i_law_made [.va (homeD g r a)] = some (.nw (houseD g r a), [.no]) := by
  rw [run_of (fn := f_law_made) rfl rfl]
  have w := r_init (k := k) h
  have x0 := ih0 g r a
  have x1 := ih1 g r a
  have x2 := ih2 g r a
  generalize houseD g r a = HH at *
  generalize homeD g r a = H0 at *
  simp [startE, exSs, exS, evE, evV, evPs, evR, evA, evO, evC, evI, exT, consM, setIxM, frzM, op2, pz, varM, opD, ixR, binD, frz, isOw, setAt, asgM, keepM, keepR, putSl, free, biM, biD, biInt, len_tup, len_lst, len_scr, len_dic, len_str, biTuple, biList, biAbs, biMax2, biMin2, biDivmod, consP, consR, consV, nilR, nilD, iteM, boolM, cmpR, cmpD, retM, retNM, endR, clean1, clean2, clean3, clean4, clean5, lentAt, Ct.d, putTg, putAll, parPut, parM, asgTuM, asgTM, tNilM, tNmM, tIxM, exM, nextM, ifeM, andM, orM, notM, negM, isNM, notNM, isTM, notTM, chainM, noO, soM, sliM, sliD, fldM, tupM, lstM, dataM, bmM, bmD, lendM, callM, callF, argSl, lentBack, slotsOf, makeM, insM, permM, permute, dataR, isM, isI_tup, isI_str, isI_tD, isI_ttD, isI_ins, len_tD, len_ttD, seqM, seqD, enmM, enmD, zipM, zipD, forM, dzM, trueM, mt_is_name, mt_wrong_name, mt_is_ascending, mt_is_one_of, mt_check_guests, mt_check_rooms, mt_check_accepted, mt_House_init, mt_House_place_of, mt_House_check_room, mt_House_accepts, mt_check_house, mt_are_places, mt_is_good, mt_is_placing, mt_check_placing, mt_frees, mt_lets, mt_law_cell, mt_law_well, mt_law_dip, mt_law_names, mt_law_new_home, mt_law_all_lain, mt_law_full, mt_law_made, mt_law_let_moves, mt_law_pick, mt_law_right, mt_law, in_House, cl_len, f_law_made, b_law_made, x0, x1, x2, w]
theorem r_pick {k : Nat} {j : D} {L : List (List Str)} (hj : Jar j) (hL : L ≠ []) (hz : L.length < 1073741824) : ∃ p j', Jar j' ∧ p ∈ L ∧ runN Pg0 (k + 2) i_law_pick [.ow true j, .va (.lst (L.map tD))] = some (.dt (tD p), [.ow true j', .no]) := by
  rw [run_of (fn := f_law_pick) rfl rfl]
  have lp : 0 < L.length := List.length_pos_iff.mpr hL
  obtain ⟨e, j1, hj1, e0, e4, we⟩ := r_dip (k := k) (n := (L.length : Int)) hj (by omega) (by omega)
  have ei : e.toNat < L.length := by omega
  have at1 : atI (L.map tD) e = some (tD L[e.toNat]) := by rw [atI_toNat e0 (by rw [List.length_map]; exact ei)]; simp
  exact ⟨L[e.toNat], j1, hj1, List.getElem_mem ei, by simp [startE, exSs, exS, evE, evV, evPs, evR, evA, evO, evC, evI, exT, consM, setIxM, frzM, op2, pz, varM, opD, ixR, ixD, binD, frz, isOw, setAt, asgM, keepM, keepR, putSl, free, biM, biD, biInt, len_tup, len_lst, len_scr, len_dic, len_str, biTuple, biList, biAbs, biMax2, biMin2, biDivmod, consP, consR, consV, nilR, nilD, iteM, boolM, cmpR, cmpD, retM, retNM, endR, clean1, clean2, clean3, clean4, clean5, lentAt, Ct.d, putTg, putAll, parPut, parM, asgTuM, asgTM, tNilM, tNmM, tIxM, exM, nextM, ifeM, andM, orM, notM, negM, isNM, notNM, isTM, notTM, chainM, noO, soM, sliM, sliD, fldM, tupM, lstM, dataM, bmM, bmD, lendM, callM, callF, argSl, lentBack, slotsOf, makeM, insM, permM, permute, dataR, isM, isI_tup, isI_str, isI_tD, isI_ttD, isI_ins, len_tD, len_ttD, seqM, seqD, enmM, enmD, zipM, zipD, forM, dzM, trueM, mt_is_name, mt_wrong_name, mt_is_ascending, mt_is_one_of, mt_check_guests, mt_check_rooms, mt_check_accepted, mt_House_init, mt_House_place_of, mt_House_check_room, mt_House_accepts, mt_check_house, mt_are_places, mt_is_good, mt_is_placing, mt_check_placing, mt_frees, mt_lets, mt_law_cell, mt_law_well, mt_law_dip, mt_law_names, mt_law_new_home, mt_law_all_lain, mt_law_full, mt_law_made, mt_law_let_moves, mt_law_pick, mt_law_right, mt_law, in_House, cl_len, f_law_pick, b_law_pick, we, at1]⟩
/-! one guest moved -/
theorem var_va {i : Nat} {env : Env'} {d : D} (h : env[i]? = some (.va d)) : varM i env = some (.dt d, env) := by simp only [varM, h]
def put1 (p : List Str) (n : Nat) (y : Str) : List Str := p.take n ++ [y] ++ p.drop (n + 1)
def putE (i kk yy : Nat) : E := .bin .add (.bin .add (.sli (.var i) .no (.so (.var kk))) (.tup (.cons (.var yy) .nil))) (.sli (.var i) (.so (.bin .add (.var kk) (.cst (.int 1)))) .no)
theorem sli_to {cf : Nat → List Sl → Option (R × List Sl)} {i kk n : Nat} {env : Env'} {p : List Str} (h1 : env[i]? = some (.va (tD p))) (h2 : env[kk]? = some (.va (.int n))) : evE Pg0 cf (.sli (.var i) .no (.so (.var kk))) env = some (.dt (tD (p.take n)), env) := by
  simp only [evE, sliM, evO, noO, soM, var_va h1, var_va h2, pz, opD, tD, sliD, cut_to, Option.map, List.map_take]
theorem sli_from {cf : Nat → List Sl → Option (R × List Sl)} {i kk n : Nat} {env : Env'} {p : List Str} (h1 : env[i]? = some (.va (tD p))) (h2 : env[kk]? = some (.va (.int n))) : evE Pg0 cf (.sli (.var i) (.so (.bin .add (.var kk) (.cst (.int 1)))) .no) env = some (.dt (tD (p.drop (n + 1))), env) := by
  have e : ((n : Int) + 1) = ((n + 1 : Nat) : Int) := by omega
  have w : evE Pg0 cf (.bin .add (.var kk) (.cst (.int 1))) env = some (.dt (.int ((n + 1 : Nat) : Int)), env) := by
    rw [← e]
    simp only [evE]
    exact op2_dt (var_va h2) rfl rfl
  have w' : op2 (binD .add) (varM kk) (fun env => some (R.dt (Ct.int 1).d, env)) env = some (.dt (.int ((n + 1 : Nat) : Int)), env) := by
    simpa only [evE] using w
  simp only [evE, sliM, evO, noO, soM, var_va h1, w', pz, opD, tD, sliD, cut_from, Option.map, List.map_drop]
theorem put_ok {cf : Nat → List Sl → Option (R × List Sl)} {i kk yy n : Nat} {env : Env'} {p : List Str} {y : Str} (h1 : env[i]? = some (.va (tD p))) (h2 : env[kk]? = some (.va (.int n))) (h3 : env[yy]? = some (.va (.str y))) (hz : p.length ≤ 6) : evE Pg0 cf (putE i kk yy) env = some (.dt (tD (put1 p n y)), env) := by
  have s1 := sli_to (cf := cf) h1 h2
  have s2 := sli_from (cf := cf) h1 h2
  have b1 := bin_tup (p := p.take n) (q := [y]) (by rw [List.length_take, List.length_singleton]; exact Nat.le_trans (show min n p.length + 1 ≤ 7 by omega) (by decide))
  have b2 := bin_tup (p := p.take n ++ [y]) (q := p.drop (n + 1)) (by rw [List.length_append, List.length_take, List.length_singleton, List.length_drop]; exact Nat.le_trans (show min n p.length + 1 + (p.length - (n + 1)) ≤ 13 by omega) (by decide))
  have t1 : evE Pg0 cf (.tup (.cons (.var yy) .nil)) env = some (.dt (tD [y]), env) := by
    simp only [evE, tupM, evV, consV, nilD, var_va h3, frz]
    rfl
  unfold putE
  have q1 : evE Pg0 cf (.bin .add (.sli (.var i) .no (.so (.var kk))) (.tup (.cons (.var yy) .nil))) env = some (.dt (tD (p.take n ++ [y])), env) := by
    rw [evE]; exact op2_dt s1 t1 b1
  rw [evE]
  exact op2_dt q1 s2 b2
theorem put1_plc {r : List Str} {a : List (List Str)} {p : List Str} {n : Nat} {y : Str} (h : Plc r a p) (hn : n < a.length) (hy : y ∈ a[n]) (hp : y ∉ p) : Plc r a (put1 p n y) := by
  have hl : n < p.length := by rw [h.len]; exact hn
  have e : put1 p n y = p.set n y := by
    unfold put1
    rw [List.set_eq_take_append_cons_drop, if_pos hl]; simp
  rw [e]
  refine ⟨by rw [List.length_set]; exact h.len, ?_, fun i i1 i2 => ?_⟩
  · rw [List.Nodup, List.pairwise_iff_getElem]
    intro i j hi hj hij
    have nd := List.pairwise_iff_getElem.mp h.nd
    rw [List.length_set] at hi hj
    rw [List.getElem_set, List.getElem_set]
    split
    · split
      · omega
      · exact fun q => hp (q ▸ List.getElem_mem hj)
    · split
      · exact fun q => hp (q ▸ List.getElem_mem hi)
      · exact nd i j hi hj hij
  · rw [List.getElem_set]
    split
    · rename_i q; subst q; exact hy
    · exact h.at_ i (by rw [List.length_set] at i1; exact i1) i2
/-! the moves that are let -/
def itD (q : (Str × Str) × D) : D := .tup [.tup [.str q.1.1, .str q.1.2], q.2]
def mvs (g : List Str) (a : List (List Str)) (p : List Str) (n : Nat) : List (Str × Str) := (List.range n).flatMap fun k => ((a.getD k []).filter fun y => !decide (y ∈ p)).map fun y => (g.getD k "", y)
theorem mvs_mem {g : List Str} {a : List (List Str)} {p : List Str} {n : Nat} {y : Str} (hd : g.Nodup) (hl : a.length = g.length) (hn : n < g.length) (hn2 : n < a.length) : (g[n], y) ∈ mvs g a p g.length ↔ y ∈ a[n] ∧ y ∉ p := by
  have gd : ∀ k (h : k < g.length), g.getD k "" = g[k] := fun k h => by rw [List.getD_eq_getElem?_getD, List.getElem?_eq_getElem h]; rfl
  have ad : ∀ k (h : k < a.length), a.getD k [] = a[k] := fun k h => by rw [List.getD_eq_getElem?_getD, List.getElem?_eq_getElem h]; rfl
  unfold mvs
  constructor
  · intro h
    obtain ⟨k, hk, h2⟩ := List.mem_flatMap.mp h
    have hk' := List.mem_range.mp hk
    obtain ⟨y', h3, h4⟩ := List.mem_map.mp h2
    obtain ⟨h5, h6⟩ := List.mem_filter.mp h3
    rw [gd k hk'] at h4
    have e1 : g[k] = g[n] := (Prod.mk.inj h4).1
    have e2 : y' = y := (Prod.mk.inj h4).2
    have e3 : k = n := by
      rcases Nat.lt_trichotomy k n with q | q | q
      · exact (List.pairwise_iff_getElem.mp hd k n hk' hn q e1).elim
      · exact q
      · exact (List.pairwise_iff_getElem.mp hd n k hn hk' q e1.symm).elim
    subst e3 e2
    rw [ad k (by omega)] at h5
    exact ⟨h5, by simpa using h6⟩
  · intro ⟨h1, h2⟩
    refine List.mem_flatMap.mpr ⟨n, List.mem_range.mpr hn, List.mem_map.mpr ⟨y, List.mem_filter.mpr ⟨by rw [ad n hn2]; exact h1, by simpa using h2⟩, by rw [gd n hn]⟩⟩
theorem mvs_len {g : List Str} {a : List (List Str)} {p : List Str} (h8 : ∀ s ∈ a, s.length ≤ 8) : ∀ n, (mvs g a p n).length ≤ 8 * n
  | 0 => by simp [mvs]
  | n + 1 => by
    have ih := mvs_len (g := g) (p := p) h8 n
    have e : mvs g a p (n + 1) = mvs g a p n ++ ((a.getD n []).filter fun y => !decide (y ∈ p)).map fun y => (g.getD n "", y) := by
      unfold mvs
      rw [List.range_succ, List.flatMap_append]; simp only [List.flatMap_cons, List.flatMap_nil, List.append_nil]
    rw [e, List.length_append, List.length_map]
    have h1 := List.length_filter_le (fun y => !decide (y ∈ p)) (a.getD n [])
    have h2 : (a.getD n []).length ≤ 8 := by
      rw [List.getD_eq_getElem?_getD]
      cases q : a[n]? with
      | none => simp
      | some s => exact h8 s (List.mem_of_getElem? q)
    omega
theorem moves_in {k n : Nat} {g r : List Str} {a : List (List Str)} {p : List Str} {Q : List ((Str × Str) × D)} {s4 : Sl} (hn : n < g.length) (hn2 : n < a.length) (hp : p.length ≤ 6) (h8 : a[n].length ≤ 8) (hq : Q.length ≤ 100) (p4 : Pl s4) :
    ∃ (Q' : List ((Str × Str) × D)) (s4' : Sl), Pl s4' ∧ Q'.map (·.1) = Q.map (·.1) ++ (a[n].filter fun y => !decide (y ∈ p)).map (fun y => (g[n], y)) ∧ exS Pg0 (runN Pg0 k) s1_law_let_moves [.va (homeD g r a), .va (tD p), .ow false (.lst (Q.map itD)), .va (.int n), s4] = some (.next, [.va (homeD g r a), .va (tD p), .ow false (.lst (Q'.map itD)), .va (.int n), s4']) := by
  have x0 := ih0 g r a
  have x2 := ih2 g r a
  have y0 : ixD (tD g) (.int (n : Nat)) = some (.str g[n]) := by simp [ixD, tD, atI_cast, hn]
  have y2 : ixD (ttD a) (.int (n : Nat)) = some (tD a[n]) := by simp [ixD, ttD, atI_cast, hn2]
  generalize homeD g r a = H0 at *
  generalize ttD a = A0 at *
  have w := forL_inv (t := .nm 4) (b := exSs Pg0 (runN Pg0 k) b0_law_let_moves) (fun pre env => ∃ (Q' : List ((Str × Str) × D)) (s4 : Sl), Pl s4 ∧ Q'.map (·.1) = Q.map (·.1) ++ ((a[n].take pre.length).filter fun y => !decide (y ∈ p)).map (fun y => (g[n], y)) ∧ env = [.va H0, .va (tD p), .ow false (.lst (Q'.map itD)), .va (.int n), s4]) (fun _ _ => False)
    (a[n].map .str) (a[n].map .str) [] [.va H0, .va (tD p), .ow false (.lst (Q.map itD)), .va (.int n), s4] rfl ⟨Q, s4, p4, by simp, rfl⟩ (fun pre x post env q ⟨Q', s4, p4, e1, e⟩ => by
      subst e
      obtain ⟨hm, hx⟩ := at_pre q
      have hm' : pre.length < a[n].length := by simpa using hm
      have hx' : x = .str a[n][pre.length] := by rw [hx]; simp
      subst hx'
      have et : a[n].take (pre.length + 1) = a[n].take pre.length ++ [a[n][pre.length]] := by rw [List.take_succ, List.getElem?_eq_getElem hm']; rfl
      generalize a[n][pre.length] = y at *
      have ei := inD_tD y p
      have lq : Q'.length ≤ 108 := by
        have h1 := congrArg List.length e1
        rw [List.length_map, List.length_append, List.length_map, List.length_map] at h1
        have h2 := List.length_filter_le (fun y => !decide (y ∈ p)) (a[n].take pre.length)
        rw [List.length_take] at h2
        omega
      have hz : (Q'.map itD).length < sizeLine := by rw [List.length_map]; exact Nat.lt_of_le_of_lt lq (by decide)
      by_cases hy : y ∈ p
      · refine ⟨[.va H0, .va (tD p), .ow false (.lst (Q'.map itD)), .va (.int n), .va (.str y)], .next, [.va H0, .va (tD p), .ow false (.lst (Q'.map itD)), .va (.int n), .va (.str y)], ?_, ?_, fun _ => ⟨Q', _, .va _, ?_, rfl⟩, by simp, fun r h => nomatch h⟩
        · rcases p4 with rfl | ⟨d, rfl⟩ <;> rfl
        · simp [startE, exSs, exS, evE, evV, evPs, evR, evA, evO, evC, evI, exT, consM, setIxM, frzM, op2, pz, varM, opD, ixR, ixD, binD, frz, isOw, setAt, asgM, keepM, keepR, putSl, free, biM, biD, biInt, len_tup, len_lst, len_scr, len_dic, len_str, biTuple, biList, biAbs, biMax2, biMin2, biDivmod, consP, consR, consV, nilR, nilD, iteM, boolM, cmpR, cmpD, retM, retNM, endR, clean1, clean2, clean3, clean4, clean5, lentAt, Ct.d, putTg, putAll, parPut, parM, asgTuM, asgTM, tNilM, tNmM, tIxM, exM, nextM, ifeM, andM, orM, notM, negM, isNM, notNM, isTM, notTM, chainM, noO, soM, sliM, sliD, fldM, tupM, lstM, dataM, bmM, bmD, lendM, callM, callF, argSl, lentBack, slotsOf, makeM, insM, permM, permute, dataR, isM, isI_tup, isI_str, isI_tD, isI_ttD, isI_ins, len_tD, len_ttD, seqM, seqD, enmM, enmD, zipM, zipD, forM, dzM, trueM, mt_is_name, mt_wrong_name, mt_is_ascending, mt_is_one_of, mt_check_guests, mt_check_rooms, mt_check_accepted, mt_House_init, mt_House_place_of, mt_House_check_room, mt_House_accepts, mt_check_house, mt_are_places, mt_is_good, mt_is_placing, mt_check_placing, mt_frees, mt_lets, mt_law_cell, mt_law_well, mt_law_dip, mt_law_names, mt_law_new_home, mt_law_all_lain, mt_law_full, mt_law_made, mt_law_let_moves, mt_law_pick, mt_law_right, mt_law, in_House, cl_len, b0_law_let_moves, ei, hy]
        · rw [e1, List.length_append, List.length_singleton, et, List.filter_append]; simp [hy]
      · have pk := put_ok (cf := runN Pg0 k) (i := 1) (kk := 3) (yy := 4) (env := [.va H0, .va (tD p), .ow false (.lst (Q'.map itD)), .va (.int n), .va (.str y)]) (p := p) (n := n) (y := y) rfl rfl rfl hp
        refine ⟨[.va H0, .va (tD p), .ow false (.lst (Q'.map itD)), .va (.int n), .va (.str y)], .next, [.va H0, .va (tD p), .ow false (.lst ((Q' ++ [((g[n], y), tD (put1 p n y))]).map itD)), .va (.int n), .va (.str y)], ?_, ?_, fun _ => ⟨Q' ++ [((g[n], y), tD (put1 p n y))], _, .va _, ?_, rfl⟩, by simp, fun r h => nomatch h⟩
        · rcases p4 with rfl | ⟨d, rfl⟩ <;> rfl
        · have ap : exM (appendM 2 (evE Pg0 (runN Pg0 k) (.tup (.cons (.tup (.cons (.ix (.ix (.var 0) (.cst (.int 0))) (.var 3)) (.cons (.var 4) .nil))) (.cons (putE 1 3 4) .nil))))) [.va H0, .va (tD p), .ow false (.lst (Q'.map itD)), .va (.int n), .va (.str y)] = some (.next, [.va H0, .va (tD p), .ow false (.lst ((Q' ++ [((g[n], y), tD (put1 p n y))]).map itD)), .va (.int n), .va (.str y)]) := by
            generalize putE 1 3 4 = PE at *
            have two : 2 ≤ sizeLine := by decide
            have hz' : Q'.length < sizeLine := by simpa using hz
            simp [exM, appendM, isOw, frzM, evE, tupM, evV, consV, nilD, op2, varM, pz, opD, ixR, x0, y0, Ct.d, frz, pk, two, hz', itD]
          have ap' : exM (evE Pg0 (runN Pg0 k) (.bx .append 2 (.tup (.cons (.tup (.cons (.ix (.ix (.var 0) (.cst (.int 0))) (.var 3)) (.cons (.var 4) .nil))) (.cons (putE 1 3 4) .nil))))) [.va H0, .va (tD p), .ow false (.lst (Q'.map itD)), .va (.int n), .va (.str y)] = some (.next, [.va H0, .va (tD p), .ow false (.lst ((Q' ++ [((g[n], y), tD (put1 p n y))]).map itD)), .va (.int n), .va (.str y)]) := by
            rw [evE]; exact ap
          have cnd : boolM (evE Pg0 (runN Pg0 k) (.cmp .notin (.var 4) (.var 1))) [.va H0, .va (tD p), .ow false (.lst (Q'.map itD)), .va (.int n), .va (.str y)] = some (true, [.va H0, .va (tD p), .ow false (.lst (Q'.map itD)), .va (.int n), .va (.str y)]) := by
            simp [boolM, evE, op2, varM, pz, opD, cmpR, cmpD, ei, hy]
          show consM (iteM (evE Pg0 (runN Pg0 k) (.cmp .notin (.var 4) (.var 1))) (consM (exM (evE Pg0 (runN Pg0 k) (.bx .append 2 (.tup (.cons (.tup (.cons (.ix (.ix (.var 0) (.cst (.int 0))) (.var 3)) (.cons (.var 4) .nil))) (.cons (putE 1 3 4) .nil)))))) nextM) nextM) nextM _ = _
          simp only [consM, iteM, cnd, ap', nextM]
        · rw [List.map_append, e1, List.length_append, List.length_singleton, et, List.filter_append]; simp [hy])
  obtain ⟨fl, env', k1, k2 | ⟨rr, _, k3⟩⟩ := w
  · obtain ⟨rfl, Q', s4', p4', e1, rfl⟩ := k2
    rw [List.length_map, List.take_length] at e1
    refine ⟨Q', s4', p4', e1, ?_⟩
    rw [s1_law_let_moves, for_seq (xs := a[n].map .str) (env1 := [.va H0, .va (tD p), .ow false (.lst (Q.map itD)), .va (.int n), s4])]
    · exact k1
    · simp [seqM, frzM, evE, op2, varM, pz, opD, ixR, x2, y2, Ct.d, frz, seqD, tD]
  · exact k3.elim
end VI
namespace VI
open PySem L2
theorem mvs_succ {g : List Str} {a : List (List Str)} {p : List Str} {n : Nat} (hn : n < g.length) (hn2 : n < a.length) : mvs g a p (n + 1) = mvs g a p n ++ (a[n].filter fun y => !decide (y ∈ p)).map fun y => (g[n], y) := by
  have gd : g.getD n "" = g[n] := by rw [List.getD_eq_getElem?_getD, List.getElem?_eq_getElem hn]; rfl
  have ad : a.getD n [] = a[n] := by rw [List.getD_eq_getElem?_getD, List.getElem?_eq_getElem hn2]; rfl
  unfold mvs
  rw [List.range_succ, List.flatMap_append]; simp only [List.flatMap_cons, List.flatMap_nil, List.append_nil, gd, ad]
theorem r_let_moves {k : Nat} {g r : List Str} {a : List (List Str)} {p : List Str} (hl : a.length = g.length) (hg : g.length ≤ 6) (h8 : ∀ s ∈ a, s.length ≤ 8) (hp : p.length ≤ 6) :
    ∃ Q : List ((Str × Str) × D), Q.map (·.1) = mvs g a p g.length ∧ runN Pg0 (k + 1) i_law_let_moves [.va (homeD g r a), .va (tD p)] = some (.nw (.lst (Q.map itD)), [.no, .no]) := by
  rw [run_of (fn := f_law_let_moves) rfl rfl]
  have w := forL_inv (t := .nm 3) (b := exSs Pg0 (runN Pg0 k) b2_law_let_moves) (fun pre env => ∃ (Q : List ((Str × Str) × D)) (s3 s4 : Sl), Pl s3 ∧ Pl s4 ∧ Q.map (·.1) = mvs g a p pre.length ∧ env = [.va (homeD g r a), .va (tD p), .ow false (.lst (Q.map itD)), s3, s4]) (fun _ _ => False)
    ((List.range g.length).map fun (k : Nat) => .int (k : Int)) ((List.range g.length).map fun (k : Nat) => .int (k : Int)) [] [.va (homeD g r a), .va (tD p), .ow false (.lst []), .no, .no] rfl ⟨[], .no, .no, .no, .no, by simp [mvs], rfl⟩ (fun pre x post env q ⟨Q, s3, s4, p3, p4, e1, e⟩ => by
      subst e
      obtain ⟨hn, hx⟩ := at_pre q
      have hn' : pre.length < g.length := by simpa using hn
      have hn2 : pre.length < a.length := by omega
      have hx' : x = .int (pre.length : Nat) := by rw [hx]; simp
      subst hx'
      have lq : Q.length ≤ 100 := by
        have h1 := congrArg List.length e1
        rw [List.length_map] at h1
        have h2 := mvs_len (g := g) (a := a) (p := p) h8 pre.length
        omega
      obtain ⟨Q', s4', p4', e2, wt⟩ := moves_in (k := k) (n := pre.length) (g := g) (r := r) (a := a) (p := p) (Q := Q) (s4 := s4) hn' hn2 hp (h8 _ (List.getElem_mem hn2)) lq p4
      refine ⟨[.va (homeD g r a), .va (tD p), .ow false (.lst (Q.map itD)), .va (.int (pre.length : Nat)), s4], .next, [.va (homeD g r a), .va (tD p), .ow false (.lst (Q'.map itD)), .va (.int (pre.length : Nat)), s4'], ?_, ?_, fun _ => ⟨Q', _, s4', .va _, p4', ?_, rfl⟩, by simp, fun r h => nomatch h⟩
      · rcases p3 with rfl | ⟨d, rfl⟩ <;> rfl
      · simp only [b2_law_let_moves, exSs]
        rw [seq_next _ wt]
        rfl
      · rw [e2, e1, List.length_append, List.length_singleton, mvs_succ hn' hn2])
  obtain ⟨fl, env', k1, k2 | ⟨rr, _, k3⟩⟩ := w
  · obtain ⟨rfl, Q, s3, s4, _, _, e1, rfl⟩ := k2
    rw [List.length_map, List.length_range] at e1
    refine ⟨Q, e1, ?_⟩
    have x0 := ih0 g r a
    generalize homeD g r a = H0 at *
    have he : evE Pg0 (runN Pg0 k) (.bi .len (.cons (.ix (.var 0) (.cst (.int 0))) .nil)) [.va H0, .va (tD p), .ow false (.lst []), .no, .no] = some (.dt (.int (g.length : Nat)), [.va H0, .va (tD p), .ow false (.lst []), .no, .no]) := by
      simp [evE, evPs, biM, consP, op2, varM, pz, opD, ixR, x0, Ct.d, nilR, biD, len_tD]
    have t2 : exS Pg0 (runN Pg0 k) s3_law_let_moves [.va H0, .va (tD p), .ow false (.lst []), .no, .no] = some (.next, [.va H0, .va (tD p), .ow false (.lst (Q.map itD)), s3, s4]) := by
      rw [s3_law_let_moves, for_rng he (by omega)]
      exact k1
    rw [show startE f_law_let_moves.n [.va H0, .va (tD p)] = [.va H0, .va (tD p), .no, .no, .no] from rfl]
    simp only [f_law_let_moves, b_law_let_moves, exSs]
    rw [seq_next [.va H0, .va (tD p), .ow false (.lst []), .no, .no] ?h1, seq_next _ t2, seq_ret (.nw (.lst (Q.map itD))) [.va H0, .va (tD p), .no, s3, s4] ?h3, end_ret]
    · rfl
    case h1 => rfl
    case h3 => rfl
  · exact k3.elim
def prD (q : Str × Str) : D := .tup [.str q.1, .str q.2]
theorem pyAll_pr : ∀ L : List (Str × Str), pyAll (L.map prD) = some (L.map fun q => PyData.tuple [.str q.1, .str q.2])
  | [] => by simp [pyAll]
  | q :: L => by simp [pyAll, py, prD, pyAll_pr L]
theorem any_pr (x y : Str) : ∀ L : List (Str × Str), ((L.map fun q => PyData.tuple [.str q.1, .str q.2]).any fun z => PyData.eqv z (.tuple [.str x, .str y])) = decide ((x, y) ∈ L)
  | [] => by simp
  | (u, v) :: L => by
    rw [List.map_cons, List.any_cons, any_pr x y L]
    simp only [PyData.eqv, PyData.eqvAll, Bool.and_true]
    by_cases h1 : u = x
    · by_cases h2 : v = y
      · simp [h1, h2]
      · have : ¬ y = v := fun e => h2 e.symm
        simp [h1, h2, this]
    · have : ¬ x = u := fun e => h1 e.symm
      simp [h1, this]
theorem lay_pr : ∀ {L : List (Str × Str)}, (∀ q ∈ L, PyData.strOk q.1 = true ∧ PyData.strOk q.2 = true) → PyData.canLayAll0 (L.map fun q => PyData.tuple [.str q.1, .str q.2]) = true
  | [], _ => by simp [PyData.canLayAll0]
  | q :: L, h => by
    obtain ⟨h1, h2⟩ := h q (by simp)
    simp [PyData.canLayAll0, PyData.canLay0, h1, h2, lay_pr (L := L) fun m hm => h m (by simp [hm])]
theorem dep_pr : ∀ L : List (Str × Str), PyData.depthAll (L.map fun q => PyData.tuple [.str q.1, .str q.2]) ≤ 2
  | [] => by simp [PyData.depthAll]
  | q :: L => by
    have := dep_pr L
    simp [PyData.depthAll, PyData.depth]; omega
theorem in_pr {x y : Str} {L : List (Str × Str)} (hx : PyData.strOk x = true) (hy : PyData.strOk y = true) (h : ∀ q ∈ L, PyData.strOk q.1 = true ∧ PyData.strOk q.2 = true) : inD (.tup [.str x, .str y]) (.lst (L.map prD)) = some (decide ((x, y) ∈ L)) := by
  have s1 : SeqAt.shaped (.tuple [.str x, .str y]) = true := by simp [SeqAt.shaped, PyData.canLay0, PyData.canLayAll0, PyData.depth, PyData.depthAll, hx, hy]
  have s2 : SeqAt.shaped (.list (L.map fun q => PyData.tuple [.str q.1, .str q.2])) = true := by
    have := dep_pr L
    simp [SeqAt.shaped, PyData.canLay0, lay_pr h, PyData.depth]; omega
  have p1 : py (.tup [.str x, .str y]) = some (.tuple [.str x, .str y]) := by simp [py, pyAll]
  simp only [inD, scalD, p1, pyAll_pr, s1, s2, and_self, if_true, any_pr]
theorem rp (b : Bool) : ∃ z, biRepr [.lst [.bl b, .bl b]] = some (.dt (.str z)) := by
  have h : (PyData.list [.bool b, .bool b]).showable = true ∧ (PyData.list [.bool b, .bool b]).shown.length ≤ sizeLine ∧ (PyData.list [.bool b, .bool b]).depth ≤ 64 := by
    cases b <;> decide +kernel
  have p : py (.lst [.bl b, .bl b]) = some (.list [.bool b, .bool b]) := by simp [py, pyAll]
  exact ⟨(PyData.list [.bool b, .bool b]).shown, by simp only [biRepr, p, if_pos h]⟩
end VI
namespace VI
open PySem L2
theorem right_e0 {k : Nat} {g r : List Str} {a : List (List Str)} {p : List Str} {j : D} {s2 s3 s4 s6 s7 s8 s9 s10 s11 s12 s13 : Sl} (hl : a.length = g.length) (hg : g.length ≤ 6) (h8 : ∀ s ∈ a, s.length ≤ 8) (hp : p.length ≤ 6) (p12 : Pl s12) (p13 : Pl s13) :
    evE Pg0 (runN Pg0 (k + 1)) e0_law_right [.ow true j, .va (homeD g r a), s2, s3, s4, .va (tD p), s6, s7, s8, s9, s10, s11, s12, s13] = some (.nw (.lst ((mvs g a p g.length).map prD)), [.ow true j, .va (homeD g r a), s2, s3, s4, .va (tD p), s6, s7, s8, s9, s10, s11, s12, s13]) := by
  obtain ⟨Q, e1, w1⟩ := r_let_moves (k := k) (g := g) (r := r) hl hg h8 hp
  generalize homeD g r a = H0 at *
  have i1 : evI Pg0 (runN Pg0 (k + 1)) (.seq (.call 26 (.cons (.var 1) (.cons (.var 5) .nil)))) [.ow true j, .va H0, s2, s3, s4, .va (tD p), s6, s7, s8, s9, s10, s11, s12, s13] = some (Q.map itD, [.ow true j, .va H0, s2, s3, s4, .va (tD p), s6, s7, s8, s9, s10, s11, s12, s13]) := by
    have c1 : evE Pg0 (runN Pg0 (k + 1)) (.call 26 (.cons (.var 1) (.cons (.var 5) .nil))) [.ow true j, .va H0, s2, s3, s4, .va (tD p), s6, s7, s8, s9, s10, s11, s12, s13] = some (.nw (.lst (Q.map itD)), [.ow true j, .va H0, s2, s3, s4, .va (tD p), s6, s7, s8, s9, s10, s11, s12, s13]) :=
      call2_va mt_law_let_moves (by rw [evE]; exact var_va rfl) (by rw [evE]; exact var_va rfl) w1 (fun i h => nomatch h)
    rw [evI]
    exact seq_nw c1
  have lq : Q.length ≤ 48 := by
    have h1 := congrArg List.length e1
    rw [List.length_map] at h1
    have h2 := mvs_len (g := g) (a := a) (p := p) h8 g.length
    omega
  have w := lcM_map (vs := [13, 12]) (t := .tu [13, 12]) (it := evI Pg0 (runN Pg0 (k + 1)) (.seq (.call 26 (.cons (.var 1) (.cons (.var 5) .nil))))) (e := evE Pg0 (runN Pg0 (k + 1)) (.var 13)) (env := [.ow true j, .va H0, s2, s3, s4, .va (tD p), s6, s7, s8, s9, s10, s11, s12, s13]) (fun d => match d with | .tup (x :: _) => x | _ => .non) i1 (by rcases p12 with rfl | ⟨d, rfl⟩ <;> rcases p13 with rfl | ⟨d', rfl⟩ <;> rfl) (by rw [List.length_map]; exact Nat.le_trans lq (by decide)) (fun d hd => by
    obtain ⟨q, hq, rfl⟩ := List.mem_map.mp hd
    exact ⟨[.ow true j, .va H0, s2, s3, s4, .va (tD p), s6, s7, s8, s9, s10, s11, .va q.2, .va (prD q.1)], [.ow true j, .va H0, s2, s3, s4, .va (tD p), s6, s7, s8, s9, s10, s11, .va q.2, .va (prD q.1)], rfl, rfl, rfl, rfl⟩)
  have e2 : (Q.map itD).map (fun d => match d with | .tup (x :: _) => x | _ => .non) = (mvs g a p g.length).map prD := by
    rw [← e1, List.map_map, List.map_map]; rfl
  rw [e2] at w
  rw [e0_law_right, evE, evC]
  exact w
end VI
namespace VI
open PySem L2
theorem call4_va {P : Pg} {cf : Nat → List Sl → Option (R × List Sl)} {f : Nat} {e1 e2 e3 e4 : E} {env env1 : Env'} {d1 d2 d3 d4 d : D} {s1 s2 s3 s4 : Sl} (hm : mtOf P f = [false, false, false, false]) (h1 : frzM (evE P cf e1) env = some (.dt d1, env1)) (h2 : frzM (evE P cf e2) env1 = some (.dt d2, env1)) (h3 : frzM (evE P cf e3) env1 = some (.dt d3, env1)) (h4 : frzM (evE P cf e4) env1 = some (.dt d4, env1))
    (hc : cf f [.va d1, .va d2, .va d3, .va d4] = some (.dt d, [s1, s2, s3, s4])) : evE P cf (.call f (.cons e1 (.cons e2 (.cons e3 (.cons e4 .nil))))) env = some (.dt d, env1) := by
  rw [evE, hm]
  have e : evA P cf (.cons e1 (.cons e2 (.cons e3 (.cons e4 .nil)))) [false, false, false, false] env = some ([.dt d1, .dt d2, .dt d3, .dt d4], env1) := by
    simp [evA, consR, h1, h2, h3, h4, nilR]
  simp only [callM, e, callF, slotsOf, List.nodup_nil, if_true, argSl, hc]
  simp [lentBack]
theorem call2_fz {P : Pg} {cf : Nat → List Sl → Option (R × List Sl)} {f : Nat} {e1 e2 : E} {env env1 : Env'} {d1 d2 d : D} {s1 s2 : Sl} (hm : mtOf P f = [false, false]) (h1 : frzM (evE P cf e1) env = some (.dt d1, env1)) (h2 : frzM (evE P cf e2) env1 = some (.dt d2, env1))
    (hc : cf f [.va d1, .va d2] = some (.dt d, [s1, s2])) : evE P cf (.call f (.cons e1 (.cons e2 .nil))) env = some (.dt d, env1) := by
  rw [evE, hm]
  have e : evA P cf (.cons e1 (.cons e2 .nil)) [false, false] env = some ([.dt d1, .dt d2], env1) := by
    simp [evA, consR, h1, h2, nilR]
  simp only [callM, e, callF, slotsOf, List.nodup_nil, if_true, argSl, hc]
  simp [lentBack]
theorem callK4_va {P : Pg} {cf : Nat → List Sl → Option (R × List Sl)} {f : Nat} {es : Es} {perm : List Nat} {env env1 : Env'} {ds : List D} {d1 d2 d3 d4 d : D} {s1 s2 s3 s4 : Sl} (hm : mtOf P f = [false, false, false, false]) (hv : evV P cf es env = some (ds, env1)) (hp : permute perm ds = some [d1, d2, d3, d4])
    (hc : cf f [.va d1, .va d2, .va d3, .va d4] = some (.dt d, [s1, s2, s3, s4])) : evE P cf (.callK f perm es) env = some (.dt d, env1) := by
  rw [evE, hm]
  simp only [callM, dataR, permM, hv, hp, Option.map, List.map_cons, List.map_nil, callF, slotsOf, List.nodup_nil, if_true, argSl, hc]
  simp [lentBack]
def Fr (s : Sl) : Prop := Pl s ∨ ∃ d, s = .ow false d
theorem lst2 {P : Pg} {cf : Nat → List Sl → Option (R × List Sl)} {e1 e2 : E} {env env1 : Env'} {d1 d2 : D} (h1 : evE P cf e1 env = some (.dt d1, env1)) (h2 : evE P cf e2 env1 = some (.dt d2, env1)) : evE P cf (.lst (.cons e1 (.cons e2 .nil))) env = some (.nw (.lst [d1, d2]), env1) := by
  have two : 2 ≤ sizeLine := by decide
  simp [evE, lstM, evV, consV, h1, h2, frz, nilD, two]
theorem ite_next {P : Pg} {cf : Nat → List Sl → Option (R × List Sl)} {c : E} {x : Ss} {env env1 : Env'} (h : evE P cf c env = some (.dt (.bl false), env1)) : exS P cf (.ite c x .nil) env = some (.next, env1) := by
  simp [exS, iteM, boolM, h, exSs, nextM]
section
variable {k n : Nat} {g r : List Str} {a : List (List Str)} {p : List Str} {y : Str} {j : D} {s2 s3 s4 s9 s10 s11 s12 s13 : Sl}
theorem right_body (H : Home g r a) (hp : Plc r a p) (hn : n < g.length) (hn2 : n < a.length) (hy : y ∈ r) (o3 : Ow s3 (houseD g r a)) (p9 : Pl s9) (p10 : Pl s10) (p11 : Fr s11) (p12 : Pl s12) :
    ∃ s9' s10' s11' s12', Pl s9' ∧ Pl s10' ∧ Fr s11' ∧ Pl s12' ∧ exSs Pg0 (runN Pg0 (k + 4)) b1_law_right [.ow true j, .va (homeD g r a), s2, s3, s4, .va (tD p), .ow false (.lst ((mvs g a p g.length).map prD)), .va (.int n), .va (.str y), s9, s10, s11, s12, s13] = some (.next, [.ow true j, .va (homeD g r a), s2, .va (houseD g r a), s4, .va (tD p), .ow false (.lst ((mvs g a p g.length).map prD)), .va (.int n), .va (.str y), s9', s10', s11', s12', s13]) := by
  have hok : ∀ q ∈ mvs g a p g.length, PyData.strOk q.1 = true ∧ PyData.strOk q.2 = true := fun q hq => by
    unfold mvs at hq
    obtain ⟨i, hi, h2⟩ := List.mem_flatMap.mp hq
    have hi' := List.mem_range.mp hi
    have hi2 : i < a.length := by rw [H.al]; exact hi'
    obtain ⟨z, h3, rfl⟩ := List.mem_map.mp h2
    have gd : g.getD i "" = g[i] := by rw [List.getD_eq_getElem?_getD, List.getElem?_eq_getElem hi']; rfl
    have ad : a.getD i [] = a[i] := by rw [List.getD_eq_getElem?_getD, List.getElem?_eq_getElem hi2]; rfl
    rw [ad] at h3
    refine ⟨by rw [gd]; exact (H.gn _ (List.getElem_mem hi')).ok, (H.rn _ ((H.as _ (List.getElem_mem hi2)).subset (List.mem_filter.mp h3).1)).ok⟩
  have due := in_pr (x := g[n]) (y := y) (L := mvs g a p g.length) (H.gn _ (List.getElem_mem hn)).ok (H.rn _ hy).ok hok
  have e0 : decide ((g[n], y) ∈ mvs g a p g.length) = decide (y ∈ a[n] ∧ y ∉ p) := by
    have := mvs_mem (g := g) (a := a) (p := p) (n := n) (y := y) H.gd H.al hn hn2
    by_cases q : y ∈ a[n] ∧ y ∉ p
    · rw [decide_eq_true q, decide_eq_true (this.mpr q)]
    · rw [decide_eq_false q, decide_eq_false fun z => q (this.mp z)]
  rw [e0] at due
  have wl := r_lets (k := k) H hp hn hn2 hy
  have pl6 : p.length ≤ 6 := by rw [hp.len, H.al]; exact H.g6
  have wp : y ∈ a[n] ∧ y ∉ p → runN Pg0 (k + 4) i_is_placing [.va (houseD g r a), .va (tD (put1 p n y))] = some (.dt (.bl true), [.no, .no]) := fun q => r_is_placing (k := k + 1) H (put1_plc hp hn2 q.1 q.2)
  have x0 := ih0 g r a
  have y0 : ixD (tD g) (.int (n : Nat)) = some (.str g[n]) := by simp [ixD, tD, atI_cast, hn]
  generalize hb : decide (y ∈ a[n] ∧ y ∉ p) = b at *
  generalize g[n] = gn at *
  generalize houseD g r a = HH at *
  generalize homeD g r a = H0 at *
  generalize (mvs g a p g.length).map prD = MM at *
  have two : 2 ≤ sizeLine := by decide
  have t1 : exS Pg0 (runN Pg0 (k + 4)) (.asg (.nm 9) (.cmp .isin (.tup (.cons (.ix (.ix (.var 1) (.cst (.int 0))) (.var 7)) (.cons (.var 8) .nil))) (.var 6))) [.ow true j, .va H0, s2, s3, s4, .va (tD p), .ow false (.lst MM), .va (.int n), .va (.str y), s9, s10, s11, s12, s13] = some (.next, [.ow true j, .va H0, s2, s3, s4, .va (tD p), .ow false (.lst MM), .va (.int n), .va (.str y), .va (.bl b), s10, s11, s12, s13]) := by
    have m1 : evE Pg0 (runN Pg0 (k + 4)) (.cmp .isin (.tup (.cons (.ix (.ix (.var 1) (.cst (.int 0))) (.var 7)) (.cons (.var 8) .nil))) (.var 6)) [.ow true j, .va H0, s2, s3, s4, .va (tD p), .ow false (.lst MM), .va (.int n), .va (.str y), s9, s10, s11, s12, s13] = some (.dt (.bl b), [.ow true j, .va H0, s2, s3, s4, .va (tD p), .ow false (.lst MM), .va (.int n), .va (.str y), s9, s10, s11, s12, s13]) := by
      simp [evE, op2, tupM, evV, consV, nilD, varM, pz, opD, ixR, x0, y0, Ct.d, frz, two, cmpR, cmpD, due]
    rw [exS]
    refine asg_dt m1 ?_
    rcases p9 with rfl | ⟨d, rfl⟩ <;> rfl
  have t2 : exS Pg0 (runN Pg0 (k + 4)) (.asg (.nm 10) (.ix (.ix (.var 1) (.cst (.int 0))) (.var 7))) [.ow true j, .va H0, s2, s3, s4, .va (tD p), .ow false (.lst MM), .va (.int n), .va (.str y), .va (.bl b), s10, s11, s12, s13] = some (.next, [.ow true j, .va H0, s2, s3, s4, .va (tD p), .ow false (.lst MM), .va (.int n), .va (.str y), .va (.bl b), .va (.str gn), s11, s12, s13]) := by
    have m1 : evE Pg0 (runN Pg0 (k + 4)) (.ix (.ix (.var 1) (.cst (.int 0))) (.var 7)) [.ow true j, .va H0, s2, s3, s4, .va (tD p), .ow false (.lst MM), .va (.int n), .va (.str y), .va (.bl b), s10, s11, s12, s13] = some (.dt (.str gn), [.ow true j, .va H0, s2, s3, s4, .va (tD p), .ow false (.lst MM), .va (.int n), .va (.str y), .va (.bl b), s10, s11, s12, s13]) := by
      simp [evE, op2, varM, pz, opD, ixR, x0, y0, Ct.d]
    rw [exS]
    refine asg_dt m1 ?_
    rcases p10 with rfl | ⟨d, rfl⟩ <;> rfl
  have f3 : frzM (evE Pg0 (runN Pg0 (k + 4)) (.var 3)) [.ow true j, .va H0, s2, s3, s4, .va (tD p), .ow false (.lst MM), .va (.int n), .va (.str y), .va (.bl b), .va (.str gn), s11, s12, s13] = some (.dt HH, [.ow true j, .va H0, s2, .va HH, s4, .va (tD p), .ow false (.lst MM), .va (.int n), .va (.str y), .va (.bl b), .va (.str gn), s11, s12, s13]) := by
    rcases o3 with rfl | rfl <;> rfl
  have t3 : exS Pg0 (runN Pg0 (k + 4)) (.asg (.nm 11) (.lst (.cons (.call 17 (.cons (.var 3) (.cons (.var 5) (.cons (.var 10) (.cons (.var 8) .nil))))) (.cons (.callK 17 [3, 2, 1, 0] (.cons (.var 8) (.cons (.var 10) (.cons (.var 5) (.cons (.var 3) .nil))))) .nil)))) [.ow true j, .va H0, s2, s3, s4, .va (tD p), .ow false (.lst MM), .va (.int n), .va (.str y), .va (.bl b), .va (.str gn), s11, s12, s13] = some (.next, [.ow true j, .va H0, s2, .va HH, s4, .va (tD p), .ow false (.lst MM), .va (.int n), .va (.str y), .va (.bl b), .va (.str gn), .ow false (.lst [.bl b, .bl b]), s12, s13]) := by
    rw [exS]
    refine asg_nw (lst2 (env1 := [.ow true j, .va H0, s2, .va HH, s4, .va (tD p), .ow false (.lst MM), .va (.int n), .va (.str y), .va (.bl b), .va (.str gn), s11, s12, s13]) (call4_va mt_lets f3 (by rw [evE]; exact frz_dt (var_va rfl)) (by rw [evE]; exact frz_dt (var_va rfl)) (by rw [evE]; exact frz_dt (var_va rfl)) wl) (callK4_va (ds := [.str y, .str gn, tD p, HH]) mt_lets (by simp [evV, consV, evE, varM, frz, nilD]) rfl wl)) ?_
    rcases p11 with (rfl | ⟨d, rfl⟩) | ⟨d, rfl⟩ <;> rfl
  obtain ⟨zz, hrp⟩ := rp b
  have t4 : exS Pg0 (runN Pg0 (k + 4)) (.ite (.cmp .ne (.bi .repr (.cons (.var 11) .nil)) (.bi .repr (.cons (.lst (.cons (.var 9) (.cons (.var 9) .nil))) .nil))) (.cons (.ret (.cst (.bl false))) .nil) .nil) [.ow true j, .va H0, s2, .va HH, s4, .va (tD p), .ow false (.lst MM), .va (.int n), .va (.str y), .va (.bl b), .va (.str gn), .ow false (.lst [.bl b, .bl b]), s12, s13] = some (.next, [.ow true j, .va H0, s2, .va HH, s4, .va (tD p), .ow false (.lst MM), .va (.int n), .va (.str y), .va (.bl b), .va (.str gn), .ow false (.lst [.bl b, .bl b]), s12, s13]) := by
    refine ite_next ?_
    simp [evE, op2, evPs, biM, consP, nilR, varM, pz, opD, biD, hrp, lstM, evV, consV, nilD, frz, two, cmpR, cmpD, eqD_str]
  have t5 : exS Pg0 (runN Pg0 (k + 4)) (.asg (.nm 12) (putE 5 7 8)) [.ow true j, .va H0, s2, .va HH, s4, .va (tD p), .ow false (.lst MM), .va (.int n), .va (.str y), .va (.bl b), .va (.str gn), .ow false (.lst [.bl b, .bl b]), s12, s13] = some (.next, [.ow true j, .va H0, s2, .va HH, s4, .va (tD p), .ow false (.lst MM), .va (.int n), .va (.str y), .va (.bl b), .va (.str gn), .ow false (.lst [.bl b, .bl b]), .va (tD (put1 p n y)), s13]) := by
    rw [exS]
    refine asg_dt (put_ok (n := n) (p := p) (y := y) rfl rfl rfl pl6) ?_
    rcases p12 with rfl | ⟨d, rfl⟩ <;> rfl
  have t6 : exS Pg0 (runN Pg0 (k + 4)) (.ite (.and (.var 9) (.notT (.call 14 (.cons (.var 3) (.cons (.var 12) .nil))))) (.cons (.ret (.cst (.bl false))) .nil) .nil) [.ow true j, .va H0, s2, .va HH, s4, .va (tD p), .ow false (.lst MM), .va (.int n), .va (.str y), .va (.bl b), .va (.str gn), .ow false (.lst [.bl b, .bl b]), .va (tD (put1 p n y)), s13] = some (.next, [.ow true j, .va H0, s2, .va HH, s4, .va (tD p), .ow false (.lst MM), .va (.int n), .va (.str y), .va (.bl b), .va (.str gn), .ow false (.lst [.bl b, .bl b]), .va (tD (put1 p n y)), s13]) := by
    refine ite_next ?_
    have v9 : evE Pg0 (runN Pg0 (k + 4)) (.var 9) [.ow true j, .va H0, s2, .va HH, s4, .va (tD p), .ow false (.lst MM), .va (.int n), .va (.str y), .va (.bl b), .va (.str gn), .ow false (.lst [.bl b, .bl b]), .va (tD (put1 p n y)), s13] = some (.dt (.bl b), [.ow true j, .va H0, s2, .va HH, s4, .va (tD p), .ow false (.lst MM), .va (.int n), .va (.str y), .va (.bl b), .va (.str gn), .ow false (.lst [.bl b, .bl b]), .va (tD (put1 p n y)), s13]) := by rw [evE]; exact var_va rfl
    cases b with
    | false => rw [evE]; simp only [andM, v9]
    | true =>
      have q : y ∈ a[n] ∧ y ∉ p := of_decide_eq_true hb
      have c := call2_fz (P := Pg0) (cf := runN Pg0 (k + 4)) (f := 14) (e1 := .var 3) (e2 := .var 12) (env := [.ow true j, .va H0, s2, .va HH, s4, .va (tD p), .ow false (.lst MM), .va (.int n), .va (.str y), .va (.bl true), .va (.str gn), .ow false (.lst [.bl true, .bl true]), .va (tD (put1 p n y)), s13]) (env1 := [.ow true j, .va H0, s2, .va HH, s4, .va (tD p), .ow false (.lst MM), .va (.int n), .va (.str y), .va (.bl true), .va (.str gn), .ow false (.lst [.bl true, .bl true]), .va (tD (put1 p n y)), s13]) mt_is_placing (by rw [evE]; exact frz_dt (var_va rfl)) (by rw [evE]; exact frz_dt (var_va rfl)) (wp q)
      rw [evE]
      simp only [andM, v9]
      rw [evE]
      simp only [notTM, c]
      rfl
  refine ⟨.va (.bl b), .va (.str gn), .ow false (.lst [.bl b, .bl b]), .va (tD (put1 p n y)), .va _, .va _, .inr ⟨_, rfl⟩, .va _, ?_⟩
  rw [b1_law_right]
  show consM _ (consM _ (consM _ (consM _ (consM (exS Pg0 (runN Pg0 (k + 4)) (.asg (.nm 12) (putE 5 7 8))) (consM _ nextM))))) _ = _
  rw [seq_next _ t1, seq_next _ t2, seq_next _ t3, seq_next _ t4, seq_next _ t5, seq_next _ t6]
  rfl
end
end VI
namespace VI
open PySem L2
theorem callJ {P : Pg} {cf : Nat → List Sl → Option (R × List Sl)} {f : Nat} {ms : List Bool} {es : Es} {env : Env'} {j j' d : D} {ds : List D} {ss : List Sl} (hm : mtOf P f = true :: ms) (hj : env[0]? = some (.ow true j)) (ha : evA P cf es ms env = some (ds.map .dt, env)) (hs : argSl env (ds.map .dt) ms = some (ds.map .va)) (hb : ∀ env, lentBack (ds.map .dt) ss env = some env)
    (hc : cf f (.ow true j :: ds.map .va) = some (.dt d, .ow true j' :: ss)) : evE P cf (.call f (.cons (.var 0) es)) env = some (.dt d, env.set 0 (.ow true j')) := by
  rw [evE, hm]
  have sl : ∀ l : List D, slotsOf (l.map R.dt) = [] := fun l => by
    induction l with
    | nil => rfl
    | cons x l ih => exact ih
  have e : evA P cf (.cons (.var 0) es) (true :: ms) env = some (.sl 0 :: ds.map .dt, env) := by
    simp [evA, consR, lendM, evE, varM, hj, ha]
  have e2 : argSl env (.sl 0 :: ds.map .dt) (true :: ms) = some (.ow true j :: ds.map .va) := by
    simp only [argSl, hs, hj]
  have e3 : lentBack (.sl 0 :: ds.map .dt) (.ow true j' :: ss) env = some (env.set 0 (.ow true j')) := by
    simp only [lentBack, hj, hb]
  have e4 : (slotsOf (.sl 0 :: ds.map R.dt)).Nodup := by simp [slotsOf, sl]
  simp only [callM, e, callF, e4, if_true, e2, hc, e3, Option.map]
theorem call1 {P : Pg} {cf : Nat → List Sl → Option (R × List Sl)} {f : Nat} {e1 : E} {env : Env'} {d1 : D} {r : R} {s1 : Sl} (hm : mtOf P f = [false]) (h1 : evE P cf e1 env = some (.dt d1, env)) (hc : cf f [.va d1] = some (r, [s1])) (hr : ∀ i, r ≠ .sl i) : evE P cf (.call f (.cons e1 .nil)) env = some (r, env) := by
  rw [evE, hm]
  have a1 : frzM (evE P cf e1) env = some (.dt d1, env) := frz_dt h1
  have e : evA P cf (.cons e1 .nil) [false] env = some ([.dt d1], env) := by simp [evA, consR, a1, nilR]
  simp only [callM, e, callF, slotsOf, List.nodup_nil, if_true, argSl, hc]
  cases r with
  | sl i => exact (hr i rfl).elim
  | dt d => simp [lentBack]
  | nw d => simp [lentBack]
section
variable {k n : Nat} {g r : List Str} {a : List (List Str)} {p : List Str} {y : Str} {j : D} {s2 s3 s4 s5 s6 s7 s8 s9 s10 s11 s12 s13 : Sl}
theorem right_rooms (H : Home g r a) (hp : Plc r a p) (hn : n < g.length) (hn2 : n < a.length) (o3 : Ow s3 (houseD g r a)) (p8 : Pl s8) (p9 : Pl s9) (p10 : Pl s10) (p11 : Fr s11) (p12 : Pl s12) :
    ∃ s3' s8' s9' s10' s11' s12', Ow s3' (houseD g r a) ∧ Pl s8' ∧ Pl s9' ∧ Pl s10' ∧ Fr s11' ∧ Pl s12' ∧ exS Pg0 (runN Pg0 (k + 4)) s2_law_right [.ow true j, .va (homeD g r a), s2, s3, s4, .va (tD p), .ow false (.lst ((mvs g a p g.length).map prD)), .va (.int n), s8, s9, s10, s11, s12, s13] = some (.next, [.ow true j, .va (homeD g r a), s2, s3', s4, .va (tD p), .ow false (.lst ((mvs g a p g.length).map prD)), .va (.int n), s8', s9', s10', s11', s12', s13]) := by
  have w := forL_inv (t := .nm 8) (b := exSs Pg0 (runN Pg0 (k + 4)) b1_law_right) (fun pre env => ∃ s3 s8 s9 s10 s11 s12, Ow s3 (houseD g r a) ∧ Pl s8 ∧ Pl s9 ∧ Pl s10 ∧ Fr s11 ∧ Pl s12 ∧ env = [.ow true j, .va (homeD g r a), s2, s3, s4, .va (tD p), .ow false (.lst ((mvs g a p g.length).map prD)), .va (.int n), s8, s9, s10, s11, s12, s13]) (fun _ _ => False)
    (r.map .str) (r.map .str) [] [.ow true j, .va (homeD g r a), s2, s3, s4, .va (tD p), .ow false (.lst ((mvs g a p g.length).map prD)), .va (.int n), s8, s9, s10, s11, s12, s13] rfl ⟨s3, s8, s9, s10, s11, s12, o3, p8, p9, p10, p11, p12, rfl⟩ (fun pre x post env q ⟨s3, s8, s9, s10, s11, s12, o3, p8, p9, p10, p11, p12, e⟩ => by
      subst e
      have hx : x ∈ r.map D.str := by rw [← q]; simp
      obtain ⟨y, hy, rfl⟩ := List.mem_map.mp hx
      obtain ⟨s9', s10', s11', s12', q9, q10, q11, q12, wb⟩ := right_body (k := k) (j := j) (s2 := s2) (s4 := s4) (s13 := s13) H hp hn hn2 hy o3 p9 p10 p11 p12
      refine ⟨[.ow true j, .va (homeD g r a), s2, s3, s4, .va (tD p), .ow false (.lst ((mvs g a p g.length).map prD)), .va (.int n), .va (.str y), s9, s10, s11, s12, s13], .next, _, ?_, wb, fun _ => ⟨_, _, s9', s10', s11', s12', .inr rfl, .va _, q9, q10, q11, q12, rfl⟩, by simp, fun r h => nomatch h⟩
      rcases p8 with rfl | ⟨d, rfl⟩ <;> rfl)
  obtain ⟨fl, env', k1, k2 | ⟨rr, _, k3⟩⟩ := w
  · obtain ⟨rfl, s3', s8', s9', s10', s11', s12', o3', p8', p9', p10', p11', p12', rfl⟩ := k2
    refine ⟨s3', s8', s9', s10', s11', s12', o3', p8', p9', p10', p11', p12', ?_⟩
    rw [s2_law_right, for_seq (xs := r.map .str) (env1 := [.ow true j, .va (homeD g r a), s2, s3, s4, .va (tD p), .ow false (.lst ((mvs g a p g.length).map prD)), .va (.int n), s8, s9, s10, s11, s12, s13])]
    · exact k1
    · have x1 := ih1 g r a
      refine seq_tD ?_
      rw [evE, evE]
      exact op2_dt (var_va rfl) rfl (by simp only [ixR, Ct.d, x1, Option.map]; rfl)
  · exact k3.elim
theorem right_guests (H : Home g r a) (hp : Plc r a p) (o3 : Ow s3 (houseD g r a)) (p7 : Pl s7) (p8 : Pl s8) (p9 : Pl s9) (p10 : Pl s10) (p11 : Fr s11) (p12 : Pl s12) :
    ∃ s3' s7' s8' s9' s10' s11' s12', Ow s3' (houseD g r a) ∧ Pl s7' ∧ Pl s8' ∧ Pl s9' ∧ Pl s10' ∧ Fr s11' ∧ Pl s12' ∧ exS Pg0 (runN Pg0 (k + 4)) s4_law_right [.ow true j, .va (homeD g r a), s2, s3, s4, .va (tD p), .ow false (.lst ((mvs g a p g.length).map prD)), s7, s8, s9, s10, s11, s12, s13] = some (.next, [.ow true j, .va (homeD g r a), s2, s3', s4, .va (tD p), .ow false (.lst ((mvs g a p g.length).map prD)), s7', s8', s9', s10', s11', s12', s13]) := by
  have w := forL_inv (t := .nm 7) (b := exSs Pg0 (runN Pg0 (k + 4)) b3_law_right) (fun pre env => ∃ s3 s7 s8 s9 s10 s11 s12, Ow s3 (houseD g r a) ∧ Pl s7 ∧ Pl s8 ∧ Pl s9 ∧ Pl s10 ∧ Fr s11 ∧ Pl s12 ∧ env = [.ow true j, .va (homeD g r a), s2, s3, s4, .va (tD p), .ow false (.lst ((mvs g a p g.length).map prD)), s7, s8, s9, s10, s11, s12, s13]) (fun _ _ => False)
    ((List.range g.length).map fun (k : Nat) => .int (k : Int)) ((List.range g.length).map fun (k : Nat) => .int (k : Int)) [] [.ow true j, .va (homeD g r a), s2, s3, s4, .va (tD p), .ow false (.lst ((mvs g a p g.length).map prD)), s7, s8, s9, s10, s11, s12, s13] rfl ⟨s3, s7, s8, s9, s10, s11, s12, o3, p7, p8, p9, p10, p11, p12, rfl⟩ (fun pre x post env q ⟨s3, s7, s8, s9, s10, s11, s12, o3, p7, p8, p9, p10, p11, p12, e⟩ => by
      subst e
      obtain ⟨hn, hx⟩ := at_pre q
      have hn' : pre.length < g.length := by simpa using hn
      have hx' : x = .int (pre.length : Nat) := by rw [hx]; simp
      subst hx'
      obtain ⟨s3', s8', s9', s10', s11', s12', q3, q8, q9, q10, q11, q12, wb⟩ := right_rooms (k := k) (n := pre.length) (j := j) (s2 := s2) (s4 := s4) (s13 := s13) H hp hn' (by rw [H.al]; exact hn') o3 p8 p9 p10 p11 p12
      refine ⟨[.ow true j, .va (homeD g r a), s2, s3, s4, .va (tD p), .ow false (.lst ((mvs g a p g.length).map prD)), .va (.int (pre.length : Nat)), s8, s9, s10, s11, s12, s13], .next, [.ow true j, .va (homeD g r a), s2, s3', s4, .va (tD p), .ow false (.lst ((mvs g a p g.length).map prD)), .va (.int (pre.length : Nat)), s8', s9', s10', s11', s12', s13], ?_, ?_, fun _ => ⟨s3', _, s8', s9', s10', s11', s12', q3, .va _, q8, q9, q10, q11, q12, rfl⟩, by simp, fun r h => nomatch h⟩
      · rcases p7 with rfl | ⟨d, rfl⟩ <;> rfl
      · rw [b3_law_right, exSs, exSs]
        rw [seq_next _ wb]
        rfl)
  obtain ⟨fl, env', k1, k2 | ⟨rr, _, k3⟩⟩ := w
  · obtain ⟨rfl, s3', s7', s8', s9', s10', s11', s12', o3', p7', p8', p9', p10', p11', p12', rfl⟩ := k2
    refine ⟨s3', s7', s8', s9', s10', s11', s12', o3', p7', p8', p9', p10', p11', p12', ?_⟩
    have x0 := ih0 g r a
    have he : evE Pg0 (runN Pg0 (k + 4)) (.bi .len (.cons (.ix (.var 1) (.cst (.int 0))) .nil)) [.ow true j, .va (homeD g r a), s2, s3, s4, .va (tD p), .ow false (.lst ((mvs g a p g.length).map prD)), s7, s8, s9, s10, s11, s12, s13] = some (.dt (.int (g.length : Nat)), [.ow true j, .va (homeD g r a), s2, s3, s4, .va (tD p), .ow false (.lst ((mvs g a p g.length).map prD)), s7, s8, s9, s10, s11, s12, s13]) := by
      rw [evE, evPs, evPs, evE]
      exact bi1_dt (d := tD g) (op2_dt (var_va rfl) rfl (by simp only [ixR, Ct.d, x0, Option.map])) (len_tD g)
    rw [s4_law_right, for_rng he (by have := H.g6; omega)]
    exact k1
  · exact k3.elim
theorem right_turn (H : Home g r a) (hj : Jar j) (hL : lains a ≠ []) (h8 : ∀ s ∈ a, s.length ≤ 8) (o3 : Ow s3 (houseD g r a)) (p5 : Pl s5) (p6 : Fr s6) (p7 : Pl s7) (p8 : Pl s8) (p9 : Pl s9) (p10 : Pl s10) (p11 : Fr s11) (p12 : Pl s12) (p13 : Pl s13) :
    ∃ j' s3' s5' s6' s7' s8' s9' s10' s11' s12', Jar j' ∧ Ow s3' (houseD g r a) ∧ Pl s5' ∧ Fr s6' ∧ Pl s7' ∧ Pl s8' ∧ Pl s9' ∧ Pl s10' ∧ Fr s11' ∧ Pl s12' ∧ exSs Pg0 (runN Pg0 (k + 4)) b5_law_right [.ow true j, .va (homeD g r a), s2, s3, .va (.lst ((lains a).map tD)), s5, s6, s7, s8, s9, s10, s11, s12, s13] = some (.next, [.ow true j', .va (homeD g r a), s2, s3', .va (.lst ((lains a).map tD)), s5', s6', s7', s8', s9', s10', s11', s12', s13]) := by
  have hz : (lains a).length < 1073741824 := by
    have h1 := fold_len a [[]] h8
    have h2 : (lains a).length ≤ 8 ^ a.length := by simpa [lains] using h1
    have h3 : 8 ^ a.length ≤ 8 ^ 6 := Nat.pow_le_pow_right (by decide) (by rw [H.al]; exact H.g6)
    have h4 : 8 ^ 6 < 1073741824 := by decide
    omega
  obtain ⟨p, j1, hj1, hp, wp⟩ := r_pick (k := k + 2) hj hL hz
  have P := lains_plc (r := r) hp
  have pl6 : p.length ≤ 6 := by rw [P.len, H.al]; exact H.g6
  have t0 : exS Pg0 (runN Pg0 (k + 4)) (.asg (.nm 5) (.call 27 (.cons (.var 0) (.cons (.var 4) .nil)))) [.ow true j, .va (homeD g r a), s2, s3, .va (.lst ((lains a).map tD)), s5, s6, s7, s8, s9, s10, s11, s12, s13] = some (.next, [.ow true j1, .va (homeD g r a), s2, s3, .va (.lst ((lains a).map tD)), .va (tD p), s6, s7, s8, s9, s10, s11, s12, s13]) := by
    rw [exS]
    refine asg_dt (callJ (ds := [.lst ((lains a).map tD)]) (ss := [.no]) mt_law_pick rfl ?_ rfl (fun env => rfl) wp) ?_
    · have v4 : frzM (evE Pg0 (runN Pg0 (k + 4)) (.var 4)) [.ow true j, .va (homeD g r a), s2, s3, .va (.lst ((lains a).map tD)), s5, s6, s7, s8, s9, s10, s11, s12, s13] = some (.dt (.lst ((lains a).map tD)), [.ow true j, .va (homeD g r a), s2, s3, .va (.lst ((lains a).map tD)), s5, s6, s7, s8, s9, s10, s11, s12, s13]) := by rw [evE]; exact frz_dt (var_va rfl)
      rw [evA, evA]
      simp only [consR, v4, nilR, List.map_cons, List.map_nil]
    · rcases p5 with rfl | ⟨d, rfl⟩ <;> rfl
  have w1 := right_e0 (k := k + 3) (g := g) (r := r) (a := a) (p := p) (j := j1) (s2 := s2) (s3 := s3) (s4 := .va (.lst ((lains a).map tD))) (s6 := s6) (s7 := s7) (s8 := s8) (s9 := s9) (s10 := s10) (s11 := s11) (s12 := s12) (s13 := s13) H.al H.g6 h8 pl6 p12 p13
  have t1 : exS Pg0 (runN Pg0 (k + 4)) (.asg (.nm 6) e0_law_right) [.ow true j1, .va (homeD g r a), s2, s3, .va (.lst ((lains a).map tD)), .va (tD p), s6, s7, s8, s9, s10, s11, s12, s13] = some (.next, [.ow true j1, .va (homeD g r a), s2, s3, .va (.lst ((lains a).map tD)), .va (tD p), .ow false (.lst ((mvs g a p g.length).map prD)), s7, s8, s9, s10, s11, s12, s13]) := by
    rw [exS]
    refine asg_nw w1 ?_
    rcases p6 with (rfl | ⟨d, rfl⟩) | ⟨d, rfl⟩ <;> rfl
  obtain ⟨s3', s7', s8', s9', s10', s11', s12', q3, q7, q8, q9, q10, q11, q12, t2⟩ := right_guests (k := k) (j := j1) (s2 := s2) (s4 := .va (.lst ((lains a).map tD))) (s13 := s13) H P o3 p7 p8 p9 p10 p11 p12
  refine ⟨j1, s3', .va (tD p), .ow false (.lst ((mvs g a p g.length).map prD)), s7', s8', s9', s10', s11', s12', hj1, q3, .va _, .inr ⟨_, rfl⟩, q7, q8, q9, q10, q11, q12, ?_⟩
  rw [b5_law_right, exSs, exSs, exSs, exSs]
  rw [seq_next _ t0, seq_next _ t1, seq_next _ t2]
  rfl
end
theorem r_right {k : Nat} {j : D} (hj : Jar j) : ∃ j', runN Pg0 (k + 7) i_law_right [.ow true j] = some (.dt (.bl true), [.ow true j']) := by
  rw [run_of (fn := f_law_right) rfl rfl]
  obtain ⟨g, r, a, j1, hj1, HW, hL, w0⟩ := r_full (k := k + 2) (least := 1) (most := 5) (rooms := 6) hj (by decide) (by decide) (by decide) (by decide) (by decide)
  have H := HW.home
  have h8 : ∀ s ∈ a, s.length ≤ 8 := fun s hs => Nat.le_trans (H.as s hs).length_le H.r8
  have an : a ≠ [] := fun e => by have := HW.al; have := HW.g1; rw [e] at *; simp at *; omega
  have w1 := r_made (k := k + 1) H
  have w2 := r_all_lain (k := k + 5) (g := g) (r := r) an h8 (by rw [H.al]; exact H.g6)
  rw [show startE f_law_right.n [.ow true j] = [.ow true j, .no, .no, .no, .no, .no, .no, .no, .no, .no, .no, .no, .no, .no] from rfl]
  have t0 : exS Pg0 (runN Pg0 (k + 6)) (.asg (.nm 1) (.call 24 (.cons (.var 0) (.cons (.cst (.int 1)) (.cons (.cst (.int 5)) (.cons (.cst (.int 6)) .nil)))))) [.ow true j, .no, .no, .no, .no, .no, .no, .no, .no, .no, .no, .no, .no, .no] = some (.next, [.ow true j1, .va (homeD g r a), .no, .no, .no, .no, .no, .no, .no, .no, .no, .no, .no, .no]) := by
    rw [exS]
    refine asg_dt (callJ (ds := [.int 1, .int 5, .int 6]) (ss := [.no, .no, .no]) mt_law_full rfl ?_ rfl (fun env => rfl) w0) rfl
    simp [evA, consR, evE, frzM, frz, Ct.d, nilR]
  have t1 : exS Pg0 (runN Pg0 (k + 6)) (.par [3, 4] (.cons (.call 25 (.cons (.var 1) .nil)) (.cons (.call 23 (.cons (.var 1) .nil)) .nil))) [.ow true j1, .va (homeD g r a), .no, .no, .no, .no, .no, .no, .no, .no, .no, .no, .no, .no] = some (.next, [.ow true j1, .va (homeD g r a), .no, .ow false (houseD g r a), .va (.lst ((lains a).map tD)), .no, .no, .no, .no, .no, .no, .no, .no, .no]) := by
    have c1 : evE Pg0 (runN Pg0 (k + 6)) (.call 25 (.cons (.var 1) .nil)) [.ow true j1, .va (homeD g r a), .no, .no, .no, .no, .no, .no, .no, .no, .no, .no, .no, .no] = some (.nw (houseD g r a), [.ow true j1, .va (homeD g r a), .no, .no, .no, .no, .no, .no, .no, .no, .no, .no, .no, .no]) :=
      call1 mt_law_made (by rw [evE]; exact var_va rfl) w1 (fun i h => nomatch h)
    have c2 : evE Pg0 (runN Pg0 (k + 6)) (.call 23 (.cons (.var 1) .nil)) [.ow true j1, .va (homeD g r a), .no, .no, .no, .no, .no, .no, .no, .no, .no, .no, .no, .no] = some (.dt (.lst ((lains a).map tD)), [.ow true j1, .va (homeD g r a), .no, .no, .no, .no, .no, .no, .no, .no, .no, .no, .no, .no]) :=
      call1 mt_law_all_lain (by rw [evE]; exact var_va rfl) w2 (fun i h => nomatch h)
    rw [exS, evR, evR, evR]
    simp only [parM, consR, keepM, c1, c2, keepR, nilR]
    rfl
  have w := forL_inv (t := .nm 2) (b := exSs Pg0 (runN Pg0 (k + 6)) b5_law_right) (fun pre env => ∃ j s2 s3 s5 s6 s7 s8 s9 s10 s11 s12, Jar j ∧ Pl s2 ∧ Ow s3 (houseD g r a) ∧ Pl s5 ∧ Fr s6 ∧ Pl s7 ∧ Pl s8 ∧ Pl s9 ∧ Pl s10 ∧ Fr s11 ∧ Pl s12 ∧ env = [.ow true j, .va (homeD g r a), s2, s3, .va (.lst ((lains a).map tD)), s5, s6, s7, s8, s9, s10, s11, s12, .no]) (fun _ _ => False)
    ((List.range 3).map fun (k : Nat) => .int (k : Int)) ((List.range 3).map fun (k : Nat) => .int (k : Int)) [] [.ow true j1, .va (homeD g r a), .no, .ow false (houseD g r a), .va (.lst ((lains a).map tD)), .no, .no, .no, .no, .no, .no, .no, .no, .no] rfl ⟨j1, _, _, _, _, _, _, _, _, _, _, hj1, .no, .inl rfl, .no, .inl .no, .no, .no, .no, .no, .inl .no, .no, rfl⟩ (fun pre x post env q ⟨j, s2, s3, s5, s6, s7, s8, s9, s10, s11, s12, hj, p2, o3, p5, p6, p7, p8, p9, p10, p11, p12, e⟩ => by
      subst e
      obtain ⟨j', s3', s5', s6', s7', s8', s9', s10', s11', s12', hj', q3, q5, q6, q7, q8, q9, q10, q11, q12, wt⟩ := right_turn (k := k + 2) (s2 := .va x) (s13 := .no) H hj hL h8 o3 p5 p6 p7 p8 p9 p10 p11 p12 .no
      refine ⟨[.ow true j, .va (homeD g r a), .va x, s3, .va (.lst ((lains a).map tD)), s5, s6, s7, s8, s9, s10, s11, s12, .no], .next, _, ?_, wt, fun _ => ⟨j', _, s3', s5', s6', s7', s8', s9', s10', s11', s12', hj', .va _, q3, q5, q6, q7, q8, q9, q10, q11, q12, rfl⟩, by simp, fun r h => nomatch h⟩
      rcases p2 with rfl | ⟨d, rfl⟩ <;> rfl)
  obtain ⟨fl, env', k1, k2 | ⟨rr, _, k3⟩⟩ := w
  · obtain ⟨rfl, j2, s2, s3, s5, s6, s7, s8, s9, s10, s11, s12, hj2, p2, o3, p5, p6, p7, p8, p9, p10, p11, p12, rfl⟩ := k2
    refine ⟨j2, ?_⟩
    have t2 : exS Pg0 (runN Pg0 (k + 6)) s6_law_right [.ow true j1, .va (homeD g r a), .no, .ow false (houseD g r a), .va (.lst ((lains a).map tD)), .no, .no, .no, .no, .no, .no, .no, .no, .no] = some (.next, [.ow true j2, .va (homeD g r a), s2, s3, .va (.lst ((lains a).map tD)), s5, s6, s7, s8, s9, s10, s11, s12, .no]) := by
      have he : evE Pg0 (runN Pg0 (k + 6)) (.cst (.int 3)) [.ow true j1, .va (homeD g r a), .no, .ow false (houseD g r a), .va (.lst ((lains a).map tD)), .no, .no, .no, .no, .no, .no, .no, .no, .no] = some (.dt (.int ((3 : Nat) : Int)), [.ow true j1, .va (homeD g r a), .no, .ow false (houseD g r a), .va (.lst ((lains a).map tD)), .no, .no, .no, .no, .no, .no, .no, .no, .no]) := by rw [evE]; rfl
      rw [s6_law_right, for_rng he (by decide)]
      exact k1
    simp only [f_law_right]
    rw [b_law_right, exSs, exSs, exSs, exSs, exSs]
    rw [seq_next _ t0, seq_next _ t1, seq_next _ t2, seq_ret (.dt (.bl true)) [.ow true j2, .va (homeD g r a), s2, s3, .va (.lst ((lains a).map tD)), s5, s6, s7, s8, s9, s10, s11, s12, .no] (by rw [exS, evE]; rfl), end_ret]
    rfl
  · exact k3.elim
end VI
namespace VI
open PySem L2
theorem callN1 {P : Pg} {cf : Nat → List Sl → Option (R × List Sl)} {f : Nat} {e1 : E} {env : Env'} {j j' d : D} (hm : mtOf P f = [true]) (h1 : evE P cf e1 env = some (.nw j, env)) (hc : cf f [.ow true j] = some (.dt d, [.ow true j'])) : evE P cf (.call f (.cons e1 .nil)) env = some (.dt d, env) := by
  rw [evE, hm]
  have e : evA P cf (.cons e1 .nil) [true] env = some ([.nw j], env) := by simp [evA, consR, lendM, h1, nilR]
  simp only [callM, e, callF, slotsOf, List.nodup_nil, if_true, argSl, hc]
  simp [lentBack]
theorem rng1_nat {m : Env' → Option (R × Env')} {env env1 : Env'} {n : Nat} (h : m env = some (.dt (.int (n : Int)), env1)) (h1 : n ≤ 100000) : rng1M m env = some ((List.range n).map fun (k : Nat) => .int (k : Int), env1) := by
  have w := rng1_ok h (by omega) (by omega)
  rwa [Int.toNat_natCast] at w
theorem bi2_dt {f : List D → Option R} {m m2 : Env' → Option (R × Env')} {env : Env'} {d d2 : D} {r : R} (h : m env = some (.dt d, env)) (h2 : m2 env = some (.dt d2, env)) (hf : f [d, d2] = some r) : biM f (consP m (consP m2 nilR)) env = some (r, env) := by
  simp only [biM, consP, h, h2, pz, nilR, List.mapM_cons, List.mapM_nil, opD]
  simp [hf]
theorem law_e0 {k : Nat} {ns : List Int} : evE Pg0 (runN Pg0 (k + 7)) e0_law [.va (.scr ns), .no] = some (.nw (.lst []), [.va (.scr ns), .no]) := by
  have hm : ∃ m : Nat, m ≤ 5 ∧ (if (if (5 : Int) < (ns.length : Int) then (5 : Int) else (ns.length : Int)) > 2 then (if (5 : Int) < (ns.length : Int) then (5 : Int) else (ns.length : Int)) else 2) = (m : Int) := by
    by_cases q : (5 : Int) < (ns.length : Int)
    · exact ⟨5, by omega, by simp [q]⟩
    · by_cases q2 : (ns.length : Int) > 2
      · exact ⟨ns.length, by omega, by rw [if_neg q, if_pos q2]⟩
      · exact ⟨2, by omega, by rw [if_neg q, if_neg q2]; rfl⟩
  obtain ⟨m, hm5, hm⟩ := hm
  have i1 : evI Pg0 (runN Pg0 (k + 7)) (.rng1 (.bi .max2 (.cons (.cst (.int 2)) (.cons (.bi .min2 (.cons (.bi .len (.cons (.var 0) .nil)) (.cons (.cst (.int 5)) .nil))) .nil)))) [.va (.scr ns), .no] = some ((List.range m).map fun (k : Nat) => .int (k : Int), [.va (.scr ns), .no]) := by
    rw [evI]
    refine rng1_nat ?_ (by omega)
    rw [← hm]
    have b1 : evE Pg0 (runN Pg0 (k + 7)) (.bi .len (.cons (.var 0) .nil)) [.va (.scr ns), .no] = some (.dt (.int ns.length), [.va (.scr ns), .no]) := by
      rw [evE, evPs, evPs, evE]
      exact bi1_dt (var_va rfl) rfl
    have b2 : evE Pg0 (runN Pg0 (k + 7)) (.bi .min2 (.cons (.bi .len (.cons (.var 0) .nil)) (.cons (.cst (.int 5)) .nil))) [.va (.scr ns), .no] = some (.dt (.int (if (5 : Int) < (ns.length : Int) then (5 : Int) else (ns.length : Int))), [.va (.scr ns), .no]) := by
      rw [evE, evPs, evPs, evPs]
      exact bi2_dt b1 (by rw [evE]) rfl
    rw [evE, evPs, evPs, evPs]
    exact bi2_dt (by rw [evE]) b2 rfl
  have w := lcM_pure (vs := [1]) (t := .nm 1) (it := evI Pg0 (runN Pg0 (k + 7)) (.rng1 (.bi .max2 (.cons (.cst (.int 2)) (.cons (.bi .min2 (.cons (.bi .len (.cons (.var 0) .nil)) (.cons (.cst (.int 5)) .nil))) .nil))))) (c := evC Pg0 (runN Pg0 (k + 7)) (.so (.not (.call 28 (.cons (.call 19 (.cons (.call 18 (.cons (.var 0) (.cons (.var 1) .nil))) .nil)) .nil))))) (e := evE Pg0 (runN Pg0 (k + 7)) (.var 1)) (env := [.va (.scr ns), .no]) (fun _ => false) (fun _ => .non) i1 rfl (by rw [List.length_map, List.length_range]; exact Nat.le_trans hm5 (by decide)) (fun d hd => by
    obtain ⟨i, hi, rfl⟩ := List.mem_map.mp hd
    have hi' := List.mem_range.mp hi
    refine ⟨[.va (.scr ns), .va (.int (i : Int))], [.va (.scr ns), .va (.int (i : Int))], rfl, ?_, rfl, fun h => nomatch h⟩
    obtain ⟨v, wc⟩ := r_cell (k := k + 6) (i := i) (ns := ns) (by omega)
    obtain ⟨j, hj, ww⟩ := r_well (k := k + 6) (c := v)
    obtain ⟨j', wr⟩ := r_right (k := k) hj
    have c1 : evE Pg0 (runN Pg0 (k + 7)) (.call 18 (.cons (.var 0) (.cons (.var 1) .nil))) [.va (.scr ns), .va (.int (i : Int))] = some (.dt (.int v), [.va (.scr ns), .va (.int (i : Int))]) :=
      call2_va mt_law_cell (by rw [evE]; exact var_va rfl) (by rw [evE]; exact var_va rfl) wc (fun i h => nomatch h)
    have c2 := call1 (P := Pg0) (cf := runN Pg0 (k + 7)) (f := 19) mt_law_well c1 ww (fun i h => nomatch h)
    have c3 := callN1 (P := Pg0) (cf := runN Pg0 (k + 7)) (f := 28) mt_law_right c2 wr
    rw [evC, evE]
    simp only [boolM, notM, c3]
    rfl)
  rw [List.filter_eq_nil_iff.mpr (by simp)] at w
  rw [e0_law, evE]
  exact w
theorem law_true (ns : List Int) (h : ns.length ≤ 63) : ∃ ss', runN Pg0 30 i_law [.va (.scr ns)] = some (.dt (.bl true), ss') := by
  refine ⟨[.no], ?_⟩
  rw [run_of (k := 29) (fn := f_law) rfl rfl]
  rw [show startE f_law.n [.va (.scr ns)] = [.va (.scr ns), .no] from rfl]
  have w := law_e0 (k := 22) (ns := ns)
  have e1 : eqD (.lst []) (.lst []) = some true := by simpa using eq_ll (L := []) (by simp)
  have t : exS Pg0 (runN Pg0 29) (.ret (.cmp .eq e0_law (.lst .nil))) [.va (.scr ns), .no] = some (.ret (.dt (.bl true)), [.va (.scr ns), .no]) := by
    have c : evE Pg0 (runN Pg0 29) (.cmp .eq e0_law (.lst .nil)) [.va (.scr ns), .no] = some (.dt (.bl true), [.va (.scr ns), .no]) := by
      have l0 : evE Pg0 (runN Pg0 29) (.lst .nil) [.va (.scr ns), .no] = some (.nw (.lst []), [.va (.scr ns), .no]) := by
        rw [evE, evV]; rfl
      rw [evE]
      simp only [op2, w, l0, pz, opD, cmpR, cmpD, e1, Option.map]
    rw [exS]
    exact ret_dt c
  simp only [f_law]
  rw [b_law, exSs, exSs, seq_ret _ _ t, end_ret]
  rfl
end VI
namespace VI
open PySem L2
/-! the head -/
def top (i : Nat) : Stmt := PySem.Challenge.pw_roomsingly_k33_whole_moves_let.main.body.getD i (.Pass ⟨0, 0, 0, 0⟩)
def s_is_name : Stmt := (top 16)
def d_is_name : He.DefD := ⟨("is_name", none), "is_name", "is_name", defArgs s_is_name, defBody s_is_name, defScope s_is_name, [], []⟩
def s_wrong_name : Stmt := (top 17)
def d_wrong_name : He.DefD := ⟨("wrong_name", none), "wrong_name", "wrong_name", defArgs s_wrong_name, defBody s_wrong_name, defScope s_wrong_name, [], []⟩
def s_is_ascending : Stmt := (top 18)
def d_is_ascending : He.DefD := ⟨("is_ascending", none), "is_ascending", "is_ascending", defArgs s_is_ascending, defBody s_is_ascending, defScope s_is_ascending, [], []⟩
def s_is_one_of : Stmt := (top 19)
def d_is_one_of : He.DefD := ⟨("is_one_of", none), "is_one_of", "is_one_of", defArgs s_is_one_of, defBody s_is_one_of, defScope s_is_one_of, [], []⟩
def s_check_guests : Stmt := (top 21)
def d_check_guests : He.DefD := ⟨("check_guests", none), "check_guests", "check_guests", defArgs s_check_guests, defBody s_check_guests, defScope s_check_guests, [], []⟩
def s_check_rooms : Stmt := (top 22)
def d_check_rooms : He.DefD := ⟨("check_rooms", none), "check_rooms", "check_rooms", defArgs s_check_rooms, defBody s_check_rooms, defScope s_check_rooms, [], []⟩
def s_check_accepted : Stmt := (top 23)
def d_check_accepted : He.DefD := ⟨("check_accepted", none), "check_accepted", "check_accepted", defArgs s_check_accepted, defBody s_check_accepted, defScope s_check_accepted, [], []⟩
def s_House_init : Stmt := (inClass (top 26) 0)
def d_House_init : He.DefD := ⟨("House", some "__init__"), "__init__", "House.__init__", defArgs s_House_init, defBody s_House_init, defScope s_House_init, [], []⟩
def s_House_place_of : Stmt := (inClass (top 26) 3)
def d_House_place_of : He.DefD := ⟨("House", some "place_of"), "place_of", "House.place_of", defArgs s_House_place_of, defBody s_House_place_of, defScope s_House_place_of, [], []⟩
def s_House_check_room : Stmt := (inClass (top 26) 4)
def d_House_check_room : He.DefD := ⟨("House", some "check_room"), "check_room", "House.check_room", defArgs s_House_check_room, defBody s_House_check_room, defScope s_House_check_room, [], []⟩
def s_House_accepts : Stmt := (inClass (top 26) 5)
def d_House_accepts : He.DefD := ⟨("House", some "accepts"), "accepts", "House.accepts", defArgs s_House_accepts, defBody s_House_accepts, defScope s_House_accepts, [], []⟩
def s_check_house : Stmt := (top 27)
def d_check_house : He.DefD := ⟨("check_house", none), "check_house", "check_house", defArgs s_check_house, defBody s_check_house, defScope s_check_house, [], []⟩
def s_are_places : Stmt := (top 29)
def d_are_places : He.DefD := ⟨("are_places", none), "are_places", "are_places", defArgs s_are_places, defBody s_are_places, defScope s_are_places, [], []⟩
def s_is_good : Stmt := (top 30)
def d_is_good : He.DefD := ⟨("is_good", none), "is_good", "is_good", defArgs s_is_good, defBody s_is_good, defScope s_is_good, [], []⟩
def s_is_placing : Stmt := (top 31)
def d_is_placing : He.DefD := ⟨("is_placing", none), "is_placing", "is_placing", defArgs s_is_placing, defBody s_is_placing, defScope s_is_placing, [], []⟩
def s_check_placing : Stmt := (top 32)
def d_check_placing : He.DefD := ⟨("check_placing", none), "check_placing", "check_placing", defArgs s_check_placing, defBody s_check_placing, defScope s_check_placing, [], []⟩
def s_frees : Stmt := (top 33)
def d_frees : He.DefD := ⟨("frees", none), "frees", "frees", defArgs s_frees, defBody s_frees, defScope s_frees, [], []⟩
def s_lets : Stmt := (top 35)
def d_lets : He.DefD := ⟨("lets", none), "lets", "lets", defArgs s_lets, defBody s_lets, defScope s_lets, [], []⟩
def s_law_cell : Stmt := (top 37)
def d_law_cell : He.DefD := ⟨("_law_cell", none), "_law_cell", "_law_cell", defArgs s_law_cell, defBody s_law_cell, defScope s_law_cell, [], []⟩
def s_law_well : Stmt := (top 38)
def d_law_well : He.DefD := ⟨("_law_well", none), "_law_well", "_law_well", defArgs s_law_well, defBody s_law_well, defScope s_law_well, [], []⟩
def s_law_dip : Stmt := (top 39)
def d_law_dip : He.DefD := ⟨("_law_dip", none), "_law_dip", "_law_dip", defArgs s_law_dip, defBody s_law_dip, defScope s_law_dip, [], []⟩
def s_law_names : Stmt := (top 40)
def d_law_names : He.DefD := ⟨("_law_names", none), "_law_names", "_law_names", defArgs s_law_names, defBody s_law_names, defScope s_law_names, [], []⟩
def s_law_new_home : Stmt := (top 41)
def d_law_new_home : He.DefD := ⟨("_law_new_home", none), "_law_new_home", "_law_new_home", defArgs s_law_new_home, defBody s_law_new_home, defScope s_law_new_home, [], []⟩
def s_law_all_lain : Stmt := (top 42)
def d_law_all_lain : He.DefD := ⟨("_law_all_lain", none), "_law_all_lain", "_law_all_lain", defArgs s_law_all_lain, defBody s_law_all_lain, defScope s_law_all_lain, [], []⟩
def s_law_full : Stmt := (top 43)
def d_law_full : He.DefD := ⟨("_law_full", none), "_law_full", "_law_full", defArgs s_law_full, defBody s_law_full, defScope s_law_full, [], []⟩
def s_law_made : Stmt := (top 44)
def d_law_made : He.DefD := ⟨("_law_made", none), "_law_made", "_law_made", defArgs s_law_made, defBody s_law_made, defScope s_law_made, [], []⟩
def s_law_let_moves : Stmt := (top 45)
def d_law_let_moves : He.DefD := ⟨("_law_let_moves", none), "_law_let_moves", "_law_let_moves", defArgs s_law_let_moves, defBody s_law_let_moves, defScope s_law_let_moves, [], []⟩
def s_law_pick : Stmt := (top 46)
def d_law_pick : He.DefD := ⟨("_law_pick", none), "_law_pick", "_law_pick", defArgs s_law_pick, defBody s_law_pick, defScope s_law_pick, [], []⟩
def s_law_right : Stmt := (top 47)
def d_law_right : He.DefD := ⟨("_law_right", none), "_law_right", "_law_right", defArgs s_law_right, defBody s_law_right, defScope s_law_right, [], []⟩
def s_law : Stmt := (top 48)
def d_law : He.DefD := ⟨("law", none), "law", "law", defArgs s_law, defBody s_law, defScope s_law, [], []⟩
def dfs : List He.DefD := [d_is_name, d_wrong_name, d_is_ascending, d_is_one_of, d_check_guests, d_check_rooms, d_check_accepted, d_House_init, d_House_place_of, d_House_check_room, d_House_accepts, d_check_house, d_are_places, d_is_good, d_is_placing, d_check_placing, d_frees, d_lets, d_law_cell, d_law_well, d_law_dip, d_law_names, d_law_new_home, d_law_all_lain, d_law_full, d_law_made, d_law_let_moves, d_law_pick, d_law_right, d_law]
def loc0 : List (Str × Option Str) := dfs.map He.DefD.at_
def stm0 (f : Nat) : Stmt := [s_is_name, s_wrong_name, s_is_ascending, s_is_one_of, s_check_guests, s_check_rooms, s_check_accepted, s_House_init, s_House_place_of, s_House_check_room, s_House_accepts, s_check_house, s_are_places, s_is_good, s_is_placing, s_check_placing, s_frees, s_lets, s_law_cell, s_law_well, s_law_dip, s_law_names, s_law_new_home, s_law_all_lain, s_law_full, s_law_made, s_law_let_moves, s_law_pick, s_law_right, s_law].getD f (.Pass ⟨0, 0, 0, 0⟩)
def nms0 (f : Nat) : List Str := [n_is_name, n_wrong_name, n_is_ascending, n_is_one_of, n_check_guests, n_check_rooms, n_check_accepted, n_House_init, n_House_place_of, n_House_check_room, n_House_accepts, n_check_house, n_are_places, n_is_good, n_is_placing, n_check_placing, n_frees, n_lets, n_law_cell, n_law_well, n_law_dip, n_law_names, n_law_new_home, n_law_all_lain, n_law_full, n_law_made, n_law_let_moves, n_law_pick, n_law_right, n_law].getD f []
def ex0 : PySem.W.Frag → Bool := exB Pg0 loc0
abbrev R0 : PySem.W.OpenRow := PySem.W.OpenLaw.row PySem.Challenge.rw_roomsingly_k33_whole_moves_let
abbrev hk0 : PySem.W.Hook := hookE 5 dfs ex0
def loose0 : List Str := (["ShapeError", "InvalidGuests", "InvalidRooms", "InvalidAccepted", "InvalidText", "InvalidPlacing", "NotAHouse", "QuestionError", "UnknownGuest", "UnknownRoom", "MOST_NAME", "MOST_GUESTS", "MOST_ROOMS", "LETTERS", "is_name", "wrong_name", "is_ascending", "is_one_of", "check_guests", "check_rooms"] : List Str) ++ (["check_accepted", "house_text", "house_in", "House", "check_house", "are_places", "is_good", "is_placing", "check_placing", "frees", "lets", "_law_cell", "_law_well", "_law_dip", "_law_names", "_law_new_home", "_law_all_lain", "_law_full", "_law_made", "_law_let_moves"] : List Str) ++ (["_law_pick", "_law_right"] : List Str)
set_option maxHeartbeats 0 in
theorem head_run (w : World) : HandSHeadRun.RunEq R0 (PySem.W.view R0.prog [48]) hk0 (obE 5 dfs ex0) 4000 loose0 w := by
  intro os
  kernel_rfl
theorem c_is_name : chkFn Pg0 f_is_name n_is_name s_is_name = true := by decide +kernel
theorem c_wrong_name : chkFn Pg0 f_wrong_name n_wrong_name s_wrong_name = true := by decide +kernel
theorem c_is_ascending : chkFn Pg0 f_is_ascending n_is_ascending s_is_ascending = true := by decide +kernel
theorem c_is_one_of : chkFn Pg0 f_is_one_of n_is_one_of s_is_one_of = true := by decide +kernel
theorem c_check_guests : chkFn Pg0 f_check_guests n_check_guests s_check_guests = true := by decide +kernel
theorem c_check_rooms : chkFn Pg0 f_check_rooms n_check_rooms s_check_rooms = true := by decide +kernel
theorem c_check_accepted : chkFn Pg0 f_check_accepted n_check_accepted s_check_accepted = true := by decide +kernel
theorem c_House_init : chkFn Pg0 f_House_init n_House_init s_House_init = true := by decide +kernel
theorem c_House_place_of : chkFn Pg0 f_House_place_of n_House_place_of s_House_place_of = true := by decide +kernel
theorem c_House_check_room : chkFn Pg0 f_House_check_room n_House_check_room s_House_check_room = true := by decide +kernel
theorem c_House_accepts : chkFn Pg0 f_House_accepts n_House_accepts s_House_accepts = true := by decide +kernel
theorem c_check_house : chkFn Pg0 f_check_house n_check_house s_check_house = true := by decide +kernel
theorem c_are_places : chkFn Pg0 f_are_places n_are_places s_are_places = true := by decide +kernel
theorem c_is_good : chkFn Pg0 f_is_good n_is_good s_is_good = true := by decide +kernel
theorem c_is_placing : chkFn Pg0 f_is_placing n_is_placing s_is_placing = true := by decide +kernel
theorem c_check_placing : chkFn Pg0 f_check_placing n_check_placing s_check_placing = true := by decide +kernel
theorem c_frees : chkFn Pg0 f_frees n_frees s_frees = true := by decide +kernel
theorem c_lets : chkFn Pg0 f_lets n_lets s_lets = true := by decide +kernel
theorem c_law_cell : chkFn Pg0 f_law_cell n_law_cell s_law_cell = true := by decide +kernel
theorem c_law_well : chkFn Pg0 f_law_well n_law_well s_law_well = true := by decide +kernel
theorem c_law_dip : chkFn Pg0 f_law_dip n_law_dip s_law_dip = true := by decide +kernel
theorem c_law_names : chkFn Pg0 f_law_names n_law_names s_law_names = true := by decide +kernel
theorem c_law_new_home : chkFn Pg0 f_law_new_home n_law_new_home s_law_new_home = true := by decide +kernel
theorem c_law_all_lain : chkFn Pg0 f_law_all_lain n_law_all_lain s_law_all_lain = true := by decide +kernel
theorem c_law_full : chkFn Pg0 f_law_full n_law_full s_law_full = true := by decide +kernel
theorem c_law_made : chkFn Pg0 f_law_made n_law_made s_law_made = true := by decide +kernel
theorem c_law_let_moves : chkFn Pg0 f_law_let_moves n_law_let_moves s_law_let_moves = true := by decide +kernel
theorem c_law_pick : chkFn Pg0 f_law_pick n_law_pick s_law_pick = true := by decide +kernel
theorem c_law_right : chkFn Pg0 f_law_right n_law_right s_law_right = true := by decide +kernel
theorem c_law : chkFn Pg0 f_law n_law s_law = true := by decide +kernel
theorem chk0 : ∀ (f : Nat) (fn : Fn), Pg0.fns[f]? = some fn → chkFn Pg0 fn (nms0 f) (stm0 f) = true := fun f fn h => AllIx.at0 (Q := fun f fn => chkFn Pg0 fn (nms0 f) (stm0 f) = true) (l := Pg0.fns) (.cons (c_is_name)
  (.cons (c_wrong_name)
  (.cons (c_is_ascending)
  (.cons (c_is_one_of)
  (.cons (c_check_guests)
  (.cons (c_check_rooms)
  (.cons (c_check_accepted)
  (.cons (c_House_init)
  (.cons (c_House_place_of)
  (.cons (c_House_check_room)
  (.cons (c_House_accepts)
  (.cons (c_check_house)
  (.cons (c_are_places)
  (.cons (c_is_good)
  (.cons (c_is_placing)
  (.cons (c_check_placing)
  (.cons (c_frees)
  (.cons (c_lets)
  (.cons (c_law_cell)
  (.cons (c_law_well)
  (.cons (c_law_dip)
  (.cons (c_law_names)
  (.cons (c_law_new_home)
  (.cons (c_law_all_lain)
  (.cons (c_law_full)
  (.cons (c_law_made)
  (.cons (c_law_let_moves)
  (.cons (c_law_pick)
  (.cons (c_law_right)
  (.cons (c_law)
  (.nil _))))))))))))))))))))))))))))))) h
section
variable {K : PySem.W.Frag}
theorem funs0 (S : He.SaysD [] dfs K) : ∀ (f : Nat) (fn : Fn), Pg0.fns[f]? = some fn → ∃ x qual, L2.Fun K x qual (stm0 f) (faK loc0 K f) (fdOf K (faK loc0 K f)) := fun f fn h => AllIx.at0 (Q := fun f _ => ∃ x qual, L2.Fun K x qual (stm0 f) (faK loc0 K f) (fdOf K (faK loc0 K f))) (l := Pg0.fns) (.cons (fun_ofD (d := d_is_name) (st := s_is_name) rfl rfl rfl rfl rfl (S.def_ 0))
  (.cons (fun_ofD (d := d_wrong_name) (st := s_wrong_name) rfl rfl rfl rfl rfl (S.def_ 1))
  (.cons (fun_ofD (d := d_is_ascending) (st := s_is_ascending) rfl rfl rfl rfl rfl (S.def_ 2))
  (.cons (fun_ofD (d := d_is_one_of) (st := s_is_one_of) rfl rfl rfl rfl rfl (S.def_ 3))
  (.cons (fun_ofD (d := d_check_guests) (st := s_check_guests) rfl rfl rfl rfl rfl (S.def_ 4))
  (.cons (fun_ofD (d := d_check_rooms) (st := s_check_rooms) rfl rfl rfl rfl rfl (S.def_ 5))
  (.cons (fun_ofD (d := d_check_accepted) (st := s_check_accepted) rfl rfl rfl rfl rfl (S.def_ 6))
  (.cons (fun_ofD (d := d_House_init) (st := s_House_init) rfl rfl rfl rfl rfl (S.def_ 7))
  (.cons (fun_ofD (d := d_House_place_of) (st := s_House_place_of) rfl rfl rfl rfl rfl (S.def_ 8))
  (.cons (fun_ofD (d := d_House_check_room) (st := s_House_check_room) rfl rfl rfl rfl rfl (S.def_ 9))
  (.cons (fun_ofD (d := d_House_accepts) (st := s_House_accepts) rfl rfl rfl rfl rfl (S.def_ 10))
  (.cons (fun_ofD (d := d_check_house) (st := s_check_house) rfl rfl rfl rfl rfl (S.def_ 11))
  (.cons (fun_ofD (d := d_are_places) (st := s_are_places) rfl rfl rfl rfl rfl (S.def_ 12))
  (.cons (fun_ofD (d := d_is_good) (st := s_is_good) rfl rfl rfl rfl rfl (S.def_ 13))
  (.cons (fun_ofD (d := d_is_placing) (st := s_is_placing) rfl rfl rfl rfl rfl (S.def_ 14))
  (.cons (fun_ofD (d := d_check_placing) (st := s_check_placing) rfl rfl rfl rfl rfl (S.def_ 15))
  (.cons (fun_ofD (d := d_frees) (st := s_frees) rfl rfl rfl rfl rfl (S.def_ 16))
  (.cons (fun_ofD (d := d_lets) (st := s_lets) rfl rfl rfl rfl rfl (S.def_ 17))
  (.cons (fun_ofD (d := d_law_cell) (st := s_law_cell) rfl rfl rfl rfl rfl (S.def_ 18))
  (.cons (fun_ofD (d := d_law_well) (st := s_law_well) rfl rfl rfl rfl rfl (S.def_ 19))
  (.cons (fun_ofD (d := d_law_dip) (st := s_law_dip) rfl rfl rfl rfl rfl (S.def_ 20))
  (.cons (fun_ofD (d := d_law_names) (st := s_law_names) rfl rfl rfl rfl rfl (S.def_ 21))
  (.cons (fun_ofD (d := d_law_new_home) (st := s_law_new_home) rfl rfl rfl rfl rfl (S.def_ 22))
  (.cons (fun_ofD (d := d_law_all_lain) (st := s_law_all_lain) rfl rfl rfl rfl rfl (S.def_ 23))
  (.cons (fun_ofD (d := d_law_full) (st := s_law_full) rfl rfl rfl rfl rfl (S.def_ 24))
  (.cons (fun_ofD (d := d_law_made) (st := s_law_made) rfl rfl rfl rfl rfl (S.def_ 25))
  (.cons (fun_ofD (d := d_law_let_moves) (st := s_law_let_moves) rfl rfl rfl rfl rfl (S.def_ 26))
  (.cons (fun_ofD (d := d_law_pick) (st := s_law_pick) rfl rfl rfl rfl rfl (S.def_ 27))
  (.cons (fun_ofD (d := d_law_right) (st := s_law_right) rfl rfl rfl rfl rfl (S.def_ 28))
  (.cons (fun_ofD (d := d_law) (st := s_law) rfl rfl rfl rfl rfl (S.def_ 29))
  (.nil _))))))))))))))))))))))))))))))) h
theorem bn0 (S : He.SaysD [] dfs K) : ∀ (f : Nat) (fn : Fn), Pg0.fns[f]? = some fn → Binds K (fdOf K (faK loc0 K f)) fn.ps [] := fun f fn h => AllIx.at0 (Q := fun f fn => Binds K (fdOf K (faK loc0 K f)) fn.ps []) (l := Pg0.fns) (.cons (let ⟨_, _, F⟩ := funs0 S 0 f_is_name rfl; F.binds (ps := f_is_name.ps) fun _ _ _ _ _ _ us hl => match us, hl with | [_], _ => rfl)
  (.cons (let ⟨_, _, F⟩ := funs0 S 1 f_wrong_name rfl; F.binds (ps := f_wrong_name.ps) fun _ _ _ _ _ _ us hl => match us, hl with | [_, _, _], _ => rfl)
  (.cons (let ⟨_, _, F⟩ := funs0 S 2 f_is_ascending rfl; F.binds (ps := f_is_ascending.ps) fun _ _ _ _ _ _ us hl => match us, hl with | [_, _], _ => rfl)
  (.cons (let ⟨_, _, F⟩ := funs0 S 3 f_is_one_of rfl; F.binds (ps := f_is_one_of.ps) fun _ _ _ _ _ _ us hl => match us, hl with | [_, _], _ => rfl)
  (.cons (let ⟨_, _, F⟩ := funs0 S 4 f_check_guests rfl; F.binds (ps := f_check_guests.ps) fun _ _ _ _ _ _ us hl => match us, hl with | [_], _ => rfl)
  (.cons (let ⟨_, _, F⟩ := funs0 S 5 f_check_rooms rfl; F.binds (ps := f_check_rooms.ps) fun _ _ _ _ _ _ us hl => match us, hl with | [_, _], _ => rfl)
  (.cons (let ⟨_, _, F⟩ := funs0 S 6 f_check_accepted rfl; F.binds (ps := f_check_accepted.ps) fun _ _ _ _ _ _ us hl => match us, hl with | [_, _, _], _ => rfl)
  (.cons (let ⟨_, _, F⟩ := funs0 S 7 f_House_init rfl; F.binds (ps := f_House_init.ps) fun _ _ _ _ _ _ us hl => match us, hl with | [_, _, _, _], _ => rfl)
  (.cons (let ⟨_, _, F⟩ := funs0 S 8 f_House_place_of rfl; F.binds (ps := f_House_place_of.ps) fun _ _ _ _ _ _ us hl => match us, hl with | [_, _], _ => rfl)
  (.cons (let ⟨_, _, F⟩ := funs0 S 9 f_House_check_room rfl; F.binds (ps := f_House_check_room.ps) fun _ _ _ _ _ _ us hl => match us, hl with | [_, _], _ => rfl)
  (.cons (let ⟨_, _, F⟩ := funs0 S 10 f_House_accepts rfl; F.binds (ps := f_House_accepts.ps) fun _ _ _ _ _ _ us hl => match us, hl with | [_, _, _], _ => rfl)
  (.cons (let ⟨_, _, F⟩ := funs0 S 11 f_check_house rfl; F.binds (ps := f_check_house.ps) fun _ _ _ _ _ _ us hl => match us, hl with | [_], _ => rfl)
  (.cons (let ⟨_, _, F⟩ := funs0 S 12 f_are_places rfl; F.binds (ps := f_are_places.ps) fun _ _ _ _ _ _ us hl => match us, hl with | [_, _, _], _ => rfl)
  (.cons (let ⟨_, _, F⟩ := funs0 S 13 f_is_good rfl; F.binds (ps := f_is_good.ps) fun _ _ _ _ _ _ us hl => match us, hl with | [_, _], _ => rfl)
  (.cons (let ⟨_, _, F⟩ := funs0 S 14 f_is_placing rfl; F.binds (ps := f_is_placing.ps) fun _ _ _ _ _ _ us hl => match us, hl with | [_, _], _ => rfl)
  (.cons (let ⟨_, _, F⟩ := funs0 S 15 f_check_placing rfl; F.binds (ps := f_check_placing.ps) fun _ _ _ _ _ _ us hl => match us, hl with | [_, _], _ => rfl)
  (.cons (let ⟨_, _, F⟩ := funs0 S 16 f_frees rfl; F.binds (ps := f_frees.ps) fun _ _ _ _ _ _ us hl => match us, hl with | [_, _], _ => rfl)
  (.cons (let ⟨_, _, F⟩ := funs0 S 17 f_lets rfl; F.binds (ps := f_lets.ps) fun _ _ _ _ _ _ us hl => match us, hl with | [_, _, _, _], _ => rfl)
  (.cons (let ⟨_, _, F⟩ := funs0 S 18 f_law_cell rfl; F.binds (ps := f_law_cell.ps) fun _ _ _ _ _ _ us hl => match us, hl with | [_, _], _ => rfl)
  (.cons (let ⟨_, _, F⟩ := funs0 S 19 f_law_well rfl; F.binds (ps := f_law_well.ps) fun _ _ _ _ _ _ us hl => match us, hl with | [_], _ => rfl)
  (.cons (let ⟨_, _, F⟩ := funs0 S 20 f_law_dip rfl; F.binds (ps := f_law_dip.ps) fun _ _ _ _ _ _ us hl => match us, hl with | [_, _], _ => rfl)
  (.cons (let ⟨_, _, F⟩ := funs0 S 21 f_law_names rfl; F.binds (ps := f_law_names.ps) fun _ _ _ _ _ _ us hl => match us, hl with | [_, _, _], _ => rfl)
  (.cons (let ⟨_, _, F⟩ := funs0 S 22 f_law_new_home rfl; F.binds (ps := f_law_new_home.ps) fun _ _ _ _ _ _ us hl => match us, hl with | [_, _, _, _], _ => rfl)
  (.cons (let ⟨_, _, F⟩ := funs0 S 23 f_law_all_lain rfl; F.binds (ps := f_law_all_lain.ps) fun _ _ _ _ _ _ us hl => match us, hl with | [_], _ => rfl)
  (.cons (let ⟨_, _, F⟩ := funs0 S 24 f_law_full rfl; F.binds (ps := f_law_full.ps) fun _ _ _ _ _ _ us hl => match us, hl with | [_, _, _, _], _ => rfl)
  (.cons (let ⟨_, _, F⟩ := funs0 S 25 f_law_made rfl; F.binds (ps := f_law_made.ps) fun _ _ _ _ _ _ us hl => match us, hl with | [_], _ => rfl)
  (.cons (let ⟨_, _, F⟩ := funs0 S 26 f_law_let_moves rfl; F.binds (ps := f_law_let_moves.ps) fun _ _ _ _ _ _ us hl => match us, hl with | [_, _], _ => rfl)
  (.cons (let ⟨_, _, F⟩ := funs0 S 27 f_law_pick rfl; F.binds (ps := f_law_pick.ps) fun _ _ _ _ _ _ us hl => match us, hl with | [_, _], _ => rfl)
  (.cons (let ⟨_, _, F⟩ := funs0 S 28 f_law_right rfl; F.binds (ps := f_law_right.ps) fun _ _ _ _ _ _ us hl => match us, hl with | [_], _ => rfl)
  (.cons (let ⟨_, _, F⟩ := funs0 S 29 f_law rfl; F.binds (ps := f_law.ps) fun _ _ _ _ _ _ us hl => match us, hl with | [_], _ => rfl)
  (.nil _))))))))))))))))))))))))))))))) h
theorem kw_0 (S : He.SaysD [] dfs K) : KwB K (fdOf K (faK loc0 K 17)) f_lets.ps ["room", "guest", "placing", "house"] 0 [3, 2, 1, 0] := by
  obtain ⟨x, qual, F⟩ := funs0 S 17 f_lets rfl
  obtain ⟨oc, od, kV, doc, pm, an, cdv, ctv, osl, e, lk, hcd⟩ := F.ex
  intro s fs ws us _ h1 h2 h3
  rw [e]
  match fs, ws, h1, h2, h3 with
  | [], [w0, w1, w2, w3], _, _, h3 =>
    have e3 : us = [w3, w2, w1, w0] := (Option.some.inj h3).symm
    subst e3
    exact .of_eq rfl
theorem kw0 (S : He.SaysD [] dfs K) : ∀ (f : Nat) (ks : List Str) (n : Nat) (perm : List Nat) (fn : Fn), (f, ks, n, perm) ∈ Pg0.kws → Pg0.fns[f]? = some fn → KwB K (fdOf K (faK loc0 K f)) fn.ps ks n perm := by
  intro f ks n perm fn h hf
  have h2 : (f, ks, n, perm) ∈ ([(17, ["room", "guest", "placing", "house"], 0, [3, 2, 1, 0])] : List (Nat × List Str × Nat × List Nat)) := h
  simp only [List.mem_cons, List.not_mem_nil, or_false, Prod.mk.injEq] at h2
  rcases h2 with ⟨rfl, rfl, rfl, rfl⟩
  · cases hf; exact kw_0 S
end
theorem law_walk {q : Program} {loose : List Str} {XP : (Str → Option Value) → Heap → Prop} (run : ∀ ns : List Int, ns.length ≤ 63 → ∃ ss', runN Pg0 30 i_law [.va (.scr ns)] = some (.dt (.bl true), ss')) :
    PySem.W.WalkO q loose XP hk0.says (PySem.W.OpenLaw.row PySem.Challenge.rw_roomsingly_k33_whole_moves_let).toRowW (HandSHeadRun.topDef R0.prog 48) [] (fun f vs => PySem.call f vs) := by
  refine walk_ofG (l := PySem.Challenge.rw_roomsingly_k33_whole_moves_let) (n := 63) (L := 30) (x := "_law_cells") (P := Pg0) (f := i_law) (fn := f_law) (Nm := nms0) (stm := stm0) rfl (by decide) rfl ⟨rfl, by decide, by decide +kernel⟩ rfl rfl (fun w mg fa0 h Y G hmg => ?_) run
  obtain ⟨K, KX, S, E⟩ := Y
  have ok := pgOk_of (Nm := nms0) (stm := stm0) KX G E (funs0 S) chk0 (bn0 S) (kw0 S)
  refine ⟨K, ctK Pg0 K, faK loc0 K, fun f => fdOf K (faK loc0 K f), KX, ?_, fun s u => ?_, ok⟩
  · have g := (ok.glo i_law f_law rfl rfl).1
    have hmg2 : mg "law" = some (.ref fa0) := hmg
    have g2 : mg "law" = some (.ref (faK loc0 K i_law)) := g
    rw [hmg2] at g2
    cases g2
    rfl
  · obtain ⟨x, qual, F⟩ := funs0 S i_law f_law rfl
    obtain ⟨oc, od, kV, doc, pm, an, cdv, ctv, osl, e, lk, hcd⟩ := F.ex
    have e2 : fdOf K (faK loc0 K i_law) = _ := e
    show BindsTo s (fdOf K (faK loc0 K i_law)) _ _
    rw [e2]
    exact .of_eq rfl
end VI
open PySem PySem.W PySem.Calls PyProof.Rows
set_option maxRecDepth 100000 in
set_option maxHeartbeats 0 in
theorem PySem.Challenge.cw_roomsingly_k33_whole_moves_let_holds : PySem.Challenge.rw_roomsingly_k33_whole_moves_let.Holds := by
  w_on; o_law
  refine HandSHeadRun.head_any (r := OpenLaw.row PySem.Challenge.rw_roomsingly_k33_whole_moves_let) (q := PySem.W.view VI.R0.prog [48]) (H := VI.hk0) (ob := VI.obE 5 VI.dfs VI.ex0) (M := 4000) (loose := VI.loose0) (d := HandSHeadRun.topDef VI.R0.prog 48) (kwd := []) VI.obE_eq (by kernel_rfl) (fun s => by kernel_rfl) VI.head_run (by rfl) (by rfl) (by rfl) (by rfl) (by first | assumption | decide +kernel) (by decide +kernel) ⟨rfl, rfl, rfl, rfl, rfl, by decide +kernel⟩ ?hw ?hc
  case hw => w_witness2
  case hc => exact VI.law_walk VI.law_true

