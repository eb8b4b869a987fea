import PyProof.Rows.All
import Wide.All
import OpenK.AllK
import Wide.FinOn
import KE.KStateDown
import HandS.ForMost
import HandS.Walk
import HandS.Wide
import HandS.TupAny
import HandS.TupMul
import HandS.IsInst
import HandS.Deep
import HandS.Style
import HandS.DictComp
import HandS.Zip
import HandS.SortRule
import HandS.TupLe
import KE.KDictZip
import KE.KDictPairs
import KE.GoesNew
import HandS.Strs
import HandS.HeadWalk
import HandS.CallRecv
import HandS.Words
import HandS.HeadEnd
import HandS.Defaults
import HandS.Head0
import HandS.Head1
import HandS.Head2
import HandS.HeadHook1
import HandS.HeadHook2
import HandS.HeadHook3
import HandS.HeadHook4
import PySem.Challenge.RW_roomsingly_k23_whole_new_guests
set_option Elab.async false
set_option linter.all false
set_option maxRecDepth 100000
set_option maxHeartbeats 4000000
/-! An interpreter of a part of the language over plain trees of data. -/
namespace VI
open PySem L2

/-- plain data -/
inductive D where
  | non
  | bl (b : Bool)
  | int (i : Int)
  | str (x : Str)
  | tup (l : List D)
  | lst (l : List D)
  | dic (l : List (D × D))
  | ins (c : Nat) (l : List (Str × D))
  | scr (l : List Int)
deriving Inhabited

/-- a slot of a frame: empty, a value that nobody changes any more, an object of the frame's own (its mark: lent by the caller) -/
inductive Sl where
  | no
  | va (d : D)
  | ow (lent : Bool) (d : D)
deriving Inhabited
abbrev Env' := List Sl
/-- what an expression gives: data, a new object, the object in a slot -/
inductive R where
  | dt (d : D)
  | nw (d : D)
  | sl (i : Nat)
deriving Inhabited

inductive Ct where
  | non
  | bl (b : Bool)
  | int (i : Int)
  | str (x : Str)
deriving DecidableEq
def Ct.d : Ct → D
  | .non => .non
  | .bl b => .bl b
  | .int i => .int i
  | .str x => .str x

inductive BO where
  | add | sub | mul | mod | fdiv | pow
deriving DecidableEq
inductive CO where
  | eq | ne | lt | le | gt | ge | isin | notin
deriving DecidableEq
/-- built-in functions -/
inductive Bi where
  | len | all | any | tuple | list | int | abs | max2 | min2 | repr | str | divmod | sorted
  | isStr | isInt | isBool | isTuple | isCls (c : Nat)
deriving DecidableEq
/-- methods of built-in types that only read -/
inductive Bm where
  | join | split | partition | index
deriving DecidableEq
/-- methods that change a list -/
inductive Bx where
  | append | popAt | extend
deriving DecidableEq
/-- targets -/
inductive Tg where
  | nm (i : Nat)
  | tu (is : List Nat)

mutual
inductive E where
  | var (i : Nat)
  | cst (c : Ct)
  | tup (es : Es)
  | lst (es : Es)
  | bin (o : BO) (a b : E)
  | cmp (o : CO) (a b : E)
  | chain (o o' : CO) (a b c : E)
  | isN (a : E)
  | notN (a : E)
  | and (a b : E)
  | or (a b : E)
  | not (a : E)
  | neg (a : E)
  | ife (c a b : E)
  | ix (a b : E)
  | sli (a : E) (lo hi : Eo)
  | call (f : Nat) (es : Es)
  | callK (f : Nat) (perm : List Nat) (es : Es)
  | make (c : Nat) (es : Es)
  | makeK (c : Nat) (perm : List Nat) (es : Es)
  | mcall (c : Nat) (m : Str) (f : Nat) (o : E) (es : Es)
  | mcallL (c : Nat) (m : Str) (f : Nat) (i : Nat) (es : Es)
  | mcallK (c : Nat) (m : Str) (f : Nat) (perm : List Nat) (o : E) (es : Es)
  | bi (b : Bi) (es : Es)
  | isi (b : Bi) (e : E)
  | bm (m : Bm) (o : E) (es : Es)
  | bx (m : Bx) (i : Nat) (e : E)
  | fld (o : E) (f : Str)
  | isT (a : E)
  | frz (a : E)
  | notT (a : E)
  | dn0
  | dn1 (k v : E)
  | dz (a b : E)
  | dc (vs : List Nat) (t : Tg) (it : It) (c : Eo) (k e : E)
  | lc (vs : List Nat) (t : Tg) (it : It) (c : Eo) (e : E)
  | lc2 (vs vs1 : List Nat) (t : Tg) (it : It) (c : Eo) (t1 : Tg) (it1 : It) (c1 : Eo) (e : E)
inductive Eo where
  | no
  | so (e : E)
inductive Es where
  | nil
  | cons (e : E) (es : Es)
inductive It where
  | seq (e : E)
  | rng1 (e : E)
  | rng2 (a b : E)
  | enm (e : E)
  | zip2 (a b : E)
  | zip3 (a b c : E)
end

mutual
inductive S where
  | asg (t : Tg) (e : E)
  | par (is : List Nat) (es : Es)
  | setIx (i : Nat) (ix : E) (e : E)
  | setK (i : Nat) (k : E) (e : E)
  | asgT (ts : Ts) (e : E)
  | setF (i : Nat) (f : Str) (e : E)
  | ex (e : E)
  | ret (e : E)
  | retN
  | ite (c : E) (a b : Ss)
  | for_ (t : Tg) (it : It) (b : Ss)
  | whl (c : E) (b : Ss)
  | forW (vs : List Nat) (t : Tg) (it : It) (b : Ss)
  | whlW (vs : List Nat) (c : E) (b : Ss)
  | pass
  | brk
  | cnt
  | bad
inductive Ss where
  | nil
  | cons (s : S) (ss : Ss)
  | wipe (vs : List Nat) (ss : Ss)
  | fz (i : Nat) (ss : Ss)
/-- targets that may be places of lists -/
inductive Ts where
  | nil
  | nm (i : Nat) (ts : Ts)
  | ix (i : Nat) (e : E) (ts : Ts)
end

structure Fn where
  name : Str
  glo : Bool
  ps : List Str
  mt : List Bool
  n : Nat
  body : Ss
structure Cl where
  name : Str
  init : Nat
  meths : List (Str × Nat)
structure Pg where
  fns : List Fn
  cls : List Cl
  cs : List (Str × Ct)
  free : List Str
  flds : List Str
  kws : List (Nat × List Str × Nat × List Nat)
  wf : Nat

/-! ### values -/
mutual
def py : D → Option PyData
  | .non => some .none
  | .bl b => some (.bool b)
  | .int i => some (.int i)
  | .str x => some (.str x)
  | .tup l => (pyAll l).map .tuple
  | .lst l => (pyAll l).map .list
  | .dic _ => none
  | .ins _ _ => none
  | .scr _ => none
def pyAll : List D → Option (List PyData)
  | [] => some []
  | d :: l => match py d, pyAll l with
    | some p, some ps => some (p :: ps)
    | _, _ => none
end

def scalD : D → Option V
  | .non => some .non
  | .bl b => some (.bl b)
  | .int i => some (.int i)
  | .str x => some (.str x)
  | _ => none
def txts : List D → Option (List Str)
  | [] => some []
  | .str x :: l => (txts l).map (x :: ·)
  | _ :: _ => none
def bools : List D → Option (List Bool)
  | [] => some []
  | .bl x :: l => (bools l).map (x :: ·)
  | _ :: _ => none
/-- == -/
def eqD (a b : D) : Option Bool :=
  match py a, py b with
  | some p, some q => match p, q with
    | .str x, .str y => some (decide (x = y))
    | p, q => if SeqAt.shaped p = true ∧ SeqAt.shaped q = true then some (PyData.eqv p q) else none
  | _, _ => none
/-- the values among which «in» looks -/
def flats : List D → Option (List V)
  | [] => some []
  | d :: l => match scalD d, flats l with
    | some v, some vs => some (v :: vs)
    | _, _ => none
def eqAny (x : D) : List D → Option Bool
  | [] => some false
  | y :: l => match eqD y x with
    | some true => some true
    | some false => eqAny x l
    | none => none
def keyB (x : Str) (p : D × D) : Bool := match p.1 with
  | .str y => decide (y = x)
  | _ => false
def dPut (l : List (D × D)) (x : Str) (d : D) : List (D × D) :=
  if l.any (keyB x) = true then l.map (fun p => if keyB x p = true then (p.1, d) else p) else l ++ [(.str x, d)]
def inD (x y : D) : Option Bool :=
  match y with
  | .str z => match x with
    | .str c => some (!(Builtin.Str.occurrences z c 0 z.length 1).isEmpty)
    | _ => none
  | .tup l => match scalD x, flats l with
    | some v, some vs => some (inV v vs)
    | _, _ => match py x, pyAll l with
      | some p, some ps => if SeqAt.shaped p = true ∧ SeqAt.shaped (.tuple ps) = true then some (ps.any fun z => PyData.eqv z p) else none
      | _, _ => none
  | .lst l => match scalD x, flats l with
    | some v, some vs => some (inV v vs)
    | _, _ => match py x, pyAll l with
      | some p, some ps => if SeqAt.shaped p = true ∧ SeqAt.shaped (.list ps) = true then some (ps.any fun z => PyData.eqv z p) else none
      | _, _ => none
  | .dic l => match x with
    | .str k => some (l.any (keyB k))
    | _ => none
  | _ => none
def cmpD (o : CO) (a b : D) : Option Bool :=
  match o with
  | .eq => eqD a b
  | .ne => (eqD a b).map (!·)
  | .isin => inD a b
  | .notin => (inD a b).map (!·)
  | .lt => match a, b with | .int i, .int j => some (decide (i < j)) | _, _ => none
  | .le => match a, b with | .int i, .int j => some (decide (i ≤ j)) | _, _ => none
  | .gt => match a, b with | .int i, .int j => some (decide (j < i)) | _, _ => none
  | .ge => match a, b with | .int i, .int j => some (decide (j ≤ i)) | _, _ => none
instance (i j : Int) : Decidable (CMul i j) := by unfold CMul; exact inferInstance
instance (i j : Int) : Decidable (CDiv i j) := by unfold CDiv; exact inferInstance
instance (i j : Int) : Decidable (CPow i j) := by unfold CPow; exact inferInstance
def binD (o : BO) (a b : D) : Option R :=
  match o, a, b with
  | .add, .int i, .int j => some (.dt (.int (i + j)))
  | .add, .str x, .str y => if x.length + y.length ≤ sizeLine then some (.dt (.str (x ++ y))) else none
  | .add, .tup l, .tup m => if l.length + m.length ≤ sizeLine then some (.dt (.tup (l ++ m))) else none
  | .add, .lst l, .lst m => if l.length + m.length ≤ sizeLine then some (.nw (.lst (l ++ m))) else none
  | .sub, .int i, .int j => some (.dt (.int (i - j)))
  | .mul, .int i, .int j => if CMul i j then some (.dt (.int (i * j))) else none
  | .mul, .lst l, .int k => if -(2 ^ 63) ≤ k ∧ k < 2 ^ 63 ∧ l.length * k.toNat ≤ sizeLine then some (.nw (.lst (List.replicate k.toNat l).flatten)) else none
  | .mod, .int i, .int j => if 0 < j then some (.dt (.int (i % j))) else none
  | .fdiv, .int i, .int j => if CDiv i j then some (.dt (.int (i / j))) else none
  | .pow, .int i, .int j => if CPow i j then some (.dt (.int (i ^ j.toNat))) else none
  | _, _, _ => none
def cutD (l : List D) (lo hi : Option Int) : List D := (l.drop (HT.sIx l.length 0 lo)).take (HT.sIx l.length l.length hi - HT.sIx l.length 0 lo)
def dLook (x : Str) : List (D × D) → Option D
  | [] => none
  | (.str y, d) :: l => if y = x then some d else dLook x l
  | _ :: l => dLook x l
def ixD (a b : D) : Option D :=
  match a, b with
  | .tup l, .int i => atI l i
  | .lst l, .int i => atI l i
  | .scr l, .int i => (atI l i).map .int
  | .dic kvs, k => match k with
    | .str x => dLook x kvs
    | _ => none
  | _, _ => none
def sliD (a : D) (lo hi : Option Int) : Option R :=
  match a with
  | .tup l => some (.dt (.tup (cutD l lo hi)))
  | .lst l => some (.nw (.lst (cutD l lo hi)))
  | .scr l => some (.nw (.lst (cutD (l.map .int) lo hi)))
  | .str z => if z.length ≤ sizeLine then some (.dt (.str (cutS z lo hi))) else none
  | _ => none
def tyD : D → Nat
  | .non => 0
  | .bl _ => 1
  | .int _ => 2
  | .str _ => 3
  | .tup _ => 4
  | .lst _ => 5
  | .dic _ => 6
  | .scr _ => 5
  | .ins c _ => 7 + c
def isI (n : Nat) (b : Bi) (d : D) : Option Bool :=
  match d with
  | .ins c _ => match b with
    | .isCls k => if c < n ∧ k < n then some (c == k) else none
    | .isStr => if c < n then some false else none
    | .isTuple => if c < n then some false else none
    | .isInt => if c < n then some false else none
    | .isBool => if c < n then some false else none
    | _ => none
  | d => match b with
    | .isStr => some (tyD d == 3)
    | .isTuple => some (tyD d == 4)
    | .isBool => some (tyD d == 1)
    | .isInt => some (tyD d == 2 || tyD d == 1)
    | .isCls k => if k < n then some false else none
    | _ => none
def biLen : List D → Option R
  | [.tup l] => some (.dt (.int l.length))
  | [.lst l] => some (.dt (.int l.length))
  | [.scr l] => some (.dt (.int l.length))
  | [.dic l] => some (.dt (.int l.length))
  | [.str z] => if z.length ≤ sizeLine then some (.dt (.int z.length)) else none
  | _ => none
def biAll : List D → Option R
  | [.lst l] => (bools l).map fun bs => .dt (.bl (bs.all id))
  | _ => none
def biAny : List D → Option R
  | [.lst l] => (bools l).map fun bs => .dt (.bl (bs.any id))
  | _ => none
def biTuple : List D → Option R
  | [.lst l] => some (.dt (.tup l))
  | [.tup l] => some (.dt (.tup l))
  | _ => none
def biList : List D → Option R
  | [.lst l] => some (.nw (.lst l))
  | [.tup l] => some (.nw (.lst l))
  | _ => none
def biInt : List D → Option R
  | [.int i] => some (.dt (.int i))
  | [.bl b] => some (.dt (.int (if b then 1 else 0)))
  | _ => none
def biAbs : List D → Option R
  | [.int i] => some (.dt (.int (if i < 0 then -i else i)))
  | _ => none
def intsD : List D → Option (List Int)
  | [] => some []
  | .int x :: l => (intsD l).map (x :: ·)
  | _ :: _ => none
def maxI : Int → List Int → Int
  | m, [] => m
  | m, x :: l => maxI (if m < x then x else m) l
def minI : Int → List Int → Int
  | m, [] => m
  | m, x :: l => minI (if x < m then x else m) l
def biMax2 : List D → Option R
  | [.int i, .int j] => some (.dt (.int (if j > i then j else i)))
  | [.lst l] => match intsD l with
    | some (n :: ns) => some (.dt (.int (maxI n ns)))
    | _ => none
  | _ => none
def biMin2 : List D → Option R
  | [.int i, .int j] => some (.dt (.int (if j < i then j else i)))
  | [.lst l] => match intsD l with
    | some (n :: ns) => some (.dt (.int (minI n ns)))
    | _ => none
  | _ => none
def biDivmod : List D → Option R
  | [.int i, .int j] => if CDiv i j then some (.dt (.tup [.int (i / j), .int (i % j)])) else none
  | _ => none
def biRepr : List D → Option R
  | [d] => match py d with
    | some (.list ps) => if (PyData.list ps).showable = true ∧ (PyData.list ps).shown.length ≤ sizeLine ∧ (PyData.list ps).depth ≤ 64 then some (.dt (.str (PyData.list ps).shown)) else none
    | some (.tuple ps) => if (PyData.tuple ps).showable = true ∧ (PyData.tuple ps).shown.length ≤ sizeLine ∧ (PyData.tuple ps).depth ≤ 64 then some (.dt (.str (PyData.tuple ps).shown)) else none
    | some .none => some (.dt (.str "None"))
    | some (.bool b) => some (.dt (.str (if b then "True" else "False")))
    | some (.int i) => if i.natAbs.log2 < 1920 then some (.dt (.str (toString i : String))) else none
    | _ => none
  | _ => none
/-! ### sorting keys: ints, texts, tuples of such -/
inductive Sk where
  | i (n : Int)
  | s (x : List Nat)
  | nil
  | cons (h t : Sk)
deriving DecidableEq
def ltK : Sk → Sk → Bool
  | .i a, .i b => decide (a < b)
  | .i _, _ => true
  | .s _, .i _ => false
  | .s a, .s b => decide (a < b)
  | .s _, _ => true
  | .nil, .cons _ _ => true
  | .nil, _ => false
  | .cons x xs, .cons y ys => if x = y then ltK xs ys else ltK x y
  | .cons _ _, _ => false
section
variable {α : Type} (k : α → Sk)
def insK (x : α) : List α → List α
  | [] => [x]
  | y :: l => if ltK (k x) (k y) = true then x :: y :: l else y :: insK x l
def sortK (l : List α) : List α := l.foldl (fun acc x => insK k x acc) []
end
/-! the key of data -/
mutual
def skD : D → Option Sk
  | .int i => some (.i i)
  | .str x => some (.s x.cps.toList)
  | .tup l => skAll l
  | _ => none
def skAll : List D → Option Sk
  | [] => some .nil
  | d :: l => match skD d, skAll l with
    | some k, some ks => some (.cons k ks)
    | _, _ => none
end
def dpK : Sk → Nat
  | .i _ => 0
  | .s _ => 0
  | .nil => 1
  | .cons h t => max (dpK h + 1) (dpK t)
/-- the keys may be compared -/
def cmpK : Sk → Sk → Bool
  | .i _, .i _ => true
  | .s _, .s _ => true
  | .nil, .nil => true
  | .nil, .cons _ _ => true
  | .cons _ _, .nil => true
  | .cons x xs, .cons y ys => cmpK x y && cmpK xs ys
  | _, _ => false
def keyOf (d : D) : Sk := (skD d).getD .nil
/-- tuples whose firsts are all ints, or all texts -/
def fstI : D → Bool
  | .tup (.int _ :: _) => true
  | _ => false
def fstS : D → Bool
  | .tup (.str _ :: _) => true
  | _ => false
def sortable (l : List D) : Bool := (l.all fun d => (skD d).isSome && decide (dpK (keyOf d) ≤ 60)) && ((l.all fstI) || (l.all fstS)) && l.all fun d => l.all fun e => cmpK (keyOf d) (keyOf e)
def biSorted : List D → Option R
  | [.lst l] => if sortable l = true then some (.nw (.lst (sortK keyOf l))) else match txts l with
    | some ys => if ys.length < 64 then some (.nw (.lst (sortK keyOf l))) else none
    | none => none
  | _ => none
def biD (b : Bi) (l : List D) : Option R :=
  match b with
  | .len => biLen l
  | .all => biAll l
  | .any => biAny l
  | .tuple => biTuple l
  | .list => biList l
  | .int => biInt l
  | .abs => biAbs l
  | .max2 => biMax2 l
  | .min2 => biMin2 l
  | .divmod => biDivmod l
  | .repr => biRepr l
  | .sorted => biSorted l
  | _ => none
def bmJoin : D → List D → Option R
  | .str z, [.lst l] => (txts l).bind fun ys => if (ys.map (·.length)).sum + ys.length * z.length ≤ 16777216 then some (.dt (.str (Txt.join z ys))) else none
  | .str z, [.tup l] => (txts l).bind fun ys => if (ys.map (·.length)).sum + ys.length * z.length ≤ 16777216 then some (.dt (.str (Txt.join z ys))) else none
  | _, _ => none
def bmSplit : D → List D → Option R
  | .str a, [.str b] => if (b.length == 0) = false ∧ a.length + 2 ≤ sizeLine then some (.nw (.lst ((Txt.split a b).map .str))) else none
  | _, _ => none
def bmPartition : D → List D → Option R
  | .str a, [.str b] => if (b.length == 0) = false ∧ a.length ≤ sizeLine then
      some (.dt (.tup [.str (Txt.partition a b).1, .str (Txt.partition a b).2.1, .str (Txt.partition a b).2.2])) else none
  | _, _ => none
def bmIndex : D → List D → Option R
  | .tup l, [.str x] => (txts l).bind fun ys => if x ∈ ys then some (.dt (.int (ys.idxOf x : Nat))) else none
  | _, _ => none
def bmD (m : Bm) (o : D) (l : List D) : Option R :=
  match m with
  | .join => bmJoin o l
  | .split => bmSplit o l
  | .partition => bmPartition o l
  | .index => bmIndex o l

/-! ### the parts of the interpreter -/
/-- what an operand is now -/
def opD (env : Env') : R → Option D
  | .dt d => some d
  | .nw d => some d
  | .sl i => match env[i]? with
    | some (.ow _ d) => some d
    | _ => none
/-- a value that is kept: nobody changes it any more -/
def frz (r : R) (env : Env') : Option (D × Env') :=
  match r with
  | .dt d => some (d, env)
  | .nw d => some (d, env)
  | .sl i => match env[i]? with
    | some (.ow _ d) => some (d, env.set i (.va d))
    | _ => none
/-- a value that goes to a name: a new object stays one's own -/
def keepR (r : R) (env : Env') : Option (R × Env') :=
  match r with
  | .dt d => some (.dt d, env)
  | .nw d => some (.nw d, env)
  | .sl i => match env[i]? with
    | some (.ow _ d) => some (.dt d, env.set i (.va d))
    | _ => none
/-- a new object that is only read -/
def pz : Option (R × Env') → Option (R × Env')
  | some (.nw d, env) => some (.dt d, env)
  | x => x
def free (i : Nat) (env : Env') : Bool :=
  match env[i]? with
  | some (.ow true _) => false
  | some _ => true
  | none => false
def putSl (i : Nat) (r : R) (env : Env') : Option Env' :=
  if free i env = true then match r with
    | .dt d => some (env.set i (.va d))
    | .nw d => some (env.set i (.ow false d))
    | .sl _ => none
  else none
def putAll : List Nat → List D → Env' → Option Env'
  | [], [], env => some env
  | i :: is, d :: ds, env => match putSl i (.dt d) env with
    | some env1 => putAll is ds env1
    | none => none
  | _, _, _ => none
def parPut : List Nat → List R → Env' → Option Env'
  | [], [], env => some env
  | i :: is, r :: rs, env => match putSl i r env with
    | some env1 => parPut is rs env1
    | none => none
  | _, _, _ => none
def putTg (t : Tg) (d : D) (env : Env') : Option Env' :=
  match t with
  | .nm i => putSl i (.dt d) env
  | .tu is => match d with
    | .tup ds => putAll is ds env
    | _ => none
/-- the comprehension's own names: none within at first, as they were behind it -/
def wipeE (env : Env') : List Nat → Env'
  | [] => env
  | v :: vs => (wipeE env vs).set v .no
def backE (old env : Env') : List Nat → Env'
  | [] => env
  | v :: vs => (backE old env vs).set v (old.getD v .no)
def plainAt (env : Env') (vs : List Nat) : Bool := vs.all fun v => match env[v]? with
  | some (.ow _ _) => false
  | _ => true
/-! expressions -/
def frzM (m : Env' → Option (R × Env')) : Env' → Option (R × Env') := fun env => match m env with
  | some (r, env0) => match frz r env0 with
    | some (d, env1) => some (.dt d, env1)
    | none => none
  | none => none
def boolM (m : Env' → Option (R × Env')) : Env' → Option (Bool × Env') := fun env => match m env with
  | some (.dt (.bl b), env1) => some (b, env1)
  | _ => none
def varM (i : Nat) : Env' → Option (R × Env') := fun env => match env[i]? with
  | some (.va d) => some (.dt d, env)
  | some (.ow _ _) => some (.sl i, env)
  | _ => none
def nilD : Env' → Option (List D × Env') := fun env => some ([], env)
def nilR : Env' → Option (List R × Env') := fun env => some ([], env)
def consV (m : Env' → Option (R × Env')) (ms : Env' → Option (List D × Env')) : Env' → Option (List D × Env') := fun env => match m env with
  | some (r, env0) => match frz r env0 with
    | some (d, env1) => match ms env1 with
      | some (ds, env2) => some (d :: ds, env2)
      | none => none
    | none => none
  | none => none
def consP (m : Env' → Option (R × Env')) (ms : Env' → Option (List R × Env')) : Env' → Option (List R × Env') := fun env => match pz (m env) with
  | some (r, env1) => match ms env1 with
    | some (rs, env2) => some (r :: rs, env2)
    | none => none
  | none => none
/-- results that are kept: what is in a slot is frozen -/
def keepM (m : Env' → Option (R × Env')) : Env' → Option (R × Env') := fun env => match m env with
  | some (r, env0) => keepR r env0
  | none => none
/-- results that are lent -/
def lendM (m : Env' → Option (R × Env')) : Env' → Option (R × Env') := fun env => match m env with
  | some (.dt _, _) => none
  | x => x
def consR (m : Env' → Option (R × Env')) (ms : Env' → Option (List R × Env')) : Env' → Option (List R × Env') := fun env => match m env with
  | some (r, env1) => match ms env1 with
    | some (rs, env2) => some (r :: rs, env2)
    | none => none
  | none => none
def op2 (f : D → D → Option R) (ma mb : Env' → Option (R × Env')) : Env' → Option (R × Env') := fun env => match pz (ma env) with
  | some (x, env1) => match pz (mb env1) with
    | some (y, env2) => match opD env2 x, opD env2 y with
      | some d, some e => (f d e).map fun r => (r, env2)
      | _, _ => none
    | none => none
  | none => none
def cmpR (o : CO) (d e : D) : Option R := (cmpD o d e).map fun b => .dt (.bl b)
def ixR (d e : D) : Option R := (ixD d e).map .dt
def andM (ma mb : Env' → Option (R × Env')) : Env' → Option (R × Env') := fun env => match ma env with
  | some (.dt (.bl true), env1) => mb env1
  | some (.dt (.bl false), env1) => some (.dt (.bl false), env1)
  | _ => none
def orM (ma mb : Env' → Option (R × Env')) : Env' → Option (R × Env') := fun env => match ma env with
  | some (.dt (.bl true), env1) => some (.dt (.bl true), env1)
  | some (.dt (.bl false), env1) => mb env1
  | _ => none
def notM (ma : Env' → Option (R × Env')) : Env' → Option (R × Env') := fun env => match ma env with
  | some (.dt (.bl b), env1) => some (.dt (.bl (!b)), env1)
  | _ => none
def negM (ma : Env' → Option (R × Env')) : Env' → Option (R × Env') := fun env => match ma env with
  | some (.dt (.int i), env1) => some (.dt (.int (-i)), env1)
  | _ => none
def ifeM (mc ma mb : Env' → Option (R × Env')) : Env' → Option (R × Env') := fun env => match mc env with
  | some (.dt (.bl true), env1) => ma env1
  | some (.dt (.bl false), env1) => mb env1
  | _ => none
def isNM (ma : Env' → Option (R × Env')) : Env' → Option (R × Env') := fun env => match pz (ma env) with
  | some (.dt .non, env1) => some (.dt (.bl true), env1)
  | some (.dt _, env1) => some (.dt (.bl false), env1)
  | _ => none
def notNM (ma : Env' → Option (R × Env')) : Env' → Option (R × Env') := fun env => match pz (ma env) with
  | some (.dt .non, env1) => some (.dt (.bl false), env1)
  | some (.dt _, env1) => some (.dt (.bl true), env1)
  | _ => none
def isTM (ma : Env' → Option (R × Env')) : Env' → Option (R × Env') := fun env => match ma env with
  | some (.dt (.bl b), env1) => some (.dt (.bl b), env1)
  | _ => none
def notTM (ma : Env' → Option (R × Env')) : Env' → Option (R × Env') := fun env => match ma env with
  | some (.dt (.bl b), env1) => some (.dt (.bl (!b)), env1)
  | _ => none
/-- dict(zip(a, b)) of two tuples, the keys unlike texts -/
def dzM (ms : Env' → Option (List D × Env')) : Env' → Option (R × Env') := fun env => match ms env with
  | some ([.tup l, .tup m], env1) => match txts l with
    | some ys => if ys.Nodup ∧ ys.length ≤ sizeLine then some (.nw (.dic ((ys.zip m).map fun p => (.str p.1, p.2))), env1) else none
    | none => none
  | _ => none
def dn0M : Env' → Option (R × Env') := fun env => some (.nw (.dic []), env)
def dn1M (ms : Env' → Option (List D × Env')) : Env' → Option (R × Env') := fun env => match ms env with
  | some ([.str x, d], env1) => some (.nw (.dic [(.str x, d)]), env1)
  | _ => none
def chainM (o o' : CO) (ma mb mc : Env' → Option (R × Env')) : Env' → Option (R × Env') := fun env => match pz (ma env) with
  | some (x, env1) => match pz (mb env1) with
    | some (y, env2) => match opD env2 x, opD env2 y with
      | some d, some e => match cmpD o d e with
        | some true => match pz (mc env2) with
          | some (z, env3) => match opD env3 y, opD env3 z with
            | some e, some g => (cmpD o' e g).map fun r => (.dt (.bl r), env3)
            | _, _ => none
          | none => none
        | some false => some (.dt (.bl false), env2)
        | none => none
      | _, _ => none
    | none => none
  | none => none
def noO : Env' → Option (Option Int × Env') := fun env => some (none, env)
def soM (m : Env' → Option (R × Env')) : Env' → Option (Option Int × Env') := fun env => match m env with
  | some (.dt (.int i), env1) => some (some i, env1)
  | _ => none
def sliM (m : Env' → Option (R × Env')) (ml mh : Env' → Option (Option Int × Env')) : Env' → Option (R × Env') := fun env => match pz (m env) with
  | some (x, env1) => match ml env1 with
    | some (l, env2) => match mh env2 with
      | some (h, env3) => match opD env3 x with
        | some d => (sliD d l h).map fun r => (r, env3)
        | none => none
      | none => none
    | none => none
  | none => none
def biM (f : List D → Option R) (ms : Env' → Option (List R × Env')) : Env' → Option (R × Env') := fun env => match ms env with
  | some (rs, env1) => match rs.mapM (opD env1) with
    | some ds => (f ds).map fun r => (r, env1)
    | none => none
  | none => none
/-- isinstance -/
def isM (n : Nat) (b : Bi) (m : Env' → Option (R × Env')) : Env' → Option (R × Env') := fun env => match pz (m env) with
  | some (r, env1) => match opD env1 r with
    | some d => (isI n b d).map fun b => (.dt (.bl b), env1)
    | none => none
  | none => none
/-- the receiver is data -/
def dataM (m : Env' → Option (R × Env')) : Env' → Option (R × Env') := fun env => match pz (m env) with
  | some (.dt d, env1) => some (.dt d, env1)
  | _ => none
def bmM (f : D → List D → Option R) (m : Env' → Option (R × Env')) (ms : Env' → Option (List R × Env')) : Env' → Option (R × Env') := fun env => match pz (m env) with
  | some (x, env1) => match ms env1 with
    | some (rs, env2) => match opD env2 x, rs.mapM (opD env2) with
      | some d, some ds => (f d ds).map fun r => (r, env2)
      | _, _ => none
    | none => none
  | none => none
def tupM (ms : Env' → Option (List D × Env')) : Env' → Option (R × Env') := fun env => match ms env with
  | some (ds, env1) => if ds.length ≤ sizeLine then some (.dt (.tup ds), env1) else none
  | none => none
def lstM (ms : Env' → Option (List D × Env')) : Env' → Option (R × Env') := fun env => match ms env with
  | some (ds, env1) => if ds.length ≤ sizeLine then some (.nw (.lst ds), env1) else none
  | none => none
def fldM (f : Str) (m : Env' → Option (R × Env')) : Env' → Option (R × Env') := fun env => match pz (m env) with
  | some (r, env1) => match opD env1 r with
    | some (.ins c fs) => match fs.lookup f with
      | some d => some (.dt d, env1)
      | none => none
    | _ => none
  | none => none
def isOw (env : Env') (i : Nat) : Bool := match env[i]? with
  | some (.ow _ (.lst _)) => true
  | _ => false
def appendM (i : Nat) (m : Env' → Option (R × Env')) : Env' → Option (R × Env') := fun env => if isOw env i = true then match frzM m env with
  | some (.dt d, env1) => match env1[i]? with
    | some (.ow b (.lst l)) => if l.length < sizeLine then some (.dt .non, env1.set i (.ow b (.lst (l ++ [d])))) else none
    | _ => none
  | _ => none
  else none
def popM (i : Nat) (m : Env' → Option (R × Env')) : Env' → Option (R × Env') := fun env => if isOw env i = true then match pz (m env) with
  | some (.dt (.int k), env1) => match env1[i]? with
    | some (.ow b (.lst l)) => if -(2 ^ 63) ≤ k ∧ k < 2 ^ 63 then match seqIndex? k l.length with
        | some j => match l[j]? with
          | some y => some (.dt y, env1.set i (.ow b (.lst (l.eraseIdx j))))
          | none => none
        | none => none
      else none
    | _ => none
  | _ => none
  else none
def extendM (i : Nat) (m : Env' → Option (R × Env')) : Env' → Option (R × Env') := fun env => if isOw env i = true then match pz (m env) with
  | some (.dt (.lst l2), env1) => match env1[i]? with
    | some (.ow b (.lst l)) => if l.length + l2.length ≤ sizeLine then some (.dt .non, env1.set i (.ow b (.lst (l ++ l2)))) else none
    | _ => none
  | _ => none
  else none
/-! calls -/
/-- the arguments as the callee's slots -/
def argSl (env : Env') : List R → List Bool → Option (List Sl)
  | [], [] => some []
  | r :: rs, m :: ms => match argSl env rs ms with
    | some ss => match m, r with
      | false, .dt d => some (.va d :: ss)
      | true, .nw d => some (.ow true d :: ss)
      | true, .sl i => match env[i]? with
        | some (.ow _ d) => some (.ow true d :: ss)
        | _ => none
      | _, _ => none
    | none => none
  | _, _ => none
/-- behind a call: what the callee left of what was lent -/
def lentBack : List R → List Sl → Env' → Option Env'
  | [], [], env => some env
  | .sl i :: rs, .ow true d :: ss, env => match env[i]? with
    | some (.ow b _) => lentBack rs ss (env.set i (.ow b d))
    | _ => none
  | .nw _ :: rs, .ow true _ :: ss, env => lentBack rs ss env
  | .dt _ :: rs, _ :: ss, env => lentBack rs ss env
  | _, _, _ => none
def slotsOf : List R → List Nat
  | [] => []
  | .sl i :: rs => i :: slotsOf rs
  | _ :: rs => slotsOf rs
def callF (cf : List Sl → Option (R × List Sl)) (mt : List Bool) (rs : List R) (env : Env') : Option (R × Env') :=
  if (slotsOf rs).Nodup then match argSl env rs mt with
    | some ss => match cf ss with
      | some (r, ss') => match r with
        | .sl _ => none
        | r => (lentBack rs ss' env).map fun env' => (r, env')
      | none => none
    | none => none
  else none
def callM (cf : List Sl → Option (R × List Sl)) (mt : List Bool) (ms : Env' → Option (List R × Env')) : Env' → Option (R × Env') := fun env => match ms env with
  | some (rs, env1) => callF cf mt rs env1
  | none => none
def makeM (c : Nat) (cf : List Sl → Option (R × List Sl)) (ms : Env' → Option (List D × Env')) : Env' → Option (R × Env') := fun env => match ms env with
  | some (ds, env1) => match cf (.ow true (.ins c []) :: ds.map .va) with
    | some (.dt .non, .ow true d :: _) => some (.nw d, env1)
    | _ => none
  | none => none
/-- an instance of a class, whose attributes leave a method's name free -/
def insM (c : Nat) (mm : Str) (m : Env' → Option (R × Env')) : Env' → Option (R × Env') := fun env => match m env with
  | some (r, env1) => match opD env1 r with
    | some (.ins c' fs) => if c' = c ∧ fs.lookup mm = none then some (r, env1) else none
    | _ => none
  | none => none
def permute (perm : List Nat) (ds : List D) : Option (List D) := perm.mapM fun i => ds[i]?
def permM (perm : List Nat) (ms : Env' → Option (List D × Env')) : Env' → Option (List D × Env') := fun env => match ms env with
  | some (ds, env1) => (permute perm ds).map fun es => (es, env1)
  | none => none
def dataR (ms : Env' → Option (List D × Env')) : Env' → Option (List R × Env') := fun env => match ms env with
  | some (ds, env1) => some (ds.map .dt, env1)
  | none => none
/-! what is walked -/
def seqD : D → Option (List D)
  | .tup l => some l
  | .lst l => some l
  | .str z => some (z.cps.toList.map fun c => .str ⟨#[c]⟩)
  | .scr l => some (l.map .int)
  | _ => none
def seqM (m : Env' → Option (R × Env')) : Env' → Option (List D × Env') := fun env => match frzM m env with
  | some (.dt d, env1) => (seqD d).map fun l => (l, env1)
  | _ => none
def rng1M (m : Env' → Option (R × Env')) : Env' → Option (List D × Env') := fun env => match m env with
  | some (.dt (.int n), env1) => if -(2 ^ 62) ≤ n ∧ n < 2 ^ 62 then some ((List.range n.toNat).map fun (k : Nat) => .int (0 + (k : Int)), env1) else none
  | _ => none
def rng2M (ma mb : Env' → Option (R × Env')) : Env' → Option (List D × Env') := fun env => match ma env with
  | some (.dt (.int lo), env1) => match mb env1 with
    | some (.dt (.int hi), env2) => if -(2 ^ 62) ≤ lo ∧ lo < 2 ^ 62 ∧ -(2 ^ 62) ≤ hi ∧ hi < 2 ^ 62 then some ((List.range (hi - lo).toNat).map fun (k : Nat) => .int (lo + (k : Int)), env2) else none
    | _ => none
  | _ => none
def enmD : D → Option (List D)
  | .tup l => some (l.zipIdx.map fun p => .tup [.int (p.2 : Nat), p.1])
  | .lst l => some (l.zipIdx.map fun p => .tup [.int (p.2 : Nat), p.1])
  | _ => none
def enmM (m : Env' → Option (R × Env')) : Env' → Option (List D × Env') := fun env => match frzM m env with
  | some (.dt d, env1) => (enmD d).map fun l => (l, env1)
  | _ => none
def zipD : D → D → Option (List D)
  | .tup l, .tup m => some ((l.zip m).map fun p => .tup [p.1, p.2])
  | .lst l, .lst m => some ((l.zip m).map fun p => .tup [p.1, p.2])
  | _, _ => none
def zipM (ms : Env' → Option (List D × Env')) : Env' → Option (List D × Env') := fun env => match ms env with
  | some ([x, y], env1) => (zipD x y).map fun l => (l, env1)
  | _ => none
/-! comprehensions -/
def trueM : Env' → Option (Bool × Env') := fun env => some (true, env)
def lcL (t : Tg) (vs : List Nat) (c : Env' → Option (Bool × Env')) (e : Env' → Option (R × Env')) : List D → List D → Env' → Option (List D × Env')
  | [], acc, env => some (acc, env)
  | x :: xs, acc, env => match putTg t x (wipeE env vs) with
    | some env1 => match c env1 with
      | some (true, env2) => match frzM e env2 with
        | some (.dt d, env3) => if acc.length < sizeLine then lcL t vs c e xs (acc ++ [d]) env3 else none
        | _ => none
      | some (false, env2) => lcL t vs c e xs acc env2
      | none => none
    | none => none
def lcM (vs : List Nat) (t : Tg) (it : Env' → Option (List D × Env')) (c : Env' → Option (Bool × Env')) (e : Env' → Option (R × Env')) : Env' → Option (R × Env') := fun env => match it env with
  | some (xs, env1) => if plainAt env1 vs = true then match lcL t vs c e xs [] env1 with
      | some (ds, env2) => some (.nw (.lst ds), backE env1 env2 vs)
      | none => none
    else none
  | none => none
def lcL2 (t : Tg) (vs : List Nat) (c : Env' → Option (Bool × Env')) (it1 : Env' → Option (List D × Env')) (t1 : Tg) (vs1 : List Nat) (c1 : Env' → Option (Bool × Env')) (e : Env' → Option (R × Env')) : List D → List D → Env' → Option (List D × Env')
  | [], acc, env => some (acc, env)
  | x :: xs, acc, env => match putTg t x (wipeE env vs) with
    | some env1 => match c env1 with
      | some (true, env2) => match it1 env2 with
        | some (ys, env3) => match lcL t1 vs1 c1 e ys acc env3 with
          | some (acc1, env4) => lcL2 t vs c it1 t1 vs1 c1 e xs acc1 env4
          | none => none
        | none => none
      | some (false, env2) => lcL2 t vs c it1 t1 vs1 c1 e xs acc env2
      | none => none
    | none => none
def lcM2 (vs vs1 : List Nat) (t : Tg) (it : Env' → Option (List D × Env')) (c : Env' → Option (Bool × Env')) (t1 : Tg) (it1 : Env' → Option (List D × Env')) (c1 : Env' → Option (Bool × Env')) (e : Env' → Option (R × Env')) : Env' → Option (R × Env') := fun env => match it env with
  | some (xs, env1) => if plainAt env1 vs = true then match lcL2 t vs c it1 t1 vs1 c1 e xs [] env1 with
      | some (ds, env2) => some (.nw (.lst ds), backE env1 env2 vs)
      | none => none
    else none
  | none => none
def dcL (t : Tg) (vs : List Nat) (c : Env' → Option (Bool × Env')) (k e : Env' → Option (R × Env')) : List D → List (D × D) → Env' → Option (List (D × D) × Env')
  | [], acc, env => some (acc, env)
  | x :: xs, acc, env => match putTg t x (wipeE env vs) with
    | some env1 => match c env1 with
      | some (true, env2) => match frzM k env2 with
        | some (.dt (.str y), env3) => match frzM e env3 with
          | some (.dt d, env4) => if acc.length < sizeLine then dcL t vs c k e xs (dPut acc y d) env4 else none
          | _ => none
        | _ => none
      | some (false, env2) => dcL t vs c k e xs acc env2
      | none => none
    | none => none
def dcM (vs : List Nat) (t : Tg) (it : Env' → Option (List D × Env')) (c : Env' → Option (Bool × Env')) (k e : Env' → Option (R × Env')) : Env' → Option (R × Env') := fun env => match it env with
  | some (xs, env1) => if plainAt env1 vs = true then match dcL t vs c k e xs [] env1 with
      | some (ds, env2) => some (.nw (.dic ds), backE env1 env2 vs)
      | none => none
    else none
  | none => none
/-! statements -/
inductive Fl where
  | next | brk | cnt
  | ret (r : R)
abbrev Ms := Env' → Option (Fl × Env')
def forL (t : Tg) (b : Env' → Option (Fl × Env')) : List D → Env' → Option (Fl × Env')
  | [], env => some (.next, env)
  | x :: xs, env => match putTg t x env with
    | some env1 => match b env1 with
      | some (.next, env2) => forL t b xs env2
      | some (.cnt, env2) => forL t b xs env2
      | some (.brk, env2) => some (.next, env2)
      | some (.ret r, env2) => some (.ret r, env2)
      | none => none
    | none => none
def forM (t : Tg) (it : Env' → Option (List D × Env')) (b : Env' → Option (Fl × Env')) : Env' → Option (Fl × Env') := fun env => match it env with
  | some (xs, env1) => forL t b xs env1
  | none => none
def whlL (c : Env' → Option (Bool × Env')) (b : Env' → Option (Fl × Env')) : Nat → Env' → Option (Fl × Env')
  | 0, _ => none
  | n + 1, env => match c env with
    | some (false, env1) => some (.next, env1)
    | some (true, env1) => match b env1 with
      | some (.next, env2) => whlL c b n env2
      | some (.cnt, env2) => whlL c b n env2
      | some (.brk, env2) => some (.next, env2)
      | some (.ret r, env2) => some (.ret r, env2)
      | none => none
    | none => none
/-! loops that forget the names of their bodies -/
def forWL (vs : List Nat) (t : Tg) (b : Env' → Option (Fl × Env')) : List D → Env' → Option (Fl × Env')
  | [], env => some (.next, wipeE env vs)
  | x :: xs, env => match putTg t x (wipeE env vs) with
    | some env1 => match b env1 with
      | some (.next, env2) => forWL vs t b xs env2
      | some (.cnt, env2) => forWL vs t b xs env2
      | some (.brk, env2) => some (.next, wipeE env2 vs)
      | some (.ret r, env2) => some (.ret r, env2)
      | none => none
    | none => none
def forWM (vs : List Nat) (t : Tg) (it : Env' → Option (List D × Env')) (b : Env' → Option (Fl × Env')) : Env' → Option (Fl × Env') := fun env => match it env with
  | some (xs, env1) => forWL vs t b xs env1
  | none => none
def whlWL (vs : List Nat) (c : Env' → Option (Bool × Env')) (b : Env' → Option (Fl × Env')) : Nat → Env' → Option (Fl × Env')
  | 0, _ => none
  | n + 1, env => match c (wipeE env vs) with
    | some (false, env1) => some (.next, env1)
    | some (true, env1) => match b env1 with
      | some (.next, env2) => whlWL vs c b n env2
      | some (.cnt, env2) => whlWL vs c b n env2
      | some (.brk, env2) => some (.next, wipeE env2 vs)
      | some (.ret r, env2) => some (.ret r, env2)
      | none => none
    | none => none
def wipeM (vs : List Nat) (m : Env' → Option (Fl × Env')) : Env' → Option (Fl × Env') := fun env => m (wipeE env vs)
def fzE (i : Nat) (env : Env') : Env' := match env[i]? with
  | some (.ow _ d) => env.set i (.va d)
  | _ => env
def fzM (i : Nat) (m : Env' → Option (Fl × Env')) : Env' → Option (Fl × Env') := fun env => m (fzE i env)
def asgM (i : Nat) (m : Env' → Option (R × Env')) : Env' → Option (Fl × Env') := fun env => match keepM m env with
  | some (r, env1) => (putSl i r env1).map fun env2 => (.next, env2)
  | none => none
def asgTuM (is : List Nat) (m : Env' → Option (R × Env')) : Env' → Option (Fl × Env') := fun env => match frzM m env with
  | some (.dt (.tup ds), env1) => (putAll is ds env1).map fun env2 => (.next, env2)
  | _ => none
def parM (is : List Nat) (ms : Env' → Option (List R × Env')) : Env' → Option (Fl × Env') := fun env => match ms env with
  | some (rs, env1) => (parPut is rs env1).map fun env2 => (.next, env2)
  | none => none
def setAt (i : Nat) (k : Int) (d : D) (env : Env') : Option Env' := match env[i]? with
  | some (.ow b (.lst l)) => match ixN l.length k with
    | some j => some (env.set i (.ow b (.lst (l.set j d))))
    | none => none
  | _ => none
def setIxM (i : Nat) (mix m : Env' → Option (R × Env')) : Env' → Option (Fl × Env') := fun env => match frzM m env with
  | some (.dt d, env1) => if isOw env1 i = true then match pz (mix env1) with
    | some (.dt (.int k), env2) => (setAt i k d env2).map fun env3 => (.next, env3)
    | _ => none
    else none
  | _ => none
def isOwD (env : Env') (i : Nat) : Bool := match env[i]? with
  | some (.ow _ (.dic _)) => true
  | _ => false
def setKM (i : Nat) (mk m : Env' → Option (R × Env')) : Env' → Option (Fl × Env') := fun env => match frzM m env with
  | some (.dt d, env1) => if isOwD env1 i = true then match pz (mk env1) with
    | some (.dt (.str x), env2) => match env2[i]? with
      | some (.ow b (.dic l)) => if l.length < sizeLine then some (.next, env2.set i (.ow b (.dic (dPut l x d)))) else none
      | _ => none
    | _ => none
    else none
  | _ => none
def setFM (i : Nat) (f : Str) (m : Env' → Option (R × Env')) : Env' → Option (Fl × Env') := fun env => match frzM m env with
  | some (.dt d, env1) => match env1[i]? with
    | some (.ow b (.ins c fs)) => if fs.length < 1000 ∧ fs.lookup f = none then some (.next, env1.set i (.ow b (.ins c (fs ++ [(f, d)])))) else none
    | _ => none
  | _ => none
def exM (m : Env' → Option (R × Env')) : Env' → Option (Fl × Env') := fun env => match m env with
  | some (_, env1) => some (.next, env1)
  | none => none
def retM (m : Env' → Option (R × Env')) : Env' → Option (Fl × Env') := fun env => match m env with
  | some (.dt d, env1) => some (.ret (.dt d), env1)
  | some (.nw d, env1) => some (.ret (.nw d), env1)
  | some (.sl i, env1) => match env1[i]? with
    | some (.ow false d) => some (.ret (.nw d), env1.set i .no)
    | _ => none
  | none => none
def retNM : Env' → Option (Fl × Env') := fun env => some (.ret (.dt .non), env)
def iteM (c : Env' → Option (R × Env')) (a b : Env' → Option (Fl × Env')) : Env' → Option (Fl × Env') := fun env => match boolM c env with
  | some (true, env1) => a env1
  | some (false, env1) => b env1
  | none => none
def nextM : Env' → Option (Fl × Env') := fun env => some (.next, env)
def brkM : Env' → Option (Fl × Env') := fun env => some (.brk, env)
def cntM : Env' → Option (Fl × Env') := fun env => some (.cnt, env)
def badM : Env' → Option (Fl × Env') := fun _ => none
def badE : Env' → Option (R × Env') := fun _ => none
def badI : Env' → Option (List D × Env') := fun _ => none
def consM (a b : Env' → Option (Fl × Env')) : Env' → Option (Fl × Env') := fun env => match a env with
  | some (.next, env1) => b env1
  | x => x
/-- targets that may be places: in their order -/
abbrev Mt := List D → Env' → Option Env'
def tNilM : List D → Env' → Option Env' := fun ds env => match ds with
  | [] => some env
  | _ => none
def tNmM (i : Nat) (k : List D → Env' → Option Env') : List D → Env' → Option Env' := fun ds env => match ds with
  | d :: ds => match putSl i (.dt d) env with
    | some env1 => k ds env1
    | none => none
  | [] => none
def tIxM (i : Nat) (mix : Env' → Option (R × Env')) (k : List D → Env' → Option Env') : List D → Env' → Option Env' := fun ds env => match ds with
  | d :: ds => if isOw env i = true then match pz (mix env) with
    | some (.dt (.int j), env1) => match setAt i j d env1 with
      | some env2 => k ds env2
      | none => none
    | _ => none
    else none
  | [] => none
def asgTM (k : List D → Env' → Option Env') (m : Env' → Option (R × Env')) : Env' → Option (Fl × Env') := fun env => match frzM m env with
  | some (.dt (.tup ds), env1) => (k ds env1).map fun env2 => (.next, env2)
  | _ => none

/-! ### the interpreter -/
section
variable (P : Pg) (cf : Nat → List Sl → Option (R × List Sl))
def mtOf (f : Nat) : List Bool := match P.fns[f]? with
  | some fn => fn.mt
  | none => []
def initOf (c : Nat) : Nat := match P.cls[c]? with
  | some cl => cl.init
  | none => P.fns.length
mutual
def evE : E → Env' → Option (R × Env')
  | .var i => varM i
  | .cst c => fun env => some (.dt c.d, env)
  | .tup es => tupM (evV es)
  | .lst es => lstM (evV es)
  | .bin o a b => op2 (binD o) (evE a) (evE b)
  | .cmp o a b => op2 (cmpR o) (evE a) (evE b)
  | .chain o o' a b c => chainM o o' (evE a) (evE b) (evE c)
  | .isN a => isNM (evE a)
  | .notN a => notNM (evE a)
  | .and a b => andM (evE a) (evE b)
  | .or a b => orM (evE a) (evE b)
  | .not a => notM (evE a)
  | .neg a => negM (evE a)
  | .ife c a b => ifeM (evE c) (evE a) (evE b)
  | .ix a b => op2 ixR (evE a) (evE b)
  | .sli a lo hi => sliM (evE a) (evO lo) (evO hi)
  | .call f es => callM (cf f) (mtOf P f) (evA es (mtOf P f))
  | .callK f perm es => callM (cf f) (mtOf P f) (dataR (permM perm (evV es)))
  | .make c es => makeM c (cf (initOf P c)) (evV es)
  | .makeK c perm es => makeM c (cf (initOf P c)) (permM perm (evV es))
  | .mcall c m f o es => callM (cf f) (mtOf P f) (consR (insM c m (frzM (evE o))) (evA es ((mtOf P f).drop 1)))
  | .mcallL c m f i es => callM (cf f) (mtOf P f) (consR (insM c m (varM i)) (evA es ((mtOf P f).drop 1)))
  | .mcallK c m f perm o es => callM (cf f) (mtOf P f) (consR (insM c m (frzM (evE o))) (dataR (permM perm (evV es))))
  | .bi b es => biM (biD b) (evPs es)
  | .isi b e => isM P.cls.length b (evE e)
  | .bm m o es => bmM (bmD m) (dataM (evE o)) (evPs es)
  | .bx m i e => match m with
    | .append => appendM i (evE e)
    | .popAt => popM i (evE e)
    | .extend => extendM i (evE e)
  | .fld o f => fldM f (evE o)
  | .isT a => isTM (evE a)
  | .frz a => frzM (evE a)
  | .dn0 => dn0M
  | .dn1 k v => dn1M (consV (evE k) (consV (evE v) nilD))
  | .notT a => notTM (evE a)
  | .dz a b => dzM (consV (evE a) (consV (evE b) nilD))
  | .dc vs t it c k e => dcM vs t (evI it) (evC c) (evE k) (evE e)
  | .lc vs t it c e => lcM vs t (evI it) (evC c) (evE e)
  | .lc2 vs vs1 t it c t1 it1 c1 e => lcM2 vs vs1 t (evI it) (evC c) t1 (evI it1) (evC c1) (evE e)
def evV : Es → Env' → Option (List D × Env')
  | .nil => nilD
  | .cons e es => consV (evE e) (evV es)
def evPs : Es → Env' → Option (List R × Env')
  | .nil => nilR
  | .cons e es => consP (evE e) (evPs es)
def evR : Es → Env' → Option (List R × Env')
  | .nil => nilR
  | .cons e es => consR (keepM (evE e)) (evR es)
def evA : Es → List Bool → Env' → Option (List R × Env')
  | .nil => fun _ => nilR
  | .cons e es => fun ms => match ms with
    | true :: ms => consR (lendM (evE e)) (evA es ms)
    | _ :: ms => consR (frzM (evE e)) (evA es ms)
    | [] => consR (frzM (evE e)) (evA es [])
def evO : Eo → Env' → Option (Option Int × Env')
  | .no => noO
  | .so e => soM (evE e)
def evC : Eo → Env' → Option (Bool × Env')
  | .no => trueM
  | .so e => boolM (evE e)
def evI : It → Env' → Option (List D × Env')
  | .seq e => seqM (evE e)
  | .rng1 e => rng1M (evE e)
  | .rng2 a b => rng2M (evE a) (evE b)
  | .enm e => enmM (evE e)
  | .zip2 a b => zipM (consV (evE a) (consV (evE b) nilD))
  | .zip3 _ _ _ => badI
end
mutual
def exS : S → Env' → Option (Fl × Env')
  | .asg t e => match t with
    | .nm i => asgM i (evE P cf e)
    | .tu is => asgTuM is (evE P cf e)
  | .par is es => parM is (evR P cf es)
  | .setIx i ix e => setIxM i (evE P cf ix) (evE P cf e)
  | .setK i k e => setKM i (evE P cf k) (evE P cf e)
  | .asgT ts e => asgTM (exT ts) (evE P cf e)
  | .setF i f e => setFM i f (evE P cf e)
  | .ex e => exM (evE P cf e)
  | .ret e => retM (evE P cf e)
  | .retN => retNM
  | .ite c a b => iteM (evE P cf c) (exSs a) (exSs b)
  | .for_ t it b => forM t (evI P cf it) (exSs b)
  | .whl c b => whlL (boolM (evE P cf c)) (exSs b) P.wf
  | .forW vs t it b => forWM vs t (evI P cf it) (exSs b)
  | .whlW vs c b => whlWL vs (boolM (evE P cf c)) (exSs b) P.wf
  | .pass => nextM
  | .brk => brkM
  | .cnt => cntM
  | .bad => badM
def exSs : Ss → Env' → Option (Fl × Env')
  | .nil => nextM
  | .cons s ss => consM (exS s) (exSs ss)
  | .wipe vs ss => wipeM vs (exSs ss)
  | .fz i ss => fzM i (exSs ss)
def exT : Ts → List D → Env' → Option Env'
  | .nil => tNilM
  | .nm i ts => tNmM i (exT ts)
  | .ix i e ts => tIxM i (evE P cf e) (exT ts)
end
end
/-- of the parameters' slots only what was lent goes back -/
def lentAt (env : Env') (i : Nat) : Sl := match env[i]? with
  | some (.ow true d) => .ow true d
  | _ => .no
def cleanE (n : Nat) (env : Env') : List Sl := (List.range n).map (lentAt env)
def endR : Option (Fl × Env') → Nat → Option (R × List Sl)
  | some (.next, env), n => some (.dt .non, cleanE n env)
  | some (.ret r, env), n => some (r, cleanE n env)
  | _, _ => none
def startE (n : Nat) (ss : List Sl) : Env' := ss ++ List.replicate (n - ss.length) .no
def runN (P : Pg) : Nat → Nat → List Sl → Option (R × List Sl)
  | 0, _, _ => none
  | k + 1, f, ss => match P.fns[f]? with
    | some fn => if ss.length = fn.ps.length then endR (exSs P (runN P k) fn.body (startE fn.n ss)) fn.ps.length else none
    | none => none
end VI
namespace VI
open PySem L2

def Ex (F G : Hp) : Prop := ∀ a o, F a = some o → G a = some o
theorem Ex.refl (F : Hp) : Ex F F := fun _ _ h => h
theorem Ex.trans {F G I : Hp} (a : Ex F G) (b : Ex G I) : Ex F I := fun x o h => b x o (a x o h)
theorem Ex.new {F : Hp} {p : Addr} {o : HO} (h : F p = none) : Ex F (upd F p o) := fun a u e => by
  rw [upd_ne (ne_of_none e h)]; exact e
theorem Ex.sqT {K : PySem.W.Frag} {F G : Hp} {a : Addr} {xs : List V} (e : Ex F G) (h : SqT K F a xs) : SqT K G a xs := by
  rcases h with (h | ⟨o, h⟩) | h
  · exact .inl (.inl (e _ _ h))
  · exact .inl (.inr ⟨o, e _ _ h⟩)
  · exact .inr h
theorem Ex.sqL {K : PySem.W.Frag} {F G : Hp} {a : Addr} {xs : List V} (e : Ex F G) (h : SqL K F a xs) : SqL K G a xs := by
  rcases h with (h | ⟨o, h⟩) | h
  · exact .inl (.inl (e _ _ h))
  · exact .inl (.inr ⟨o, e _ _ h⟩)
  · exact .inr h

def TupObj (o : Obj) : Prop := o.cls = .type "tuple" ∧ o.dict = none
/-- a tuple whose record is known -/
def TpT (F : Hp) (a : Addr) (xs : List V) : Prop := ∃ o : Obj, F a = some (.frz o (.tup xs)) ∧ TupObj o
theorem TpT.sq {K : PySem.W.Frag} {F : Hp} {a : Addr} {xs : List V} (h : TpT F a xs) : SqT K F a xs := let ⟨o, h, _⟩ := h; .inl (.inr ⟨o, h⟩)
theorem Ex.tpT {F G : Hp} {a : Addr} {xs : List V} (e : Ex F G) (h : TpT F a xs) : TpT G a xs := let ⟨o, h, t⟩ := h; ⟨o, e _ _ h, t⟩
def keyD : Key → D
  | .inl i => .int i
  | .inr x => .str x

section
variable (K : PySem.W.Frag) (ct : Nat → Addr)
mutual
/-- a value of the layer stands for data, over what is frozen -/
inductive Rp (F : Hp) : V → D → Prop
  | non : Rp F .non .non
  | bl (b : Bool) : Rp F (.bl b) (.bl b)
  | int (i : Int) : Rp F (.int i) (.int i)
  | str (x : Str) : Rp F (.str x) (.str x)
  | tup {a : Addr} {xs : List V} {ds : List D} (h : TpT F a xs) (r : RpA F xs ds) : Rp F (.ref a) (.tup ds)
  | lst {a : Addr} {xs : List V} {ds : List D} (h : F a = some (.lst xs)) (r : RpA F xs ds) : Rp F (.ref a) (.lst ds)
  | dic {a : Addr} {kvs : List (Key × V)} {l : List (D × D)} (h : F a = some (.dK kvs)) (r : RpK F kvs l) : Rp F (.ref a) (.dic l)
  | ins {a dx : Addr} {fs : List (Str × V)} {c : Nat} {l : List (Str × D)} (h : F a = some (.ins (ct c) dx fs)) (h' : F dx = some (.own a)) (r : RpF F fs l) : Rp F (.ref a) (.ins c l)
  | scr {a : Addr} {ns : List Int} (h : SqL K F a (ns.map V.int)) : Rp F (.ref a) (.scr ns)
inductive RpA (F : Hp) : List V → List D → Prop
  | nil : RpA F [] []
  | cons {v : V} {vs : List V} {d : D} {ds : List D} (h : Rp F v d) (r : RpA F vs ds) : RpA F (v :: vs) (d :: ds)
inductive RpK (F : Hp) : List (Key × V) → List (D × D) → Prop
  | nil : RpK F [] []
  | cons {k : Key} {v : V} {kvs : List (Key × V)} {d : D} {l : List (D × D)} (h : Rp F v d) (r : RpK F kvs l) : RpK F ((k, v) :: kvs) ((keyD k, d) :: l)
inductive RpF (F : Hp) : List (Str × V) → List (Str × D) → Prop
  | nil : RpF F [] []
  | cons {f : Str} {v : V} {fs : List (Str × V)} {d : D} {l : List (Str × D)} (h : Rp F v d) (r : RpF F fs l) : RpF F ((f, v) :: fs) ((f, d) :: l)
end
end
section
variable {K : PySem.W.Frag} {ct : Nat → Addr} {F G : Hp}
mutual
theorem Rp.mono (e : Ex F G) : ∀ {v : V} {d : D}, Rp K ct F v d → Rp K ct G v d
  | _, _, .non => .non
  | _, _, .bl b => .bl b
  | _, _, .int i => .int i
  | _, _, .str x => .str x
  | _, _, .tup h r => .tup (e.tpT h) (RpA.mono e r)
  | _, _, .lst h r => .lst (e _ _ h) (RpA.mono e r)
  | _, _, .dic h r => .dic (e _ _ h) (RpK.mono e r)
  | _, _, .ins h h' r => .ins (e _ _ h) (e _ _ h') (RpF.mono e r)
  | _, _, .scr h => .scr (e.sqL h)
theorem RpA.mono (e : Ex F G) : ∀ {vs : List V} {ds : List D}, RpA K ct F vs ds → RpA K ct G vs ds
  | _, _, .nil => .nil
  | _, _, .cons h r => .cons (Rp.mono e h) (RpA.mono e r)
theorem RpK.mono (e : Ex F G) : ∀ {vs : List (Key × V)} {ds : List (D × D)}, RpK K ct F vs ds → RpK K ct G vs ds
  | _, _, .nil => .nil
  | _, _, .cons h r => .cons (Rp.mono e h) (RpK.mono e r)
theorem RpF.mono (e : Ex F G) : ∀ {vs : List (Str × V)} {ds : List (Str × D)}, RpF K ct F vs ds → RpF K ct G vs ds
  | _, _, .nil => .nil
  | _, _, .cons h r => .cons (Rp.mono e h) (RpF.mono e r)
end
theorem RpA.length : ∀ {vs : List V} {ds : List D}, RpA K ct F vs ds → vs.length = ds.length
  | _, _, .nil => rfl
  | _, _, .cons _ r => congrArg (· + 1) (RpA.length r)
theorem RpA.get : ∀ {vs : List V} {ds : List D} {i : Nat} {d : D}, RpA K ct F vs ds → ds[i]? = some d → ∃ v, vs[i]? = some v ∧ Rp K ct F v d
  | _, _, _, _, .nil, e => by simp at e
  | _, _, 0, _, .cons h _, e => by simp at e; subst e; exact ⟨_, rfl, h⟩
  | _, _, i + 1, d, .cons _ r, e => by
    obtain ⟨v, h1, h2⟩ := RpA.get (i := i) (d := d) r (by simpa using e)
    exact ⟨v, by simpa using h1, h2⟩
theorem RpA.get' : ∀ {vs : List V} {ds : List D} {i : Nat} {v : V}, RpA K ct F vs ds → vs[i]? = some v → ∃ d, ds[i]? = some d ∧ Rp K ct F v d
  | _, _, _, _, .nil, e => by simp at e
  | _, _, 0, _, .cons h _, e => by simp at e; subst e; exact ⟨_, rfl, h⟩
  | _, _, i + 1, d, .cons _ r, e => by
    obtain ⟨v, h1, h2⟩ := RpA.get' (i := i) (v := d) r (by simpa using e)
    exact ⟨v, by simpa using h1, h2⟩
theorem RpA.append : ∀ {vs ws : List V} {ds es : List D}, RpA K ct F vs ds → RpA K ct F ws es → RpA K ct F (vs ++ ws) (ds ++ es)
  | _, _, _, _, .nil, r => r
  | _, _, _, _, .cons h t, r => .cons h (RpA.append t r)
theorem RpA.take : ∀ {vs : List V} {ds : List D} (n : Nat), RpA K ct F vs ds → RpA K ct F (vs.take n) (ds.take n)
  | _, _, 0, _ => .nil
  | _, _, _ + 1, .nil => .nil
  | _, _, n + 1, .cons r t => .cons r (RpA.take n t)
theorem RpA.drop : ∀ {vs : List V} {ds : List D} (n : Nat), RpA K ct F vs ds → RpA K ct F (vs.drop n) (ds.drop n)
  | _, _, 0, r => r
  | _, _, _ + 1, .nil => .nil
  | _, _, n + 1, .cons _ t => RpA.drop n t
theorem RpA.set {v : V} {d : D} (h : Rp K ct F v d) : ∀ {vs : List V} {ds : List D} (i : Nat), RpA K ct F vs ds → RpA K ct F (vs.set i v) (ds.set i d)
  | _, _, _, .nil => .nil
  | _, _, 0, .cons _ t => .cons h t
  | _, _, i + 1, .cons q t => .cons q (RpA.set h i t)
theorem RpA.eraseIdx : ∀ {vs : List V} {ds : List D} (i : Nat), RpA K ct F vs ds → RpA K ct F (vs.eraseIdx i) (ds.eraseIdx i)
  | _, _, _, .nil => .nil
  | _, _, 0, .cons _ t => t
  | _, _, i + 1, .cons q t => .cons q (RpA.eraseIdx i t)
theorem RpA.rep {vs : List V} {ds : List D} (r : RpA K ct F vs ds) : ∀ k : Nat, RpA K ct F (List.replicate k vs).flatten (List.replicate k ds).flatten
  | 0 => .nil
  | k + 1 => by
    rw [List.replicate_succ, List.replicate_succ, List.flatten_cons, List.flatten_cons]
    exact RpA.append r (RpA.rep r k)
theorem RpF.look : ∀ {fs : List (Str × V)} {l : List (Str × D)} {f : Str} {d : D}, RpF K ct F fs l → l.lookup f = some d → ∃ v, fs.lookup f = some v ∧ Rp K ct F v d
  | _, _, _, _, .nil, e => by simp at e
  | _, _, f, d, .cons (f := g) h r, e => by
    rw [List.lookup_cons] at e ⊢
    cases q : f == g with
    | true => rw [q] at e; cases e; exact ⟨_, rfl, h⟩
    | false => rw [q] at e; exact RpF.look r e
theorem RpF.lookN : ∀ {fs : List (Str × V)} {l : List (Str × D)} {f : Str}, RpF K ct F fs l → l.lookup f = none → fs.lookup f = none
  | _, _, _, .nil, e => rfl
  | _, _, f, .cons (f := g) h r, e => by
    rw [List.lookup_cons] at e ⊢
    cases q : f == g with
    | true => rw [q] at e; cases e
    | false => rw [q] at e; exact RpF.lookN r e
theorem RpF.length : ∀ {fs : List (Str × V)} {l : List (Str × D)}, RpF K ct F fs l → fs.length = l.length
  | _, _, .nil => rfl
  | _, _, .cons _ r => congrArg (· + 1) (RpF.length r)
theorem RpK.length : ∀ {fs : List (Key × V)} {l : List (D × D)}, RpK K ct F fs l → fs.length = l.length
  | _, _, .nil => rfl
  | _, _, .cons _ r => congrArg (· + 1) (RpK.length r)
theorem keyB_eq (k : Key) (x : Str) (d : D) : keyB x (keyD k, d) = decide (k = .inr x) := by
  cases k with
  | inl i => rfl
  | inr y => simp [keyB, keyD]
theorem RpK.any {x : Str} : ∀ {fs : List (Key × V)} {l : List (D × D)}, RpK K ct F fs l → (fs.any fun kv => decide (kv.1 = Sum.inr x)) = l.any (keyB x)
  | _, _, .nil => rfl
  | _, _, .cons (k := k) (d := d) h r => by rw [List.any_cons, List.any_cons, keyB_eq, RpK.any r]
theorem valV_any (x : Key) : ∀ fs : List (Key × V), (valV fs x).isSome = fs.any fun kv => decide (kv.1 = x)
  | [] => rfl
  | p :: fs => by
    have ih := valV_any x fs
    unfold valV at ih ⊢
    rw [Option.isSome_map] at ih ⊢
    rw [List.find?_cons, List.any_cons]
    cases q : decide (p.1 = x) with
    | true => rfl
    | false => rw [Bool.false_or]; exact ih
theorem RpK.isSome {x : Str} {fs : List (Key × V)} {l : List (D × D)} (r : RpK K ct F fs l) : (valV fs (Sum.inr x)).isSome = l.any (keyB x) := by
  rw [valV_any, r.any]
theorem RpK.app : ∀ {fs : List (Key × V)} {l : List (D × D)} {k : Key} {v : V} {d : D}, RpK K ct F fs l → Rp K ct F v d → RpK K ct F (fs ++ [(k, v)]) (l ++ [(keyD k, d)])
  | _, _, _, _, _, .nil, h => .cons h .nil
  | _, _, _, _, _, .cons q r, h => .cons q (RpK.app r h)
theorem RpK.mapk {x : Str} {v : V} {d : D} (h : Rp K ct F v d) : ∀ {fs : List (Key × V)} {l : List (D × D)}, RpK K ct F fs l → RpK K ct F (fs.map fun kv => if kv.1 = Sum.inr x then (kv.1, v) else kv) (l.map fun p => if keyB x p = true then (p.1, d) else p)
  | _, _, .nil => .nil
  | _, _, .cons (k := k) (d := d') q r => by
    rw [List.map_cons, List.map_cons, keyB_eq]
    by_cases e : k = Sum.inr x
    · rw [if_pos e, if_pos (by simpa using e)]; exact .cons h (RpK.mapk h r)
    · rw [if_neg e, if_neg (by simpa using e)]; exact .cons q (RpK.mapk h r)
theorem RpK.put {x : Str} {v : V} {d : D} {fs : List (Key × V)} {l : List (D × D)} (r : RpK K ct F fs l) (h : Rp K ct F v d) : RpK K ct F (putK fs (Sum.inr x) v) (dPut l x d) := by
  unfold putK dPut
  rw [r.any]
  by_cases e : l.any (keyB x) = true
  · rw [if_pos e, if_pos e]; exact RpK.mapk h r
  · rw [if_neg e, if_neg e]; exact RpK.app r h
theorem RpF.putNew {f : Str} {v : V} {d : D} (h : Rp K ct F v d) : ∀ {fs : List (Str × V)} {l : List (Str × D)}, RpF K ct F fs l → l.lookup f = none → RpF K ct F (putF f v fs) (l ++ [(f, d)])
  | _, _, .nil, _ => .cons h .nil
  | _, _, .cons (f := g) (v := w) (fs := fs) (l := l) q r, e => by
    rw [List.lookup_cons] at e
    have hne : ¬ g = f := by
      intro z; subst z; simp at e
    have hb : (f == g) = false := by simpa using fun z => hne z.symm
    rw [hb] at e
    show RpF K ct F (if g = f then (g, v) :: fs else (g, w) :: putF f v fs) _
    rw [if_neg hne]
    exact .cons q (RpF.putNew h r e)
end

section
variable (K : PySem.W.Frag) (ct : Nat → Addr)
/-- an object of one's own -/
def OwnAt (F H : Hp) (a : Addr) : D → Prop
  | .lst ds => ∃ xs, H a = some (.lst xs) ∧ RpA K ct F xs ds
  | .dic l => ∃ kvs, H a = some (.dK kvs) ∧ RpK K ct F kvs l
  | .ins c l => ∃ dx fs, H a = some (.ins (ct c) dx fs) ∧ F dx = some (.own a) ∧ RpF K ct F fs l
  | _ => False
structure Rel (F H : Hp) (σ : St) (env : Env') : Prop where
  sub : Ex F H
  len : σ.length = env.length
  va : ∀ (i : Nat) (d : D), env[i]? = some (.va d) → ∃ v, σ[i]? = some (some v) ∧ Rp K ct F v d
  ow : ∀ (i : Nat) (b : Bool) (d : D), env[i]? = some (.ow b d) → ∃ a, σ[i]? = some (some (.ref a)) ∧ F a = none ∧ OwnAt K ct F H a d
  dj : ∀ (i j : Nat) (b b' : Bool) (d d' : D) (a : Addr), env[i]? = some (.ow b d) → env[j]? = some (.ow b' d') → σ[i]? = some (some (.ref a)) → σ[j]? = some (some (.ref a)) → i = j
/-- where a run began: what was frozen, the heap, the objects that it may change, the slots -/
structure Fm where
  F : Hp
  H : Hp
  O : Addr → Prop
  L : St
  W : Addr → Prop
def foot (σ : St) (env : Env') (a : Addr) : Prop := ∃ (i : Nat) (b : Bool) (d : D), env[i]? = some (.ow b d) ∧ σ[i]? = some (some (.ref a))
structure Inn (z : Fm) (F H : Hp) (σ : St) (env : Env') : Prop where
  ex : Ex z.F F
  keep : ∀ (a : Addr) (o : HO), z.H a = some o → ¬ z.O a → H a = some o
  nofz : ∀ (a : Addr), z.H a ≠ none → ¬ z.O a → F a = z.F a
  th : ∀ (a : Addr), z.H a ≠ none → H a ≠ none
  fo : ∀ (a : Addr), foot σ env a → z.O a ∨ z.H a = none
  lent : ∀ (i : Nat) (d : D), env[i]? = some (.ow true d) → σ[i]? = z.L[i]?
  tz : ∀ (a : Addr), z.W a → z.H a ≠ none
  own : ∀ (i : Nat) (d : D) (a : Addr), env[i]? = some (.ow false d) → σ[i]? = some (some (.ref a)) → ¬ z.W a
structure RelB (z : Fm) (F H : Hp) (σ : St) (env : Env') : Prop where
  r : Rel K ct F H σ env
  n : Inn z F H σ env
def Res (z : Fm) (F H : Hp) (σ : St) (env : Env') (v : V) : R → Prop
  | .dt d => Rp K ct F v d
  | .nw d => ∃ a, v = .ref a ∧ F a = none ∧ OwnAt K ct F H a d ∧ ¬ foot σ env a ∧ z.H a = none
  | .sl i => σ[i]? = some (some v)
/-- what an operand is at the time -/
def OpAt (F H : Hp) (v : V) (d : D) : Prop := Rp K ct F v d ∨ ∃ a, v = .ref a ∧ F a = none ∧ OwnAt K ct F H a d
end
section
variable {K : PySem.W.Frag} {ct : Nat → Addr} {z : Fm} {F G H : Hp} {σ : St} {env : Env'} {v : V} {d : D} {r : R} {a : Addr}
theorem OwnAt.obj (h : OwnAt K ct F H a d) : ∃ o, H a = some o := by
  cases d <;> first
    | exact h.elim
    | (obtain ⟨_, e, _⟩ := h; exact ⟨_, e⟩)
    | (obtain ⟨_, _, e, _⟩ := h; exact ⟨_, e⟩)
theorem OwnAt.mono (e : Ex F G) (h : OwnAt K ct F H a d) : OwnAt K ct G H a d := by
  cases d with
  | lst ds => obtain ⟨xs, q, r⟩ := h; exact ⟨xs, q, r.mono e⟩
  | dic l => obtain ⟨xs, q, r⟩ := h; exact ⟨xs, q, r.mono e⟩
  | ins c l => obtain ⟨dx, fs, q, q', r⟩ := h; exact ⟨dx, fs, q, e _ _ q', r.mono e⟩
  | _ => exact h.elim
theorem OwnAt.heap {H' : Hp} (e : H' a = H a) (h : OwnAt K ct F H a d) : OwnAt K ct F H' a d := by
  cases d with
  | lst ds => obtain ⟨xs, q, r⟩ := h; exact ⟨xs, e.trans q, r⟩
  | dic l => obtain ⟨xs, q, r⟩ := h; exact ⟨xs, e.trans q, r⟩
  | ins c l => obtain ⟨dx, fs, q, q', r⟩ := h; exact ⟨dx, fs, e.trans q, q', r⟩
  | _ => exact h.elim
/-- an object is frozen -/
theorem OwnAt.freeze (h : OwnAt K ct F H a d) (hF : F a = none) : ∃ o, H a = some o ∧ Rp K ct (upd F a o) (.ref a) d := by
  cases d with
  | lst ds => obtain ⟨xs, q, r⟩ := h; exact ⟨_, q, .lst upd_same (r.mono (Ex.new hF))⟩
  | dic l => obtain ⟨xs, q, r⟩ := h; exact ⟨_, q, .dic upd_same (r.mono (Ex.new hF))⟩
  | ins c l =>
    obtain ⟨dx, fs, q, q', r⟩ := h
    exact ⟨_, q, .ins upd_same (by rw [upd_ne (ne_of_none q' hF)]; exact q') (r.mono (Ex.new hF))⟩
  | _ => exact h.elim
theorem OpAt.of (R0 : RelB K ct z F H σ env) (h : Res K ct z F H σ env v r) (e : opD env r = some d) : OpAt K ct F H v d := by
  cases r with
  | dt d' => cases e; exact .inl h
  | nw d' => cases e; obtain ⟨a, e1, e2, e3, _⟩ := h; exact .inr ⟨a, e1, e2, e3⟩
  | sl i =>
    unfold opD at e
    cases q : env[i]? with
    | none => simp [q] at e
    | some s =>
      cases s with
      | ow b d' =>
        simp only [q, Option.some.injEq] at e
        subst e
        obtain ⟨a, h1, h2, h3⟩ := R0.r.ow i b d' q
        have h' : σ[i]? = some (some v) := h
        rw [h1] at h'
        cases h'
        exact .inr ⟨a, rfl, h2, h3⟩
      | _ => simp [q] at e
end
end VI
namespace VI
open PySem L2
theorem set_at {α : Type} {l : List α} {i j : Nat} {x y : α} (h : (l.set i x)[j]? = some y) : (i = j ∧ x = y) ∨ (i ≠ j ∧ l[j]? = some y) := by
  rw [List.getElem?_set] at h
  by_cases e : i = j
  · rw [if_pos e] at h
    split at h
    · cases h; exact .inl ⟨e, rfl⟩
    · cases h
  · rw [if_neg e] at h; exact .inr ⟨e, h⟩
theorem set_self {α : Type} {l : List α} {i : Nat} {x y : α} (h : l[i]? = some y) : (l.set i x)[i]? = some x :=
  List.getElem?_set_self (List.getElem?_eq_some_iff.mp h).1
theorem set_ne {α : Type} {l : List α} {i j : Nat} {x : α} (h : i ≠ j) : (l.set i x)[j]? = l[j]? := List.getElem?_set_ne h
section
variable {K : PySem.W.Frag} {ct : Nat → Addr} {z : Fm} {F G H H' : Hp} {σ : St} {env : Env'} {v : V} {d d' : D} {r : R} {a : Addr} {i : Nat} {b : Bool}
/-- new objects that nobody asks for -/
theorem RelB.heap (R : RelB K ct z F H σ env) (e : Ex H H') : RelB K ct z F H' σ env where
  r := ⟨R.r.sub.trans e, R.r.len, R.r.va, fun i b d q => by
    obtain ⟨a, h1, h2, h3⟩ := R.r.ow i b d q
    obtain ⟨o, ho⟩ := h3.obj
    exact ⟨a, h1, h2, h3.heap ((e a o ho).trans ho.symm)⟩, R.r.dj⟩
  n := ⟨R.n.ex, fun a o h1 h2 => e a o (R.n.keep a o h1 h2), R.n.nofz, fun a h q => by
    cases w : H a with
    | none => exact R.n.th a h w
    | some o =>
      rw [e a o w] at q
      exact (nomatch q), R.n.fo, R.n.lent, R.n.tz, R.n.own⟩
theorem foot_of (R : RelB K ct z F H σ env) (q : env[i]? = some (.ow b d)) : ∃ a, σ[i]? = some (some (.ref a)) ∧ F a = none ∧ OwnAt K ct F H a d ∧ foot σ env a := by
  obtain ⟨a, h1, h2, h3⟩ := R.r.ow i b d q
  exact ⟨a, h1, h2, h3, i, b, d, q, h1⟩
/-- an object that no slot owns is frozen -/
theorem RelB.fz {o : HO} (R : RelB K ct z F H σ env) (h : H a = some o) (hF : F a = none) (nf : ¬ foot σ env a) (hz : z.H a = none ∨ z.O a) : RelB K ct z (upd F a o) H σ env where
  r := ⟨fun x u q => by
      by_cases e : x = a
      · subst e; rw [upd_same] at q; cases q; exact h
      · rw [upd_ne e] at q; exact R.r.sub x u q, R.r.len, fun i d q => by
      obtain ⟨v, h1, h2⟩ := R.r.va i d q
      exact ⟨v, h1, h2.mono (Ex.new hF)⟩, fun i b d q => by
      obtain ⟨c, h1, h2, h3⟩ := R.r.ow i b d q
      have hne : c ≠ a := fun e => nf (e ▸ ⟨i, b, d, q, h1⟩)
      exact ⟨c, h1, by rw [upd_ne hne]; exact h2, h3.mono (Ex.new hF)⟩, R.r.dj⟩
  n := ⟨R.n.ex.trans (Ex.new hF), R.n.keep, fun c h1 h2 => by
      have hne : c ≠ a := fun e => by
        subst e
        rcases hz with q | q
        · exact h1 q
        · exact h2 q
      rw [upd_ne hne]; exact R.n.nofz c h1 h2, R.n.th, R.n.fo, R.n.lent, R.n.tz, R.n.own⟩
/-- a new object that is only read from now on -/
theorem RelB.frzNew (R : RelB K ct z F H σ env) (h : Res K ct z F H σ env v (.nw d)) : ∃ F', Ex F F' ∧ RelB K ct z F' H σ env ∧ Rp K ct F' v d := by
  obtain ⟨a, rfl, hF, ho, nf, hz⟩ := h
  obtain ⟨o, e, q⟩ := ho.freeze hF
  exact ⟨_, Ex.new hF, R.fz e hF nf (.inl hz), q⟩
/-- a slot's object changes kind: forgotten -/
theorem RelB.forget (R : RelB K ct z F H σ env) (q : env[i]? = some (.ow b d)) : RelB K ct z F H σ (env.set i .no) where
  r := ⟨R.r.sub, by rw [List.length_set]; exact R.r.len, fun j d h => by
      rcases set_at h with ⟨_, e⟩ | ⟨_, h⟩
      · cases e
      · exact R.r.va j d h, fun j b d h => by
      rcases set_at h with ⟨_, e⟩ | ⟨_, h⟩
      · cases e
      · exact R.r.ow j b d h, fun i j b b' d d' a h1 h2 h3 h4 => by
      rcases set_at h1 with ⟨_, e⟩ | ⟨_, h1⟩
      · cases e
      rcases set_at h2 with ⟨_, e⟩ | ⟨_, h2⟩
      · cases e
      exact R.r.dj i j b b' d d' a h1 h2 h3 h4⟩
  n := ⟨R.n.ex, R.n.keep, R.n.nofz, R.n.th, fun a ⟨j, b, d, h, h'⟩ => by
      rcases set_at h with ⟨_, e⟩ | ⟨_, h⟩
      · cases e
      · exact R.n.fo a ⟨j, b, d, h, h'⟩, fun j d h => by
      rcases set_at h with ⟨_, e⟩ | ⟨_, h⟩
      · cases e
      · exact R.n.lent j d h, R.n.tz, fun j d a h h' => by
      rcases set_at h with ⟨_, e⟩ | ⟨_, h⟩
      · cases e
      · exact R.n.own j d a h h'⟩
/-- a slot's object is frozen -/
theorem RelB.frzSlot (R : RelB K ct z F H σ env) (q : env[i]? = some (.ow b d)) : ∃ F' v, Ex F F' ∧ σ[i]? = some (some v) ∧ Rp K ct F' v d ∧ RelB K ct z F' H σ (env.set i (.va d)) := by
  obtain ⟨a, h1, h2, h3, hf⟩ := foot_of R q
  obtain ⟨o, e, hr⟩ := h3.freeze h2
  have nf : ¬ foot σ (env.set i .no) a := fun ⟨j, b', d', h, h'⟩ => by
    rcases set_at h with ⟨_, e⟩ | ⟨hne, h⟩
    · cases e
    · exact hne (R.r.dj i j b b' d d' a q h h1 h')
  have hz : z.H a = none ∨ z.O a := (R.n.fo a hf).symm
  have R1 := (R.forget q).fz e h2 nf hz
  have hl : i < env.length := (List.getElem?_eq_some_iff.mp q).1
  refine ⟨_, .ref a, Ex.new h2, h1, hr, ⟨R1.r.sub, by rw [List.length_set]; exact R.r.len, fun j d2 h => ?_, fun j b2 d2 h => ?_, fun j k b2 b3 d2 d3 c g1 g2 g3 g4 => ?_⟩, ⟨R1.n.ex, R1.n.keep, R1.n.nofz, R1.n.th, fun c ⟨j, b2, d2, h, h'⟩ => ?_, fun j d2 h => ?_, R.n.tz, fun j d2 c h h' => ?_⟩⟩
  · rcases set_at h with ⟨rfl, e⟩ | ⟨hne, h⟩
    · cases e; exact ⟨_, h1, hr⟩
    · exact R1.r.va j d2 (by rw [set_ne hne]; exact h)
  · rcases set_at h with ⟨rfl, e⟩ | ⟨hne, h⟩
    · cases e
    · exact R1.r.ow j b2 d2 (by rw [set_ne hne]; exact h)
  · rcases set_at g1 with ⟨rfl, e⟩ | ⟨n1, g1⟩
    · cases e
    rcases set_at g2 with ⟨rfl, e⟩ | ⟨n2, g2⟩
    · cases e
    exact R.r.dj j k b2 b3 d2 d3 c g1 g2 g3 g4
  · rcases set_at h with ⟨rfl, e⟩ | ⟨hne, h⟩
    · cases e
    · exact R.n.fo c ⟨j, b2, d2, h, h'⟩
  · rcases set_at h with ⟨rfl, e⟩ | ⟨hne, h⟩
    · cases e
    · exact R.n.lent j d2 h
  · rcases set_at h with ⟨rfl, e⟩ | ⟨hne, h⟩
    · cases e
    · exact R.n.own j d2 c h h'
/-- a value is kept -/
theorem RelB.frz (R : RelB K ct z F H σ env) (h : Res K ct z F H σ env v r) {env1 : Env'} (e : frz r env = some (d, env1)) : ∃ F', Ex F F' ∧ RelB K ct z F' H σ env1 ∧ Rp K ct F' v d := by
  cases r with
  | dt d' => cases e; exact ⟨F, Ex.refl F, R, h⟩
  | nw d' => cases e; exact R.frzNew h
  | sl i =>
    unfold VI.frz at e
    cases q : env[i]? with
    | none => simp [q] at e
    | some s =>
      cases s with
      | ow b d' =>
        simp only [q, Option.some.injEq, Prod.mk.injEq] at e
        obtain ⟨rfl, rfl⟩ := e
        obtain ⟨F', w, ex, h1, h2, R1⟩ := R.frzSlot q
        have h' : σ[i]? = some (some v) := h
        rw [h1] at h'
        cases h'
        exact ⟨F', ex, R1, h2⟩
      | _ => simp [q] at e
theorem free_not (h : free i env = true) : ∃ s, env[i]? = some s ∧ ∀ d, s ≠ .ow true d := by
  unfold free at h
  cases q : env[i]? with
  | none => simp [q] at h
  | some s =>
    refine ⟨s, rfl, fun d e => ?_⟩
    subst e
    simp [q] at h
/-- a name gets data -/
theorem RelB.putVa (R : RelB K ct z F H σ env) (hf : free i env = true) (h : Rp K ct F v d) : RelB K ct z F H (σ.set i (some v)) (env.set i (.va d)) := by
  obtain ⟨s, hs, ns⟩ := free_not hf
  have hl : i < env.length := (List.getElem?_eq_some_iff.mp hs).1
  have hlσ : i < σ.length := by rw [R.r.len]; exact hl
  refine ⟨⟨R.r.sub, by rw [List.length_set, List.length_set]; exact R.r.len, fun j d2 g => ?_, fun j b2 d2 g => ?_, fun j k b2 b3 d2 d3 c g1 g2 g3 g4 => ?_⟩, ⟨R.n.ex, R.n.keep, R.n.nofz, R.n.th, fun c ⟨j, b2, d2, g, g'⟩ => ?_, fun j d2 g => ?_, R.n.tz, fun j d2 c g g' => ?_⟩⟩
  · rcases set_at g with ⟨rfl, e⟩ | ⟨hne, g⟩
    · cases e; exact ⟨v, List.getElem?_set_self hlσ, h⟩
    · rw [set_ne hne]; exact R.r.va j d2 g
  · rcases set_at g with ⟨rfl, e⟩ | ⟨hne, g⟩
    · cases e
    · rw [set_ne hne]; exact R.r.ow j b2 d2 g
  · rcases set_at g1 with ⟨rfl, e⟩ | ⟨n1, g1⟩
    · cases e
    rcases set_at g2 with ⟨rfl, e⟩ | ⟨n2, g2⟩
    · cases e
    rw [set_ne n1] at g3
    rw [set_ne n2] at g4
    exact R.r.dj j k b2 b3 d2 d3 c g1 g2 g3 g4
  · rcases set_at g with ⟨rfl, e⟩ | ⟨hne, g⟩
    · cases e
    · rw [set_ne hne] at g'; exact R.n.fo c ⟨j, b2, d2, g, g'⟩
  · rcases set_at g with ⟨rfl, e⟩ | ⟨hne, g⟩
    · cases e
    · rw [set_ne hne]; exact R.n.lent j d2 g
  · rcases set_at g with ⟨rfl, e⟩ | ⟨hne, g⟩
    · cases e
    · rw [set_ne hne] at g'; exact R.n.own j d2 c g g'
/-- a name gets a new object -/
theorem RelB.putOw (R : RelB K ct z F H σ env) (hf : free i env = true) (h : Res K ct z F H σ env v (.nw d)) : RelB K ct z F H (σ.set i (some v)) (env.set i (.ow false d)) := by
  obtain ⟨s, hs, ns⟩ := free_not hf
  obtain ⟨a, rfl, hF, ho, nf, hz⟩ := h
  have hl : i < env.length := (List.getElem?_eq_some_iff.mp hs).1
  have hlσ : i < σ.length := by rw [R.r.len]; exact hl
  have hσ : (σ.set i (some (V.ref a)))[i]? = some (some (V.ref a)) := List.getElem?_set_self hlσ
  refine ⟨⟨R.r.sub, by rw [List.length_set, List.length_set]; exact R.r.len, fun j d2 g => ?_, fun j b2 d2 g => ?_, fun j k b2 b3 d2 d3 c g1 g2 g3 g4 => ?_⟩, ⟨R.n.ex, R.n.keep, R.n.nofz, R.n.th, fun c ⟨j, b2, d2, g, g'⟩ => ?_, fun j d2 g => ?_, R.n.tz, fun j d2 c g g' => ?_⟩⟩
  · rcases set_at g with ⟨rfl, e⟩ | ⟨hne, g⟩
    · cases e
    · rw [set_ne hne]; exact R.r.va j d2 g
  · rcases set_at g with ⟨rfl, e⟩ | ⟨hne, g⟩
    · cases e; exact ⟨a, hσ, hF, ho⟩
    · rw [set_ne hne]; exact R.r.ow j b2 d2 g
  · rcases set_at g1 with ⟨rfl, e⟩ | ⟨n1, g1⟩
    · rcases set_at g2 with ⟨rfl, e⟩ | ⟨n2, g2⟩
      · rfl
      · rw [hσ] at g3; cases g3
        rw [set_ne n2] at g4
        exact (nf ⟨k, b3, d3, g2, g4⟩).elim
    · rw [set_ne n1] at g3
      rcases set_at g2 with ⟨rfl, e⟩ | ⟨n2, g2⟩
      · rw [hσ] at g4; cases g4
        exact (nf ⟨j, b2, d2, g1, g3⟩).elim
      · rw [set_ne n2] at g4
        exact R.r.dj j k b2 b3 d2 d3 c g1 g2 g3 g4
  · rcases set_at g with ⟨rfl, e⟩ | ⟨hne, g⟩
    · rw [hσ] at g'; cases g'; exact .inr hz
    · rw [set_ne hne] at g'; exact R.n.fo c ⟨j, b2, d2, g, g'⟩
  · rcases set_at g with ⟨rfl, e⟩ | ⟨hne, g⟩
    · cases e
    · rw [set_ne hne]; exact R.n.lent j d2 g
  · rcases set_at g with ⟨rfl, e⟩ | ⟨hne, g⟩
    · rw [hσ] at g'; cases g'; exact fun w => R.n.tz _ w hz
    · rw [set_ne hne] at g'; exact R.n.own j d2 c g g'
/-- an object of a slot changes -/
theorem RelB.write (R : RelB K ct z F H σ env) (q : env[i]? = some (.ow b d)) (hσ : σ[i]? = some (some (.ref a))) (kp : ∀ c, c ≠ a → H' c = H c) (ho : OwnAt K ct F H' a d') : RelB K ct z F H' σ (env.set i (.ow b d')) := by
  obtain ⟨a', h1, hF, h3, hf⟩ := foot_of R q
  rw [hσ] at h1; cases h1
  have nz : ∀ c, z.H c ≠ none → ¬ z.O c → c ≠ a := fun c h1 h2 e => by
    subst e
    rcases R.n.fo c hf with w | w
    · exact h2 w
    · exact h1 w
  refine ⟨⟨fun c o g => ?_, by rw [List.length_set]; exact R.r.len, fun j d2 g => ?_, fun j b2 d2 g => ?_, fun j k b2 b3 d2 d3 c g1 g2 g3 g4 => ?_⟩, ⟨R.n.ex, fun c o g1 g2 => ?_, R.n.nofz, fun c g1 g2 => ?_, fun c ⟨j, b2, d2, g, g'⟩ => ?_, fun j d2 g => ?_, R.n.tz, fun j d2 c g g' => ?_⟩⟩
  · have hne : c ≠ a := ne_of_none g hF
    rw [kp c hne]; exact R.r.sub c o g
  · rcases set_at g with ⟨rfl, e⟩ | ⟨hne, g⟩
    · cases e
    · exact R.r.va j d2 g
  · rcases set_at g with ⟨rfl, e⟩ | ⟨hne, g⟩
    · cases e; exact ⟨a, hσ, hF, ho⟩
    · obtain ⟨c, h1, h2, h3'⟩ := R.r.ow j b2 d2 g
      have hca : c ≠ a := fun e => hne (R.r.dj i j b b2 d d2 a q g hσ (e ▸ h1))
      exact ⟨c, h1, h2, h3'.heap (kp c hca)⟩
  · have h1 : ∃ b4 d4, env[j]? = some (.ow b4 d4) := by
      rcases set_at g1 with ⟨rfl, e⟩ | ⟨_, g1⟩
      · exact ⟨b, d, q⟩
      · exact ⟨_, _, g1⟩
    have h2 : ∃ b4 d4, env[k]? = some (.ow b4 d4) := by
      rcases set_at g2 with ⟨rfl, e⟩ | ⟨_, g2⟩
      · exact ⟨b, d, q⟩
      · exact ⟨_, _, g2⟩
    obtain ⟨b4, d4, h1⟩ := h1
    obtain ⟨b5, d5, h2⟩ := h2
    exact R.r.dj j k b4 b5 d4 d5 c h1 h2 g3 g4
  · have hne := nz c (by rw [g1]; simp) g2
    rw [kp c hne]; exact R.n.keep c o g1 g2
  · by_cases hne : c = a
    · subst hne
      obtain ⟨o, w⟩ := ho.obj
      rw [w] at g2; cases g2
    · rw [kp c hne] at g2; exact R.n.th c g1 g2
  · rcases set_at g with ⟨rfl, e⟩ | ⟨hne, g⟩
    · exact R.n.fo c ⟨i, b, d, q, g'⟩
    · exact R.n.fo c ⟨j, b2, d2, g, g'⟩
  · rcases set_at g with ⟨rfl, e⟩ | ⟨hne, g⟩
    · cases e; exact R.n.lent i d q
    · exact R.n.lent j d2 g
  · rcases set_at g with ⟨rfl, e⟩ | ⟨hne, g⟩
    · cases e; exact R.n.own i d c q g'
    · exact R.n.own j d2 c g g'
/-- a frame that begins here -/
def here (L : St) (W : Addr → Prop) (F H : Hp) (σ : St) (env : Env') : Fm := ⟨F, H, foot σ env, L, W⟩
theorem RelB.start (R : RelB K ct z F H σ env) : RelB K ct (here z.L z.W F H σ env) F H σ env :=
  ⟨R.r, Ex.refl F, fun _ _ h _ => h, fun _ _ _ => rfl, fun _ h => h, fun a h => .inl h, R.n.lent, fun a w => R.n.th a (R.n.tz a w), R.n.own⟩
/-- .. and is told in the frame around it -/
theorem RelB.outer {F1 H1 : Hp} {σ1 : St} {env1 : Env'} (R : RelB K ct z F H σ env) (R1 : RelB K ct (here z.L z.W F H σ env) F1 H1 σ1 env1) : RelB K ct z F1 H1 σ1 env1 := by
  have key : ∀ a, z.H a ≠ none → ¬ z.O a → H a ≠ none ∧ ¬ foot σ env a := fun a h1 h2 => by
    cases q : z.H a with
    | none => exact (h1 q).elim
    | some o =>
      refine ⟨by rw [R.n.keep a o q h2]; simp, fun f => ?_⟩
      rcases R.n.fo a f with w | w
      · exact h2 w
      · exact h1 w
  refine ⟨R1.r, R.n.ex.trans R1.n.ex, fun a o h1 h2 => ?_, fun a h1 h2 => ?_, fun a h => R1.n.th a (R.n.th a h), fun a f => ?_, fun j d h => R1.n.lent j d h, R.n.tz, R1.n.own⟩
  · exact R1.n.keep a o (R.n.keep a o h1 h2) (key a (by rw [h1]; simp) h2).2
  · obtain ⟨k1, k2⟩ := key a h1 h2
    exact (R1.n.nofz a k1 k2).trans (R.n.nofz a h1 h2)
  · rcases R1.n.fo a f with w | w
    · exact R.n.fo a w
    · by_cases q : z.H a = none
      · exact .inr q
      · exact (R.n.th a q w).elim
end
end VI
/-! tuples that are made: their record is known -/
namespace VI
open PySem L2
section
variable {X : Cx}
theorem laidTup {pins : List (Addr × Obj)} {σ : St} {H : Hp} {s : Shared} {Q : VK} {its : List Value} {xs : List V} {t' : Nat} (I : L2.Inv X pins σ H s) (r : Vals xs its) (hz : xs.length ≤ sizeLine) (q : ∀ p o, H p = none → TupObj o → Q (.ref p) (upd H p (.frz o (.tup xs)))) :
    EP X pins σ Q (.ref s.heap.objs.size) { s with heap := s.heap.push { cls := .type "tuple", data := .seq its.toArray }, toks := t' } :=
  ⟨.ref s.heap.objs.size, upd H s.heap.objs.size (.frz { cls := .type "tuple", data := .seq its.toArray } (.tup xs)), I.laid (fun b ob q => Heap.get?_push_of_some _ q) (Nat.le_refl _) ⟨Heap.get?_push_size _ rfl, hz, its, r, PyProof.Rows.IsTup.new _ _⟩, rfl, q _ _ (I.hok.fresh (Nat.le_refl _)) ⟨rfl, rfl⟩⟩
def rCatF (K : PySem.W.Frag) : R2 := fun x y H Q => ∃ a b xs ys, x = .ref a ∧ y = .ref b ∧ SqT K H a xs ∧ SqT K H b ys ∧ xs.length + ys.length ≤ sizeLine ∧
  (xs = [] → Q (.ref b) H) ∧ (xs ≠ [] → ys = [] → Q (.ref a) H) ∧ (xs ≠ [] → ys ≠ [] → ∀ p o, H p = none → TupObj o → Q (.ref p) (upd H p (.frz o (.tup (xs ++ ys)))))
theorem op_catF : OpR X (binaryOp .Add) (rCatF X.K) := by
  intro pins s σ H x y v u Q I rx ry h
  obtain ⟨a, b, xs, ys, rfl, rfl, ha, hb, hz, q0, q1, q2⟩ := h
  cases rx
  cases ry
  obtain ⟨its, r1, p1, _⟩ := I.tuple ha
  obtain ⟨its2, r2, p2, _⟩ := I.tuple hb
  by_cases hx : xs = []
  · subst hx
    cases r1
    exact cat_tup0 p1 p2 ⟨.ref b, H, I, rfl, q0 rfl⟩
  · refine HT.cat_tup p1 p2 (fun z => hx (r1.nil_iff.mp z)) (fun z => ⟨.ref a, H, I, rfl, q1 hx (r2.nil_iff.mp z)⟩) (fun z => ?_) (by rw [← r1.length, ← r2.length]; exact hz)
    exact laidTup (t' := s.toks) I (r1.append r2) (by rw [List.length_append]; exact hz) (q2 hx (fun w => z (r2.nil_iff.mpr w)))
def rSlF (K : PySem.W.Frag) : V → Option Int → Option Int → Hp → VK → Prop := fun x lo hi H Q => ∃ a xs, x = .ref a ∧ SqT K H a xs ∧
  (HT.sIx xs.length 0 lo = 0 ∧ HT.sIx xs.length xs.length hi = xs.length → Q (.ref a) H) ∧ (¬ (HT.sIx xs.length 0 lo = 0 ∧ HT.sIx xs.length xs.length hi = xs.length) → ∀ p o, H p = none → TupObj o → Q (.ref p) (upd H p (.frz o (.tup (cutV xs lo hi)))))
theorem sl_tupF : SlR X (rSlF X.K) := by
  intro pins s σ H x v vl vu lo hi sl Q I rx hs pl pu h
  obtain ⟨a, xs, rfl, hx, q1, q2⟩ := h
  cases rx
  obtain ⟨its, r, ht, hz⟩ := I.tuple hx
  have hlen : its.toArray.size = xs.length := by rw [List.size_toArray]; exact r.length.symm
  refine ⟨"tuple", _, PyProof.Rows.slot_tuple_getitem.lookup, ht.typeIs, ?_⟩
  by_cases hw : HT.sIx xs.length 0 lo = 0 ∧ HT.sIx xs.length xs.length hi = xs.length
  · exact getItem_tuple_whole ht hs pl pu (by rw [hlen]; exact hw) ⟨.ref a, H, I, rfl, q1 hw⟩
  · refine HT.getItem_tuple_cut ht hs pl pu (by rw [hlen]; exact hw) ?_ (by rw [hlen]; exact hz)
    rw [hlen]
    exact laidTup (t' := s.toks) I ((r.drop (HT.sIx xs.length 0 lo)).take (HT.sIx xs.length xs.length hi - HT.sIx xs.length 0 lo)) (Nat.le_trans (cutV_length xs lo hi) hz) (q2 hw)
theorem call_tupleF : CallR X (.type "tuple") (fun xs H Q => ∃ p ys, xs = [.ref p] ∧ ((SqL X.K H p ys ∧ ∀ l o, H l = none → TupObj o → Q (.ref l) (upd H l (.frz o (.tup ys)))) ∨ (SqT X.K H p ys ∧ Q (.ref p) H))) := by
  intro pins s σ H xs us Q I r h
  obtain ⟨p, ys, rfl, h⟩ := h
  obtain ⟨u, rfl, rx⟩ := vals1 r
  cases rx
  rcases h with ⟨hq, q⟩ | ⟨hq, q⟩
  · obtain ⟨its, r', pl, hz⟩ := I.list hq
    have hlen := r'.length
    refine call_tuple_list pl.isList (fun h' kp => ?_) (by simp only [List.size_toArray] <;> omega)
    have I1 : L2.Inv X pins σ H { s with heap := h' } := I.kept (t' := s.toks) kp
    exact laidTup (s := { s with heap := h' }) (t' := s.toks) I1 r' hz q
  · obtain ⟨its, r', pl, hz⟩ := I.tuple hq
    exact call_tuple_same pl ⟨.ref p, H, I, rfl, q⟩
theorem call_divmodF : CallR X (.builtin "divmod") (fun xs H Q => ∃ i j, xs = [.int i, .int j] ∧ CDiv i j ∧ ∀ p o, H p = none → TupObj o → Q (.ref p) (upd H p (.frz o (.tup [.int (i / j), .int (i % j)])))) := by
  intro pins s σ H xs us Q I r h
  obtain ⟨i, j, rfl, ⟨h1, h2⟩, q⟩ := h
  obtain ⟨u, w', rfl, ⟨t, rfl⟩, ⟨t', rfl⟩⟩ := vals2 r
  refine PyProof.Rows.divmod_int (by omega) ?_ (.inl (PyProof.noPylong_small (by omega)))
  rw [Int.fdiv_eq_ediv_of_nonneg i (by omega), Int.fmod_eq_emod_of_nonneg i (by omega)]
  exact laidTup (its := [.int (i / j) s.toks, .int (i % j) (s.toks + 1)]) I (.cons (show RelV (.int _) (.int _ _) from ⟨_, rfl⟩) (.cons (show RelV (.int _) (.int _ _) from ⟨_, rfl⟩) .nil)) (by simp only [List.length_cons, List.length_nil]; rw [sizeLine_eq]; decide) q
theorem mt_partF : MtR X "str.partition" (fun x xs H Q => ∃ a b, x = .str a ∧ xs = [.str b] ∧ (b.length == 0) = false ∧ a.length ≤ sizeLine ∧
    ∀ p o, H p = none → TupObj o → Q (.ref p) (upd H p (.frz o (.tup [.str (Txt.partition a b).1, .str (Txt.partition a b).2.1, .str (Txt.partition a b).2.2])))) := by
  intro pins s σ H x xs v us Q I rx rs h
  obtain ⟨a, b, rfl, rfl, hb, hz, h⟩ := h
  obtain ⟨t, rfl⟩ := rx
  cases rs with
  | cons r1 rs =>
    cases rs
    obtain ⟨u, rfl⟩ := r1
    refine call_meets PySem.F.slot_str_partition (typeIs_str _ _ _) PySem.F.entry_str_partition (PySem.F.args_str_partition_2 _ _) (meets_str_partition a b t u hb hz) ?_
    unfold Txt.partition at h
    revert h
    cases Builtin.Str.occurrences a b 0 a.length 1 with
    | nil => intro h; exact laidTup I (.cons (show RelV (.str _) (.str _ _) from ⟨_, rfl⟩) (.cons (show RelV (.str _) (.str _ _) from ⟨_, rfl⟩) (.cons (show RelV (.str _) (.str _ _) from ⟨_, rfl⟩) .nil))) (by show 3 ≤ sizeLine; decide) h
    | cons i r => intro h; exact laidTup I (.cons (show RelV (.str _) (.str _ _) from ⟨_, rfl⟩) (.cons (show RelV (.str _) (.str _ _) from ⟨_, rfl⟩) (.cons (show RelV (.str _) (.str _ _) from ⟨_, rfl⟩) .nil))) (by show 3 ≤ sizeLine; decide) h
def tTupF (t : TA) : TE := fun σ H Q => t σ H fun xs H1 => xs.length ≤ sizeLine ∧ ∀ p o, H1 p = none → TupObj o → Q (.ref p) (upd H1 p (.frz o (.tup xs)))
theorem pe_tupF {x1 : Nat} {es : List Expr} {t : TA} {pos : Pos} (h : PA X es t) : PE X (.Tuple es x1 pos) (tTupF t) := by
  refine ⟨fun pins s σ H Q I hq => ?_⟩
  refine wpAny_Tuple_spliced (thn (h.run pos pins s σ H _ I hq) fun us s1 ⟨xs, H1, I1, r, z, q⟩ => ⟨by rw [← r.length]; exact z, ?_⟩)
  exact laidTup (t' := s1.toks) I1 r z q
end
end VI
namespace VI
open PySem L2
section
variable {K : PySem.W.Frag} {ct : Nat → Addr} {z : Fm} {F G H H' : Hp} {σ : St} {env : Env'} {v : V} {d : D} {r : R} {a : Addr}
theorem OpAt.int {i : Int} (h : OpAt K ct F H v (.int i)) : v = .int i := by
  rcases h with h | ⟨_, _, _, h⟩
  · cases h; rfl
  · exact h.elim
theorem OpAt.bl {i : Bool} (h : OpAt K ct F H v (.bl i)) : v = .bl i := by
  rcases h with h | ⟨_, _, _, h⟩
  · cases h; rfl
  · exact h.elim
theorem OpAt.str {i : Str} (h : OpAt K ct F H v (.str i)) : v = .str i := by
  rcases h with h | ⟨_, _, _, h⟩
  · cases h; rfl
  · exact h.elim
theorem OpAt.non (h : OpAt K ct F H v .non) : v = .non := by
  rcases h with h | ⟨_, _, _, h⟩
  · cases h; rfl
  · exact h.elim
theorem OpAt.tup {l : List D} (h : OpAt K ct F H v (.tup l)) (s : Ex F H) : ∃ a xs, v = .ref a ∧ SqT K H a xs ∧ RpA K ct F xs l := by
  rcases h with h | ⟨_, _, _, h⟩
  · cases h with
    | tup h r => exact ⟨_, _, rfl, (s.tpT h).sq, r⟩
  · exact h.elim
theorem OpAt.lst {l : List D} (h : OpAt K ct F H v (.lst l)) (s : Ex F H) : ∃ a xs, v = .ref a ∧ H a = some (.lst xs) ∧ RpA K ct F xs l := by
  rcases h with h | ⟨a, rfl, _, xs, q, r⟩
  · cases h with
    | lst h r => exact ⟨_, _, rfl, s _ _ h, r⟩
  · exact ⟨a, xs, rfl, q, r⟩
theorem OpAt.scr {l : List Int} (h : OpAt K ct F H v (.scr l)) (s : Ex F H) : ∃ a, v = .ref a ∧ SqL K H a (l.map V.int) := by
  rcases h with h | ⟨_, _, _, h⟩
  · cases h with
    | scr h => exact ⟨_, rfl, s.sqL h⟩
  · exact h.elim
theorem OpAt.ins {c : Nat} {l : List (Str × D)} (h : OpAt K ct F H v (.ins c l)) (s : Ex F H) : ∃ a dx fs, v = .ref a ∧ H a = some (.ins (ct c) dx fs) ∧ RpF K ct F fs l := by
  rcases h with h | ⟨a, rfl, _, dx, fs, q, _, r⟩
  · cases h with
    | ins h h' r => exact ⟨_, _, _, rfl, s _ _ h, r⟩
  · exact ⟨a, dx, fs, rfl, q, r⟩
theorem OpAt.dic {l : List (D × D)} (h : OpAt K ct F H v (.dic l)) (s : Ex F H) : ∃ a kvs, v = .ref a ∧ H a = some (.dK kvs) ∧ RpK K ct F kvs l := by
  rcases h with h | ⟨a, rfl, _, kvs, q, r⟩
  · cases h with
    | dic h r => exact ⟨_, _, rfl, s _ _ h, r⟩
  · exact ⟨a, kvs, rfl, q, r⟩
mutual
theorem Rp.dp (s : Ex F H) : ∀ {v : V} {d : D} {p : PyData}, Rp K ct F v d → py d = some p → Dp K H v p
  | _, _, _, .non, e => by unfold py at e; cases e; exact .non
  | _, _, _, .bl b, e => by unfold py at e; cases e; exact .bl b
  | _, _, _, .int i, e => by unfold py at e; cases e; exact .int i
  | _, _, _, .str x, e => by unfold py at e; cases e; exact .str x
  | _, _, _, .tup (ds := ds) h r, e => by
    unfold py at e
    cases q : pyAll ds with
    | none => rw [q] at e; cases e
    | some ps => rw [q] at e; cases e; exact .tup (s.tpT h).sq (RpA.dp s r q)
  | _, _, _, .lst (ds := ds) h r, e => by
    unfold py at e
    cases q : pyAll ds with
    | none => rw [q] at e; cases e
    | some ps => rw [q] at e; cases e; exact .lst (.inl (.inl (s _ _ h))) (RpA.dp s r q)
  | _, _, _, .dic _ _, e => by unfold py at e; cases e
  | _, _, _, .ins _ _ _, e => by unfold py at e; cases e
  | _, _, _, .scr _, e => by unfold py at e; cases e
theorem RpA.dp (s : Ex F H) : ∀ {vs : List V} {ds : List D} {ps : List PyData}, RpA K ct F vs ds → pyAll ds = some ps → DpAll K H vs ps
  | _, _, _, .nil, e => by unfold pyAll at e; cases e; exact .nil
  | _, _, _, .cons (d := d) (ds := ds) h r, e => by
    unfold pyAll at e
    cases q : py d with
    | none => rw [q] at e; cases e
    | some p =>
      cases q2 : pyAll ds with
      | none => rw [q, q2] at e; cases e
      | some ps =>
        rw [q, q2] at e
        cases e
        exact .cons (Rp.dp s h q) (RpA.dp s r q2)
end
theorem OpAt.dp {p : PyData} (h : OpAt K ct F H v d) (s : Ex F H) (e : py d = some p) : Dp K H v p := by
  rcases h with h | ⟨a, rfl, _, h⟩
  · exact h.dp s e
  · cases d with
    | lst ds =>
      obtain ⟨xs, q, r⟩ := h
      unfold py at e
      cases q2 : pyAll ds with
      | none => rw [q2] at e; cases e
      | some ps => rw [q2] at e; cases e; exact .lst (.inl (.inl q)) (r.dp s q2)
    | dic l => unfold py at e; cases e
    | ins c l => unfold py at e; cases e
    | _ => exact h.elim
theorem Rp.scal {w : V} (h : Rp K ct F v d) (e : scalD d = some w) : v = w ∧ flatV v = true := by
  cases h <;> simp [scalD] at e <;> subst e <;> exact ⟨rfl, rfl⟩
theorem RpA.flats : ∀ {vs : List V} {ds : List D} {ws : List V}, RpA K ct F vs ds → flats ds = some ws → vs = ws ∧ vs.all flatV = true
  | _, _, _, .nil, e => by simp [VI.flats] at e; subst e; exact ⟨rfl, rfl⟩
  | _, _, _, .cons (d := d) (ds := ds) h r, e => by
    unfold VI.flats at e
    cases q : scalD d with
    | none => simp [q] at e
    | some w =>
      cases q2 : VI.flats ds with
      | none => simp [q, q2] at e
      | some ws =>
        simp only [q, q2, Option.some.injEq] at e
        subst e
        obtain ⟨h1, h2⟩ := h.scal q
        obtain ⟨h3, h4⟩ := RpA.flats r q2
        subst h1 h3
        exact ⟨rfl, by simp [h2, h4]⟩
theorem RpA.txts : ∀ {vs : List V} {ds : List D} {ys : List Str}, RpA K ct F vs ds → txts ds = some ys → vs = ys.map V.str
  | _, _, _, .nil, e => by simp [VI.txts] at e; subst e; rfl
  | _, _, _, .cons (d := d) (ds := ds) h r, e => by
    cases d with
    | str x =>
      unfold VI.txts at e
      cases q2 : VI.txts ds with
      | none => simp [q2] at e
      | some ws =>
        simp only [q2, Option.map_some, Option.some.injEq] at e
        subst e
        cases h
        rw [RpA.txts r q2]; rfl
    | _ => simp [VI.txts] at e
theorem RpA.bools : ∀ {vs : List V} {ds : List D} {ys : List Bool}, RpA K ct F vs ds → bools ds = some ys → vs = ys.map V.bl
  | _, _, _, .nil, e => by simp [VI.bools] at e; subst e; rfl
  | _, _, _, .cons (d := d) (ds := ds) h r, e => by
    cases d with
    | bl x =>
      unfold VI.bools at e
      cases q2 : VI.bools ds with
      | none => simp [q2] at e
      | some ws =>
        simp only [q2, Option.map_some, Option.some.injEq] at e
        subst e
        cases h
        rw [RpA.bools r q2]; rfl
    | _ => simp [VI.bools] at e
theorem RpA.ofInts (ns : List Int) : RpA K ct F (ns.map V.int) (ns.map D.int) := by
  induction ns with
  | nil => exact .nil
  | cons n ns ih => exact .cons (.int n) ih
theorem RpA.ofStrs (ns : List Str) : RpA K ct F (ns.map V.str) (ns.map D.str) := by
  induction ns with
  | nil => exact .nil
  | cons n ns ih => exact .cons (.str n) ih
end

/-! ### what an operation gives -/
section
variable (K : PySem.W.Frag) (ct : Nat → Addr)
/-- nothing new; a new object that nobody changes; a new object of one's own -/
inductive Out (F H : Hp) : V → R → Hp → Hp → Prop
  | old {v : V} {d : D} (h : Rp K ct F v d) : Out F H v (.dt d) F H
  | fz {p : Addr} {o : HO} {d : D} (np : H p = none) (h : Rp K ct (upd F p o) (.ref p) d) : Out F H (.ref p) (.dt d) (upd F p o) (upd H p o)
  | ow {p : Addr} {o : HO} {d : D} (np : H p = none) (h : OwnAt K ct F (upd H p o) p d) : Out F H (.ref p) (.nw d) F (upd H p o)
end
section
variable {K : PySem.W.Frag} {ct : Nat → Addr} {z : Fm} {F F' G H H' : Hp} {σ : St} {env : Env'} {v : V} {d : D} {r : R} {a : Addr}
theorem noneF (s : Ex F H) (h : H a = none) : F a = none := by
  cases q : F a with
  | none => rfl
  | some o => rw [s a o q] at h; cases h
theorem RelB.noFoot (R : RelB K ct z F H σ env) (h : H a = none) : ¬ foot σ env a := fun ⟨i, b, d, q, q'⟩ => by
  obtain ⟨c, h1, h2, h3⟩ := R.r.ow i b d q
  rw [q'] at h1; cases h1
  obtain ⟨o, w⟩ := h3.obj
  rw [h] at w; cases w
theorem RelB.noZ (R : RelB K ct z F H σ env) (h : H a = none) : z.H a = none := by
  cases q : z.H a with
  | none => rfl
  | some o => exact (R.n.th a (by rw [q]; simp) h).elim
theorem Out.rel (R : RelB K ct z F H σ env) (o : Out K ct F H v r F' H') : Ex F F' ∧ RelB K ct z F' H' σ env ∧ Res K ct z F' H' σ env v r := by
  cases o with
  | old h => exact ⟨Ex.refl F, R, h⟩
  | fz np h =>
    rename_i p o d
    have nF := noneF R.r.sub np
    have R1 := R.heap (Ex.new (o := o) np)
    exact ⟨Ex.new nF, R1.fz upd_same nF (R.noFoot np) (.inl (R.noZ np)), h⟩
  | ow np h =>
    have nF := noneF R.r.sub np
    exact ⟨Ex.refl F, R.heap (Ex.new np), _, rfl, nF, h, R.noFoot np, R.noZ np⟩
end

/-! ### operations by their data -/
section
variable (K : PySem.W.Frag) (ct : Nat → Addr)
/-- an operation on two operands -/
def r2 (f : D → D → Option R) : R2 := fun x y H Q => ∃ F d e r, Ex F H ∧ OpAt K ct F H x d ∧ OpAt K ct F H y e ∧ f d e = some r ∧ ∀ v F' H', Out K ct F H v r F' H' → Q v H'
def r3 (f : D → Option Int → Option Int → Option R) : V → Option Int → Option Int → Hp → VK → Prop := fun x lo hi H Q =>
  ∃ F d r, Ex F H ∧ OpAt K ct F H x d ∧ f d lo hi = some r ∧ ∀ v F' H', Out K ct F H v r F' H' → Q v H'
/-- operands in a row -/
inductive OpAll (F H : Hp) : List V → List D → Prop
  | nil : OpAll F H [] []
  | cons {v : V} {vs : List V} {d : D} {ds : List D} (h : OpAt K ct F H v d) (r : OpAll F H vs ds) : OpAll F H (v :: vs) (d :: ds)
def rN (f : List D → Option R) : List V → Hp → VK → Prop := fun xs H Q => ∃ F ds r, Ex F H ∧ OpAll K ct F H xs ds ∧ f ds = some r ∧ ∀ v F' H', Out K ct F H v r F' H' → Q v H'
def rM (f : D → List D → Option R) : V → List V → Hp → VK → Prop := fun x xs H Q => ∃ F d ds r, Ex F H ∧ OpAt K ct F H x d ∧ OpAll K ct F H xs ds ∧ f d ds = some r ∧ ∀ v F' H', Out K ct F H v r F' H' → Q v H'
end
section
variable {X : Cx} {ct : Nat → Addr}
def bop : BO → Operator
  | .add => .Add
  | .sub => .Sub
  | .mul => .Mult
  | .mod => .Mod
  | .fdiv => .FloorDiv
  | .pow => .Pow
theorem OpAt.tupR {K : PySem.W.Frag} {F H : Hp} {v : V} {l : List D} (h : OpAt K ct F H v (.tup l)) : Rp K ct F v (.tup l) := by
  rcases h with h | ⟨_, _, _, h⟩
  · exact h
  · exact h.elim
theorem outTup {K : PySem.W.Frag} {F H : Hp} {xs : List V} {l : List D} {p : Addr} {o : Obj} (s : Ex F H) (np : H p = none) (ho : TupObj o) (r : RpA K ct F xs l) : Out K ct F H (.ref p) (.dt (.tup l)) (upd F p (.frz o (.tup xs))) (upd H p (.frz o (.tup xs))) :=
  .fz np (.tup ⟨o, upd_same, ho⟩ (r.mono (Ex.new (noneF s np))))
theorem outLst {K : PySem.W.Frag} {F H : Hp} {xs : List V} {l : List D} {p : Addr} (np : H p = none) (r : RpA K ct F xs l) : Out K ct F H (.ref p) (.nw (.lst l)) F (upd H p (.lst xs)) :=
  .ow np ⟨xs, upd_same, r⟩
theorem op_bin (o : BO) : OpR X (binaryOp (bop o)) (r2 X.K ct (binD o)) := by
  intro pins s σ H x y v u Q I rx ry h
  obtain ⟨F, d, e, r, sb, hx, hy, hf, k⟩ := h
  unfold binD at hf
  split at hf
  · cases hf
    exact op_add pins s σ H x y v u Q I rx ry ⟨_, _, hx.int, hy.int, k _ _ _ (.old (.int _))⟩
  · split at hf
    · rename_i hc
      cases hf
      exact op_add_str pins s σ H x y v u Q I rx ry ⟨_, _, hx.str, hy.str, hc, k _ _ _ (.old (.str _))⟩
    · cases hf
  · rename_i l m
    split at hf
    · rename_i hc
      cases hf
      obtain ⟨a, xs, rfl, h1, r1⟩ := hx.tup sb
      obtain ⟨b, ys, rfl, h2, r2⟩ := hy.tup sb
      have hc' : xs.length + ys.length ≤ sizeLine := by rw [r1.length, r2.length]; exact hc
      refine op_catF pins s σ H _ _ v u Q I rx ry ⟨a, b, xs, ys, rfl, rfl, h1, h2, hc', fun e => ?_, fun _ e => ?_, fun _ _ p o np ho => ?_⟩
      · subst e
        cases r1
        exact k _ _ _ (.old hy.tupR)
      · subst e
        cases r2
        have q := hx.tupR
        refine k _ _ _ (.old ?_)
        rw [List.append_nil]; exact q
      · exact k _ _ _ (outTup sb np ho (r1.append r2))
    · cases hf
  · split at hf
    · rename_i hc
      cases hf
      obtain ⟨a, xs, rfl, h1, r1⟩ := hx.lst sb
      obtain ⟨b, ys, rfl, h2, r2⟩ := hy.lst sb
      have hc' : xs.length + ys.length ≤ sizeLine := by rw [r1.length, r2.length]; exact hc
      exact op_cat pins s σ H _ _ v u Q I rx ry ⟨a, b, xs, ys, rfl, rfl, h1, h2, hc', fun p np => k _ _ _ (outLst np (r1.append r2))⟩
    · cases hf
  · cases hf
    exact op_sub pins s σ H x y v u Q I rx ry ⟨_, _, hx.int, hy.int, k _ _ _ (.old (.int _))⟩
  · split at hf
    · rename_i hc
      cases hf
      exact op_mul pins s σ H x y v u Q I rx ry ⟨_, _, hx.int, hy.int, hc, k _ _ _ (.old (.int _))⟩
    · cases hf
  · split at hf
    · rename_i hc
      cases hf
      obtain ⟨a, xs, rfl, h1, r1⟩ := hx.lst sb
      obtain ⟨c1, c2, c3⟩ := hc
      exact op_rep pins s σ H _ _ v u Q I rx ry ⟨a, _, xs, rfl, hy.int, h1, c1, c2, by rw [r1.length]; exact c3, fun p np => k _ _ _ (outLst np (r1.rep _))⟩
    · cases hf
  · split at hf
    · rename_i hc
      cases hf
      exact op_mod pins s σ H x y v u Q I rx ry ⟨_, _, hx.int, hy.int, hc, k _ _ _ (.old (.int _))⟩
    · cases hf
  · split at hf
    · rename_i hc
      cases hf
      exact op_fdiv pins s σ H x y v u Q I rx ry ⟨_, _, hx.int, hy.int, hc, k _ _ _ (.old (.int _))⟩
    · cases hf
  · split at hf
    · rename_i hc
      cases hf
      exact op_pow pins s σ H x y v u Q I rx ry ⟨_, _, hx.int, hy.int, hc, k _ _ _ (.old (.int _))⟩
    · cases hf
  · cases hf
def cop : CO → CmpOp
  | .eq => .Eq
  | .ne => .NotEq
  | .lt => .Lt
  | .le => .LtE
  | .gt => .Gt
  | .ge => .GtE
  | .isin => .In
  | .notin => .NotIn
theorem eqv_scal {p q : Str} : decide (V.str p = V.str q) = decide (p = q) := by
  by_cases e : p = q
  · subst e; simp
  · rw [decide_eq_false e, decide_eq_false (fun z => e (V.str.inj z))]
theorem op_eqC (hu : X.A.units + 65 < cLine) {f : D → D → Option R} (hf : ∀ d e, f d e = (eqD d e).map fun b => .dt (.bl b)) : OpR X (compareOp .Eq) (r2 X.K ct f) := by
  intro pins s σ H x y v u Q I rx ry h
  obtain ⟨F, d, e, r, sb, hx, hy, h1, k⟩ := h
  rw [hf] at h1
  unfold eqD at h1
  split at h1
  · rename_i p q e1 e2
    split at h1
    · cases h1
      have dx := hx.dp sb e1
      have dy := hy.dp sb e2
      cases dx
      cases dy
      refine op_eq pins s σ H _ _ v u Q I rx ry ⟨rfl, ?_⟩
      rw [eqv_scal]
      exact k _ _ _ (.old (.bl _))
    · split at h1
      · rename_i hs
        cases h1
        exact op_eqD (by omega) pins s σ H x y v u Q I rx ry ⟨_, _, hx.dp sb e1, hy.dp sb e2, hs.1, hs.2, k _ _ _ (.old (.bl _))⟩
      · cases h1
  · cases h1
theorem op_neC (hu : X.A.units + 65 < cLine) {f : D → D → Option R} (hf : ∀ d e, f d e = ((eqD d e).map (!·)).map fun b => .dt (.bl b)) : OpR X (compareOp .NotEq) (r2 X.K ct f) := by
  intro pins s σ H x y v u Q I rx ry h
  obtain ⟨F, d, e, r, sb, hx, hy, h1, k⟩ := h
  rw [hf] at h1
  unfold eqD at h1
  split at h1
  · rename_i p q e1 e2
    split at h1
    · cases h1
      have dx := hx.dp sb e1
      have dy := hy.dp sb e2
      cases dx
      cases dy
      refine op_ne pins s σ H _ _ v u Q I rx ry ⟨rfl, ?_⟩
      rw [eqv_scal]
      exact k _ _ _ (.old (.bl _))
    · split at h1
      · rename_i hs
        cases h1
        exact op_neD (by omega) pins s σ H x y v u Q I rx ry ⟨_, _, hx.dp sb e1, hy.dp sb e2, hs.1, hs.2, k _ _ _ (.old (.bl _))⟩
      · cases h1
  · cases h1
theorem OpAt.scal {K : PySem.W.Frag} {F H : Hp} {v w : V} {d : D} (h : OpAt K ct F H v d) (e : scalD d = some w) : v = w ∧ flatV v = true := by
  rcases h with h | ⟨_, _, _, h⟩
  · exact h.scal e
  · cases d <;> simp [scalD] at e <;> exact h.elim
theorem canLay_tup {xs : List PyData} (h : SeqAt.shaped (.tuple xs) = true) : PyData.canLayAll0 xs = true := by
  unfold SeqAt.shaped at h
  simp only [Bool.and_eq_true] at h
  simpa only [PyData.canLay0] using h.1
def rInT (K : PySem.W.Frag) : R2 := fun x y H Q => ∃ d ds, Dp K H x d ∧ Dp K H y (.tuple ds) ∧ SeqAt.shaped d = true ∧ SeqAt.shaped (.tuple ds) = true ∧ Q (.bl (ds.any fun z => PyData.eqv z d)) H
def rNotInT (K : PySem.W.Frag) : R2 := fun x y H Q => ∃ d ds, Dp K H x d ∧ Dp K H y (.tuple ds) ∧ SeqAt.shaped d = true ∧ SeqAt.shaped (.tuple ds) = true ∧ Q (.bl (!ds.any fun z => PyData.eqv z d)) H
theorem op_inT (hu : X.A.units + 65 < cLine) : OpR X (compareOp .In) (rInT X.K) := by
  intro pins s σ H x y v u Q I rx ry h
  obtain ⟨d, ds, hd, he, sd, se, q⟩ := h
  obtain ⟨as, r1⟩ := Dp.reads I d x v hd rx
  obtain ⟨bs, r2⟩ := Dp.reads I (.tuple ds) y u he ry
  exact SeqAt.in_tuple_reads r2 r1 (canLay_tup se) (SeqAt.canLay_of_shaped sd) (PyProof.Rows.room_in_shaped sd hu) ⟨.bl _, H, I, rfl, q⟩
theorem op_notInT (hu : X.A.units + 65 < cLine) : OpR X (compareOp .NotIn) (rNotInT X.K) := by
  intro pins s σ H x y v u Q I rx ry h
  obtain ⟨d, ds, hd, he, sd, se, q⟩ := h
  obtain ⟨as, r1⟩ := Dp.reads I d x v hd rx
  obtain ⟨bs, r2⟩ := Dp.reads I (.tuple ds) y u he ry
  exact SeqAt.notIn_tuple_reads r2 r1 (canLay_tup se) (SeqAt.canLay_of_shaped sd) (PyProof.Rows.room_in_shaped sd hu) ⟨.bl _, H, I, rfl, q⟩
theorem op_inC (hu : X.A.units + 65 < cLine) {f : D → D → Option R} (hf : ∀ d e, f d e = (inD d e).map fun b => .dt (.bl b)) : OpR X (compareOp .In) (r2 X.K ct f) := by
  intro pins s σ H x y v u Q I rx ry h
  obtain ⟨F, d, e, r, sb, hx, hy, h1, k⟩ := h
  rw [hf] at h1
  unfold inD at h1
  split at h1
  · split at h1
    · cases h1
      exact op_in_str pins s σ H x y v u Q I rx ry ⟨_, _, hx.str, hy.str, k _ _ _ (.old (.bl _))⟩
    · cases h1
  · split at h1
    · rename_i w ws e1 e2
      cases h1
      obtain ⟨a, xs, rfl, g1, r1⟩ := hy.tup sb
      obtain ⟨rfl, q1⟩ := hx.scal e1
      obtain ⟨rfl, q2⟩ := r1.flats e2
      exact op_in_seq pins s σ H _ _ v u Q I rx ry ⟨a, xs, rfl, .inr g1, q1, q2, k _ _ _ (.old (.bl _))⟩
    · split at h1
      · rename_i l _ p ps e1 e2
        split at h1
        · rename_i hs
          cases h1
          exact op_inT hu pins s σ H x y v u Q I rx ry ⟨_, _, hx.dp sb e1, hy.dp (p := .tuple ps) sb (by unfold py; rw [e2]; rfl), hs.1, hs.2, k _ _ _ (.old (.bl _))⟩
        · cases h1
      · cases h1
  · split at h1
    · rename_i w ws e1 e2
      cases h1
      obtain ⟨a, xs, rfl, g1, r1⟩ := hy.lst sb
      obtain ⟨rfl, q1⟩ := hx.scal e1
      obtain ⟨rfl, q2⟩ := r1.flats e2
      exact op_in_seq pins s σ H _ _ v u Q I rx ry ⟨a, xs, rfl, .inl (SqL.of g1), q1, q2, k _ _ _ (.old (.bl _))⟩
    · split at h1
      · rename_i l _ p ps e1 e2
        split at h1
        · rename_i hs
          cases h1
          exact op_inD hu pins s σ H x y v u Q I rx ry ⟨_, _, hx.dp sb e1, hy.dp (p := .list ps) sb (by unfold py; rw [e2]; rfl), hs.1, hs.2, k _ _ _ (.old (.bl _))⟩
        · cases h1
      · cases h1
  · split at h1
    · rename_i ks
      cases h1
      obtain ⟨a, kvs, rfl, g1, r1⟩ := hy.dic sb
      cases ry
      rw [hx.str] at rx
      have ev := r1.isSome (x := ks)
      rw [← ev] at k
      exact d_in (by omega) I (DGet.k (k := Sum.inr _) g1) rx fun s' I' => ⟨.bl (valV kvs (Sum.inr ks)).isSome, H, I', rfl, k _ _ _ (.old (.bl _))⟩
    · cases h1
  · cases h1
theorem op_notinC (hu : X.A.units + 65 < cLine) {f : D → D → Option R} (hf : ∀ d e, f d e = ((inD d e).map (!·)).map fun b => .dt (.bl b)) : OpR X (compareOp .NotIn) (r2 X.K ct f) := by
  intro pins s σ H x y v u Q I rx ry h
  obtain ⟨F, d, e, r, sb, hx, hy, h1, k⟩ := h
  rw [hf] at h1
  unfold inD at h1
  split at h1
  · split at h1
    · cases h1
      exact op_notIn_str pins s σ H x y v u Q I rx ry ⟨_, _, hx.str, hy.str, k _ _ _ (.old (.bl _))⟩
    · cases h1
  · split at h1
    · rename_i w ws e1 e2
      cases h1
      obtain ⟨a, xs, rfl, g1, r1⟩ := hy.tup sb
      obtain ⟨rfl, q1⟩ := hx.scal e1
      obtain ⟨rfl, q2⟩ := r1.flats e2
      exact op_notIn_seq pins s σ H _ _ v u Q I rx ry ⟨a, xs, rfl, .inr g1, q1, q2, k _ _ _ (.old (.bl _))⟩
    · split at h1
      · rename_i l _ p ps e1 e2
        split at h1
        · rename_i hs
          cases h1
          exact op_notInT hu pins s σ H x y v u Q I rx ry ⟨_, _, hx.dp sb e1, hy.dp (p := .tuple ps) sb (by unfold py; rw [e2]; rfl), hs.1, hs.2, k _ _ _ (.old (.bl _))⟩
        · cases h1
      · cases h1
  · split at h1
    · rename_i w ws e1 e2
      cases h1
      obtain ⟨a, xs, rfl, g1, r1⟩ := hy.lst sb
      obtain ⟨rfl, q1⟩ := hx.scal e1
      obtain ⟨rfl, q2⟩ := r1.flats e2
      exact op_notIn_seq pins s σ H _ _ v u Q I rx ry ⟨a, xs, rfl, .inl (SqL.of g1), q1, q2, k _ _ _ (.old (.bl _))⟩
    · split at h1
      · rename_i l _ p ps e1 e2
        split at h1
        · rename_i hs
          cases h1
          exact op_notInD hu pins s σ H x y v u Q I rx ry ⟨_, _, hx.dp sb e1, hy.dp (p := .list ps) sb (by unfold py; rw [e2]; rfl), hs.1, hs.2, k _ _ _ (.old (.bl _))⟩
        · cases h1
      · cases h1
  · split at h1
    · rename_i ks
      cases h1
      obtain ⟨a, kvs, rfl, g1, r1⟩ := hy.dic sb
      cases ry
      rw [hx.str] at rx
      have ev := r1.isSome (x := ks)
      rw [← ev] at k
      exact d_notIn (by omega) I (DGet.k (k := Sum.inr _) g1) rx fun s' I' => ⟨.bl (!(valV kvs (Sum.inr ks)).isSome), H, I', rfl, k _ _ _ (.old (.bl _))⟩
    · cases h1
  · cases h1
theorem op_cmp (hu : X.A.units + 65 < cLine) (o : CO) : OpR X (compareOp (cop o)) (r2 X.K ct (cmpR o)) := by
  cases o with
  | eq => exact op_eqC hu fun _ _ => rfl
  | ne => exact op_neC hu fun _ _ => rfl
  | isin => exact op_inC hu fun _ _ => rfl
  | notin => exact op_notinC hu fun _ _ => rfl
  | lt =>
    intro pins s σ H x y v u Q I rx ry h
    obtain ⟨F, d, e, r, sb, hx, hy, h1, k⟩ := h
    unfold cmpR cmpD at h1
    simp only at h1
    split at h1
    · cases h1
      exact op_lt pins s σ H x y v u Q I rx ry ⟨_, _, hx.int, hy.int, k _ _ _ (.old (.bl _))⟩
    · cases h1
  | le =>
    intro pins s σ H x y v u Q I rx ry h
    obtain ⟨F, d, e, r, sb, hx, hy, h1, k⟩ := h
    unfold cmpR cmpD at h1
    simp only at h1
    split at h1
    · cases h1
      exact op_le pins s σ H x y v u Q I rx ry ⟨_, _, hx.int, hy.int, k _ _ _ (.old (.bl _))⟩
    · cases h1
  | gt =>
    intro pins s σ H x y v u Q I rx ry h
    obtain ⟨F, d, e, r, sb, hx, hy, h1, k⟩ := h
    unfold cmpR cmpD at h1
    simp only at h1
    split at h1
    · cases h1
      exact op_gt pins s σ H x y v u Q I rx ry ⟨_, _, hx.int, hy.int, k _ _ _ (.old (.bl _))⟩
    · cases h1
  | ge =>
    intro pins s σ H x y v u Q I rx ry h
    obtain ⟨F, d, e, r, sb, hx, hy, h1, k⟩ := h
    unfold cmpR cmpD at h1
    simp only at h1
    split at h1
    · cases h1
      exact op_ge pins s σ H x y v u Q I rx ry ⟨_, _, hx.int, hy.int, k _ _ _ (.old (.bl _))⟩
    · cases h1
end
end VI
namespace VI
open PySem L2
section
variable {X : Cx} {ct : Nat → Addr}
theorem RpA.at {K : PySem.W.Frag} {F : Hp} {vs : List V} {ds : List D} {i : Int} {d : D} (r : RpA K ct F vs ds) (h : atI ds i = some d) : ∃ v, atI vs i = some v ∧ Rp K ct F v d := by
  unfold atI at h ⊢
  rw [r.length]
  cases q : ixN ds.length i with
  | none => rw [q] at h; cases h
  | some j =>
    rw [q] at h
    exact r.get (i := j) h
theorem atI_map {α β : Type} (f : α → β) (l : List α) (i : Int) : atI (l.map f) i = (atI l i).map f := by
  unfold atI
  rw [List.length_map]
  cases ixN l.length i with
  | none => rfl
  | some j => simp
theorem RpK.val {K : PySem.W.Frag} {F : Hp} : ∀ {kvs : List (Key × V)} {l : List (D × D)} {x : Str} {d : D}, RpK K ct F kvs l → dLook x l = some d → ∃ v, valV kvs (Sum.inr x) = some v ∧ Rp K ct F v d
  | _, _, _, _, .nil, e => by simp [dLook] at e
  | _, _, x, d, .cons (k := k) (v := v) (kvs := kvs) (l := l) h r, e => by
    cases k with
    | inl i =>
      have hne : ¬ (Sum.inl i : Key) = Sum.inr x := fun q => nomatch q
      rw [valV_neg (p := ((Sum.inl i : Key), v)) hne]
      exact RpK.val r e
    | inr y =>
      by_cases hy : y = x
      · subst hy
        rw [valV_pos (p := ((Sum.inr y : Key), v)) rfl]
        simp only [keyD, dLook, if_true, Option.some.injEq] at e
        subst e
        exact ⟨v, rfl, h⟩
      · have hne : ¬ (Sum.inr y : Key) = Sum.inr x := fun q => hy (Sum.inr.inj q)
        rw [valV_neg (p := ((Sum.inr y : Key), v)) hne]
        simp only [keyD, dLook, if_neg hy] at e
        exact RpK.val r e
theorem ix_dict (hu : X.A.units + 1 < cLine) : IxR X (fun x y H Q => ∃ a v, x = .ref a ∧ DGet H a y (some v) ∧ Q v H) := by
  intro value slice pins s σ H x y v u Q I rx ry h hs
  obtain ⟨a, w, rfl, g, q⟩ := h
  cases rx
  exact PyProof.Rows.tail_any (dict_typeIs I g) PySem.F.slot_dict_getitem.lookup (d_getItem hu I g ry fun w' s' I' r' => ⟨w, H, I', r', q⟩) hs
theorem ix_ok (hu : X.A.units + 1 < cLine) : IxR X (r2 X.K ct ixR) := by
  intro value slice pins s σ H x y v u Q I rx ry h hs
  obtain ⟨F, d, e, r, sb, hx, hy, hf, k⟩ := h
  unfold ixR ixD at hf
  split at hf
  · rename_i l i
    cases q : atI l i with
    | none => rw [q] at hf; cases hf
    | some w =>
      rw [q] at hf; cases hf
      obtain ⟨a, xs, rfl, h1, r1⟩ := hx.tup sb
      obtain ⟨v1, h2, h3⟩ := r1.at q
      exact ix_tup value slice pins s σ H _ _ v u Q I rx ry ⟨a, xs, i, v1, rfl, hy.int, h1, h2, k _ _ _ (.old h3)⟩ hs
  · rename_i l i
    cases q : atI l i with
    | none => rw [q] at hf; cases hf
    | some w =>
      rw [q] at hf; cases hf
      obtain ⟨a, xs, rfl, h1, r1⟩ := hx.lst sb
      obtain ⟨v1, h2, h3⟩ := r1.at q
      exact ix_list value slice pins s σ H _ _ v u Q I rx ry ⟨a, xs, i, v1, rfl, hy.int, SqL.of h1, h2, k _ _ _ (.old h3)⟩ hs
  · rename_i l i
    cases q : atI l i with
    | none => rw [q] at hf; cases hf
    | some w =>
      rw [q] at hf; cases hf
      obtain ⟨a, rfl, h1⟩ := hx.scr sb
      exact ix_list value slice pins s σ H _ _ v u Q I rx ry ⟨a, _, i, .int w, rfl, hy.int, h1, by rw [atI_map, q]; rfl, k _ _ _ (.old (.int _))⟩ hs
  · rename_i kvs
    split at hf
    · rename_i x'
      cases q : dLook x' kvs with
      | none => rw [q] at hf; cases hf
      | some w =>
        rw [q] at hf; cases hf
        obtain ⟨a, kv, rfl, h1, r1⟩ := hx.dic sb
        obtain ⟨v1, h2, h3⟩ := r1.val q
        have g : DGet H a (kV (Sum.inr x')) (some v1) := by rw [← h2]; exact DGet.k h1
        have e2 := hy.str
        subst e2
        exact ix_dict hu value slice pins s σ H _ _ v u Q I rx ry ⟨a, v1, rfl, g, k _ _ _ (.old h3)⟩ hs
    · cases hf
  · cases hf
theorem RpA.cut {K : PySem.W.Frag} {F : Hp} {vs : List V} {ds : List D} (lo hi : Option Int) (r : RpA K ct F vs ds) : RpA K ct F (cutV vs lo hi) (cutD ds lo hi) := by
  unfold cutV cutD
  rw [r.length]
  exact (r.drop _).take _
theorem sl_ok : SlR X (r3 X.K ct sliD) := by
  intro pins s σ H x v vl vu lo hi sl Q I rx hs pl pu h
  obtain ⟨F, d, r, sb, hx, hf, k⟩ := h
  unfold sliD at hf
  split at hf
  · rename_i l
    cases hf
    have hq := hx.tupR
    obtain ⟨a, xs, rfl, h1, r1⟩ := hx.tup sb
    refine sl_tupF pins s σ H _ v vl vu lo hi sl Q I rx hs pl pu ⟨a, xs, rfl, h1, fun e => ?_, fun _ p o np ho => k _ _ _ (outTup sb np ho (r1.cut lo hi))⟩
    refine k _ _ _ (.old ?_)
    have e1 : cutD l lo hi = l := by
      unfold cutD
      rw [← r1.length, e.1, e.2, List.drop_zero, Nat.sub_zero, r1.length, List.take_length]
    rw [e1]; exact hq
  · cases hf
    obtain ⟨a, xs, rfl, h1, r1⟩ := hx.lst sb
    exact sl_list pins s σ H _ v vl vu lo hi sl Q I rx hs pl pu ⟨a, xs, rfl, SqL.of h1, fun p np => k _ _ _ (outLst np (r1.cut lo hi))⟩
  · cases hf
    obtain ⟨a, rfl, h1⟩ := hx.scr sb
    exact sl_list pins s σ H _ v vl vu lo hi sl Q I rx hs pl pu ⟨a, _, rfl, h1, fun p np => k _ _ _ (outLst np ((RpA.ofInts _).cut lo hi))⟩
  · split at hf
    · rename_i hz
      cases hf
      exact sl_str pins s σ H _ v vl vu lo hi sl Q I rx hs pl pu ⟨_, hx.str, hz, k _ _ _ (.old (.str _))⟩
    · cases hf
  · cases hf
/-! ### built-in functions -/
theorem all1 {K : PySem.W.Frag} {F H : Hp} {xs : List V} {d : D} (h : OpAll K ct F H xs [d]) : ∃ v, xs = [v] ∧ OpAt K ct F H v d := by
  cases h with
  | cons h r => cases r; exact ⟨_, rfl, h⟩
theorem all2 {K : PySem.W.Frag} {F H : Hp} {xs : List V} {d e : D} (h : OpAll K ct F H xs [d, e]) : ∃ v w, xs = [v, w] ∧ OpAt K ct F H v d ∧ OpAt K ct F H w e := by
  cases h with
  | cons h r =>
    obtain ⟨w, rfl, q⟩ := all1 r
    exact ⟨_, w, rfl, h, q⟩
theorem bi_len : CallR X (.builtin "len") (rN X.K ct biLen) := by
  intro pins s σ H xs us Q I rs h
  obtain ⟨F, ds, r, sb, hx, hf, k⟩ := h
  unfold biLen at hf
  split at hf <;> try cases hf
  · obtain ⟨v, rfl, h1⟩ := all1 hx
    obtain ⟨a, ys, rfl, h2, r1⟩ := h1.tup sb
    refine call_len_seq pins s σ H _ us Q I rs ⟨a, ys, rfl, .inr h2, ?_⟩
    rw [r1.length]; exact k _ _ _ (.old (.int _))
  · obtain ⟨v, rfl, h1⟩ := all1 hx
    obtain ⟨a, ys, rfl, h2, r1⟩ := h1.lst sb
    refine call_len_seq pins s σ H _ us Q I rs ⟨a, ys, rfl, .inl (SqL.of h2), ?_⟩
    rw [r1.length]; exact k _ _ _ (.old (.int _))
  · obtain ⟨v, rfl, h1⟩ := all1 hx
    obtain ⟨a, rfl, h2⟩ := h1.scr sb
    refine call_len_seq pins s σ H _ us Q I rs ⟨a, _, rfl, .inl h2, ?_⟩
    rw [List.length_map]; exact k _ _ _ (.old (.int _))
  · obtain ⟨v, rfl, h1⟩ := all1 hx
    obtain ⟨a, kvs, rfl, h2, r1⟩ := h1.dic sb
    refine call_lenD pins s σ H _ us Q I rs ⟨a, kvs, rfl, h2, ?_⟩
    rw [r1.length]; exact k _ _ _ (.old (.int _))
  · split at hf
    · rename_i hz
      cases hf
      obtain ⟨v, rfl, h1⟩ := all1 hx
      exact call_len_str pins s σ H _ us Q I rs ⟨_, by rw [h1.str], hz, k _ _ _ (.old (.int _))⟩
    · cases hf
theorem bi_all (hc : X.calm = true) : CallR X (.builtin "all") (rN X.K ct biAll) := by
  intro pins s σ H xs us Q I rs h
  obtain ⟨F, ds, r, sb, hx, hf, k⟩ := h
  unfold biAll at hf
  split at hf <;> try cases hf
  rename_i l
  obtain ⟨v, rfl, h1⟩ := all1 hx
  obtain ⟨a, ys, rfl, h2, r1⟩ := h1.lst sb
  cases q : bools l with
  | none => rw [q] at hf; cases hf
  | some bs =>
    rw [q] at hf; cases hf
    have e := r1.bools q
    subst e
    exact cr_all hc pins s σ H _ us Q I rs ⟨a, bs, rfl, SqL.of h2, k _ _ _ (.old (.bl _))⟩
theorem bi_any (hc : X.calm = true) : CallR X (.builtin "any") (rN X.K ct biAny) := by
  intro pins s σ H xs us Q I rs h
  obtain ⟨F, ds, r, sb, hx, hf, k⟩ := h
  unfold biAny at hf
  split at hf <;> try cases hf
  rename_i l
  obtain ⟨v, rfl, h1⟩ := all1 hx
  obtain ⟨a, ys, rfl, h2, r1⟩ := h1.lst sb
  cases q : bools l with
  | none => rw [q] at hf; cases hf
  | some bs =>
    rw [q] at hf; cases hf
    have e := r1.bools q
    subst e
    exact cr_any hc pins s σ H _ us Q I rs ⟨a, bs, rfl, SqL.of h2, k _ _ _ (.old (.bl _))⟩
theorem bi_tuple : CallR X (.type "tuple") (rN X.K ct biTuple) := by
  intro pins s σ H xs us Q I rs h
  obtain ⟨F, ds, r, sb, hx, hf, k⟩ := h
  unfold biTuple at hf
  split at hf <;> try cases hf
  · obtain ⟨v, rfl, h1⟩ := all1 hx
    obtain ⟨a, ys, rfl, h2, r1⟩ := h1.lst sb
    exact call_tupleF pins s σ H _ us Q I rs ⟨a, ys, rfl, .inl ⟨SqL.of h2, fun p o np ho => k _ _ _ (outTup sb np ho r1)⟩⟩
  · obtain ⟨v, rfl, h1⟩ := all1 hx
    have hq := h1.tupR
    obtain ⟨a, ys, rfl, h2, r1⟩ := h1.tup sb
    exact call_tupleF pins s σ H _ us Q I rs ⟨a, ys, rfl, .inr ⟨h2, k _ _ _ (.old hq)⟩⟩
theorem bi_list : CallR X (.type "list") (rN X.K ct biList) := by
  intro pins s σ H xs us Q I rs h
  obtain ⟨F, ds, r, sb, hx, hf, k⟩ := h
  unfold biList at hf
  split at hf <;> try cases hf
  · obtain ⟨v, rfl, h1⟩ := all1 hx
    obtain ⟨a, ys, rfl, h2, r1⟩ := h1.lst sb
    exact call_list_of pins s σ H _ us Q I rs ⟨a, ys, rfl, .inl (SqL.of h2), fun p np => k _ _ _ (outLst np r1)⟩
  · obtain ⟨v, rfl, h1⟩ := all1 hx
    obtain ⟨a, ys, rfl, h2, r1⟩ := h1.tup sb
    exact call_list_of pins s σ H _ us Q I rs ⟨a, ys, rfl, .inr h2, fun p np => k _ _ _ (outLst np r1)⟩
theorem bi_int : CallR X (.type "int") (rN X.K ct biInt) := by
  intro pins s σ H xs us Q I rs h
  obtain ⟨F, ds, r, sb, hx, hf, k⟩ := h
  unfold biInt at hf
  split at hf <;> try cases hf
  · obtain ⟨v, rfl, h1⟩ := all1 hx
    exact call_int1 pins s σ H _ us Q I rs (.inl ⟨_, by rw [h1.int], k _ _ _ (.old (.int _))⟩)
  · obtain ⟨v, rfl, h1⟩ := all1 hx
    exact call_int1 pins s σ H _ us Q I rs (.inr ⟨_, by rw [h1.bl], k _ _ _ (.old (.int _))⟩)
theorem bi_abs : CallR X (.builtin "abs") (rN X.K ct biAbs) := by
  intro pins s σ H xs us Q I rs h
  obtain ⟨F, ds, r, sb, hx, hf, k⟩ := h
  unfold biAbs at hf
  split at hf <;> try cases hf
  obtain ⟨v, rfl, h1⟩ := all1 hx
  exact call_abs pins s σ H _ us Q I rs ⟨_, by rw [h1.int], k _ _ _ (.old (.int _))⟩
theorem RpA.ints : ∀ {vs : List V} {ds : List D} {ys : List Int}, RpA K ct F vs ds → intsD ds = some ys → vs = ys.map V.int
  | _, _, _, .nil, e => by cases e; rfl
  | _, _, _, .cons (d := d) h r, e => by
    unfold intsD at e
    split at e
    · rename_i heq; cases heq
    · rename_i x l heq
      cases heq
      obtain ⟨zs, q, rfl⟩ := Option.map_eq_some_iff.mp e
      cases h
      rw [RpA.ints r q]; rfl
    · cases e
theorem maxI_ge : ∀ (l : List Int) (m : Int), m ≤ maxI m l ∧ ∀ y ∈ l, y ≤ maxI m l
  | [], m => ⟨Int.le_refl _, fun y h => by cases h⟩
  | x :: l, m => by
    obtain ⟨h1, h2⟩ := maxI_ge l (if m < x then x else m)
    unfold maxI
    refine ⟨Int.le_trans ?_ h1, fun y hy => ?_⟩
    · split <;> omega
    · rcases List.mem_cons.mp hy with rfl | hy
      · refine Int.le_trans ?_ h1; split <;> omega
      · exact h2 y hy
theorem maxI_mem : ∀ (l : List Int) (m : Int), maxI m l ∈ m :: l
  | [], m => by simp [maxI]
  | x :: l, m => by
    have := maxI_mem l (if m < x then x else m)
    unfold maxI
    rcases List.mem_cons.mp this with h | h
    · rw [h]; split <;> simp
    · simp [h]
theorem minI_le : ∀ (l : List Int) (m : Int), minI m l ≤ m ∧ ∀ y ∈ l, minI m l ≤ y
  | [], m => ⟨Int.le_refl _, fun y h => by cases h⟩
  | x :: l, m => by
    obtain ⟨h1, h2⟩ := minI_le l (if x < m then x else m)
    unfold minI
    refine ⟨Int.le_trans h1 ?_, fun y hy => ?_⟩
    · split <;> omega
    · rcases List.mem_cons.mp hy with rfl | hy
      · refine Int.le_trans h1 ?_; split <;> omega
      · exact h2 y hy
theorem minI_mem : ∀ (l : List Int) (m : Int), minI m l ∈ m :: l
  | [], m => by simp [minI]
  | x :: l, m => by
    have := minI_mem l (if x < m then x else m)
    unfold minI
    rcases List.mem_cons.mp this with h | h
    · rw [h]; split <;> simp
    · simp [h]
theorem bi_max2 (hc : X.calm = true) : CallR X (.builtin "max") (rN X.K ct biMax2) := by
  intro pins s σ H xs us Q I rs h
  obtain ⟨F, ds, r, sb, hx, hf, k⟩ := h
  unfold biMax2 at hf
  split at hf
  · cases hf
    obtain ⟨v, w, rfl, h1, h2⟩ := all2 hx
    exact call_max2 hc pins s σ H _ us Q I rs ⟨_, _, by rw [h1.int, h2.int], k _ _ _ (.old (.int _))⟩
  · split at hf
    · rename_i n ns e1
      cases hf
      obtain ⟨v, rfl, h1⟩ := all1 hx
      obtain ⟨a, ys, rfl, h2, r1⟩ := h1.lst sb
      have e2 := r1.ints e1
      subst e2
      refine cr_max hc pins s σ H _ us Q I rs ⟨a, _, rfl, SqL.of h2, by simp, fun m g1 g2 => ?_⟩
      have : m = maxI n ns := Int.le_antisymm (by
        rcases List.mem_cons.mp g1 with rfl | g1
        · exact (maxI_ge ns m).1
        · exact (maxI_ge ns n).2 m g1) (g2 _ (maxI_mem ns n))
      subst this
      exact k _ _ _ (.old (.int _))
    · cases hf
  · cases hf
theorem bi_min2 (hc : X.calm = true) : CallR X (.builtin "min") (rN X.K ct biMin2) := by
  intro pins s σ H xs us Q I rs h
  obtain ⟨F, ds, r, sb, hx, hf, k⟩ := h
  unfold biMin2 at hf
  split at hf
  · cases hf
    obtain ⟨v, w, rfl, h1, h2⟩ := all2 hx
    exact call_min2 hc pins s σ H _ us Q I rs ⟨_, _, by rw [h1.int, h2.int], k _ _ _ (.old (.int _))⟩
  · split at hf
    · rename_i n ns e1
      cases hf
      obtain ⟨v, rfl, h1⟩ := all1 hx
      obtain ⟨a, ys, rfl, h2, r1⟩ := h1.lst sb
      have e2 := r1.ints e1
      subst e2
      refine cr_min hc pins s σ H _ us Q I rs ⟨a, _, rfl, SqL.of h2, by simp, fun m g1 g2 => ?_⟩
      have : m = minI n ns := Int.le_antisymm (g2 _ (minI_mem ns n)) (by
        rcases List.mem_cons.mp g1 with rfl | g1
        · exact (minI_le ns m).1
        · exact (minI_le ns n).2 m g1)
      subst this
      exact k _ _ _ (.old (.int _))
    · cases hf
  · cases hf
theorem bi_divmod : CallR X (.builtin "divmod") (rN X.K ct biDivmod) := by
  intro pins s σ H xs us Q I rs h
  obtain ⟨F, ds, r, sb, hx, hf, k⟩ := h
  unfold biDivmod at hf
  split at hf <;> try cases hf
  split at hf
  · rename_i hcd
    cases hf
    obtain ⟨v, w, rfl, h1, h2⟩ := all2 hx
    exact call_divmodF pins s σ H _ us Q I rs ⟨_, _, by rw [h1.int, h2.int], hcd, fun p o np ho => k _ _ _ (outTup sb np ho (.cons (.int _) (.cons (.int _) .nil)))⟩
  · cases hf
mutual
theorem py_noDict : ∀ (d : D) (p : PyData), py d = some p → p.hasDict = false
  | .non, p, e => by unfold py at e; cases e; simp [PyData.hasDict]
  | .bl _, p, e => by unfold py at e; cases e; simp [PyData.hasDict]
  | .int _, p, e => by unfold py at e; cases e; simp [PyData.hasDict]
  | .str _, p, e => by unfold py at e; cases e; simp [PyData.hasDict]
  | .tup l, p, e => by
    unfold py at e
    cases q : pyAll l with
    | none => rw [q] at e; cases e
    | some ps => rw [q] at e; cases e; simp only [PyData.hasDict]; exact pyAll_noDict l ps q
  | .lst l, p, e => by
    unfold py at e
    cases q : pyAll l with
    | none => rw [q] at e; cases e
    | some ps => rw [q] at e; cases e; simp only [PyData.hasDict]; exact pyAll_noDict l ps q
  | .dic _, p, e => by unfold py at e; cases e
  | .ins _ _, p, e => by unfold py at e; cases e
  | .scr _, p, e => by unfold py at e; cases e
theorem pyAll_noDict : ∀ (l : List D) (ps : List PyData), pyAll l = some ps → PyData.hasDictAll ps = false
  | [], ps, e => by unfold pyAll at e; cases e; simp [PyData.hasDictAll]
  | d :: l, ps, e => by
    unfold pyAll at e
    cases q : py d with
    | none => rw [q] at e; cases e
    | some p =>
      cases q2 : pyAll l with
      | none => rw [q, q2] at e; cases e
      | some ps =>
        rw [q, q2] at e; cases e
        simp only [PyData.hasDictAll, py_noDict d p q, pyAll_noDict l _ q2, Bool.or_self]
end
/-- repr of data -/
theorem bi_repr (hg : X.A.guards = some []) (hu : X.A.units + 80 < cLine) : CallR X (.builtin "repr") (rN X.K ct biRepr) := by
  intro pins s σ H xs us Q I rs h
  obtain ⟨F, ds, r, sb, hx, hf, k⟩ := h
  have key : ∀ {d : D} {p : PyData} {a : Addr}, OpAll X.K ct F H xs [d] → py d = some p → p.showable = true → p.shown.length ≤ sizeLine → p.depth ≤ 64 → r = .dt (.str p.shown) → (∀ v, Dp X.K H v p → ∃ a, v = .ref a) →
      wpAny (model X.prog X.w) X.A (call (Value.builtin "repr") us) (EP X pins σ Q) X.xe s := by
    intro d p _ hx ep c1 c2 c3 er hr
    subst er
    obtain ⟨v, rfl, h1⟩ := all1 hx
    obtain ⟨u, rfl, ru⟩ := vals1 rs
    have dp := h1.dp sb ep
    obtain ⟨as, rd⟩ := Dp.reads I p v u dp ru
    have fin : ∀ h' w tk, (∀ b o, s.heap.get? b = some o → h'.get? b = some o) → EP X pins σ Q (.str p.shown w) { s with heap := h', toks := tk } := fun h' w tk hk =>
      ⟨.str p.shown, H, I.kept (t' := tk) hk, ⟨w, rfl⟩, k _ _ _ (.old (.str _))⟩
    have nd : p.hasDict = true → sysModules ∉ as := fun e => by
      rw [py_noDict d p ep] at e; cases e
    obtain ⟨a, rfl⟩ := hr v dp
    cases ru
    exact repr_of_reads' rd c1 nd hg (by omega) (fun _ _ e => e) fin c2
  unfold biRepr at hf
  split at hf <;> try cases hf
  split at hf <;> try cases hf
  · rename_i ps ep
    split at hf <;> try cases hf
    rename_i hc
    exact key (a := 0) hx ep hc.1 hc.2.1 hc.2.2 rfl fun v dp => by cases dp; exact ⟨_, rfl⟩
  · rename_i ps ep
    split at hf <;> try cases hf
    rename_i hc
    exact key (a := 0) hx ep hc.1 hc.2.1 hc.2.2 rfl fun v dp => by cases dp; exact ⟨_, rfl⟩
  · rename_i ep
    obtain ⟨v, rfl, h1⟩ := all1 hx
    obtain ⟨u, rfl, ru⟩ := vals1 rs
    have dp := h1.dp sb ep
    cases dp
    obtain rfl : u = Value.none := ru
    exact PySem.P.repr_of_none ⟨.str _, H, I.kept (t' := s.toks + 1) fun _ _ e => e, ⟨_, rfl⟩, k _ _ _ (.old (.str _))⟩
  · rename_i b ep
    obtain ⟨v, rfl, h1⟩ := all1 hx
    obtain ⟨u, rfl, ru⟩ := vals1 rs
    have dp := h1.dp sb ep
    cases dp
    obtain rfl : u = Value.bool b := ru
    exact PySem.P.repr_of_bool ⟨.str _, H, I.kept (t' := s.toks + 1) fun _ _ e => e, ⟨_, by cases b <;> rfl⟩, k _ _ _ (.old (.str _))⟩
  · rename_i i ep
    split at hf <;> try cases hf
    rename_i hc
    obtain ⟨v, rfl, h1⟩ := all1 hx
    obtain ⟨u, rfl, ru⟩ := vals1 rs
    have dp := h1.dp sb ep
    cases dp
    obtain ⟨t, rfl⟩ := ru
    exact PySem.P.repr_of_int hc ⟨.str _, H, I.kept (t' := s.toks + 1) fun _ _ e => e, ⟨_, rfl⟩, k _ _ _ (.old (.str _))⟩
/-! ### methods that read -/
theorem bm_join : MtR X "str.join" (rM X.K ct bmJoin) := by
  intro pins s σ H x xs v us Q I rx rs h
  obtain ⟨F, d, ds, r, sb, hx, hxs, hf, k⟩ := h
  unfold bmJoin at hf
  split at hf <;> try cases hf
  · rename_i z l
    cases q : txts l with
    | none => rw [q] at hf; cases hf
    | some ys =>
      rw [q] at hf
      simp only [Option.bind_some] at hf
      split at hf
      · rename_i hc
        cases hf
        obtain ⟨w, rfl, h1⟩ := all1 hxs
        obtain ⟨a, vs, rfl, h2, r1⟩ := h1.lst sb
        have e := r1.txts q
        subst e
        exact mt_join pins s σ H x _ v us Q I rx rs ⟨z, a, ys, hx.str, rfl, .inl (SqL.of h2), hc, k _ _ _ (.old (.str _))⟩
      · cases hf
  · rename_i z l
    cases q : txts l with
    | none => rw [q] at hf; cases hf
    | some ys =>
      rw [q] at hf
      simp only [Option.bind_some] at hf
      split at hf
      · rename_i hc
        cases hf
        obtain ⟨w, rfl, h1⟩ := all1 hxs
        obtain ⟨a, vs, rfl, h2, r1⟩ := h1.tup sb
        have e := r1.txts q
        subst e
        exact mt_join pins s σ H x _ v us Q I rx rs ⟨z, a, ys, hx.str, rfl, .inr h2, hc, k _ _ _ (.old (.str _))⟩
      · cases hf
theorem bm_split : MtR X "str.split" (rM X.K ct bmSplit) := by
  intro pins s σ H x xs v us Q I rx rs h
  obtain ⟨F, d, ds, r, sb, hx, hxs, hf, k⟩ := h
  unfold bmSplit at hf
  split at hf <;> try cases hf
  split at hf
  · rename_i hc
    cases hf
    obtain ⟨w, rfl, h1⟩ := all1 hxs
    exact mt_split pins s σ H x _ v us Q I rx rs ⟨_, _, hx.str, by rw [h1.str], hc.1, hc.2, fun p np => k _ _ _ (outLst np (RpA.ofStrs _))⟩
  · cases hf
theorem bm_partition : MtR X "str.partition" (rM X.K ct bmPartition) := by
  intro pins s σ H x xs v us Q I rx rs h
  obtain ⟨F, d, ds, r, sb, hx, hxs, hf, k⟩ := h
  unfold bmPartition at hf
  split at hf <;> try cases hf
  split at hf
  · rename_i hc
    cases hf
    obtain ⟨w, rfl, h1⟩ := all1 hxs
    exact mt_partF pins s σ H x _ v us Q I rx rs ⟨_, _, hx.str, by rw [h1.str], hc.1, hc.2, fun p o np ho => k _ _ _ (outTup sb np ho (.cons (.str _) (.cons (.str _) (.cons (.str _) .nil))))⟩
  · cases hf
theorem idx_first : ∀ {ys : List Str} {x : Str}, x ∈ ys → ys[ys.idxOf x]? = some x ∧ ∀ m, m < ys.idxOf x → ys[m]? ≠ some x
  | [], x, h => by simp at h
  | y :: ys, x, h => by
    by_cases e : y = x
    · subst e
      simp [List.idxOf_cons]
    · have hb : (y == x) = false := by simpa using e
      have h' : x ∈ ys := by
        rcases List.mem_cons.mp h with q | q
        · exact (e q.symm).elim
        · exact q
      obtain ⟨h1, h2⟩ := idx_first h'
      rw [List.idxOf_cons, hb]
      refine ⟨by simpa using h1, fun m hm q => ?_⟩
      cases m with
      | zero => simp at q; exact e q
      | succ m => exact h2 m (by simpa using hm) (by simpa using q)
theorem bm_index : MtR X "tuple.index" (rM X.K ct bmIndex) := by
  intro pins s σ H x xs v us Q I rx rs h
  obtain ⟨F, d, ds, r, sb, hx, hxs, hf, k⟩ := h
  unfold bmIndex at hf
  split at hf <;> try cases hf
  rename_i l z
  cases q : txts l with
  | none => rw [q] at hf; cases hf
  | some ys =>
    rw [q] at hf
    simp only [Option.bind_some] at hf
    split at hf
    · rename_i hm
      cases hf
      obtain ⟨w, rfl, h1⟩ := all1 hxs
      obtain ⟨a, vs, rfl, h2, r1⟩ := hx.tup sb
      have e := r1.txts q
      subst e
      obtain ⟨i1, i2⟩ := idx_first hm
      exact mt_tup_index pins s σ H _ _ v us Q I rx rs ⟨a, ys, z, _, rfl, by rw [h1.str], h2, i1, i2, k _ _ _ (.old (.int _))⟩
    · cases hf
end
end VI
namespace VI
open PySem L2
theorem _root_.L2.PE.vimp {X : Cx} {e : Expr} {t t' : TE} (h : PE X e t) (q : ∀ σ H Q, t' σ H Q → t σ H Q) : PE X e t' := ⟨fun pins s σ H Q I w => h.run pins s σ H Q I (q σ H Q w)⟩
theorem _root_.L2.PT.vimp {X : Cx} {e : Expr} {t t' : TT} (h : PT X e t) (q : ∀ σ H Q, t' σ H Q → t σ H Q) : PT X e t' := ⟨fun pins s σ H Q I w => h.run pins s σ H Q I (q σ H Q w)⟩
theorem _root_.L2.PW.vimp {X : Cx} {e : Expr} {t t' : TT} (h : PW X e t) (q : ∀ σ H Q, t' σ H Q → t σ H Q) : PW X e t' := ⟨fun wh pins s σ H Q I w => h.run wh pins s σ H Q I (q σ H Q w)⟩
theorem _root_.L2.PA.vimp {X : Cx} {e : List Expr} {t t' : TA} (h : PA X e t) (q : ∀ σ H Q, t' σ H Q → t σ H Q) : PA X e t' := ⟨fun pos pins s σ H Q I w => h.run pos pins s σ H Q I (q σ H Q w)⟩
theorem _root_.L2.PS.vimp {X : Cx} {e : Stmt} {t t' : TS} (h : PS X e t) (q : ∀ D σ H, t' D σ H → t D σ H) : PS X e t' := ⟨fun pins s σ H D I w => h.run pins s σ H D I (q D σ H w)⟩
theorem _root_.L2.PSs.vimp {X : Cx} {e : List Stmt} {t t' : TS} (h : PSs X e t) (q : ∀ D σ H, t' D σ H → t D σ H) : PSs X e t' := ⟨fun pins s σ H D I w => h.run pins s σ H D I (q D σ H w)⟩
theorem _root_.L2.PE.vnever {X : Cx} {e : Expr} {t : TE} (h : ∀ σ H Q, ¬ t σ H Q) : PE X e t := ⟨fun pins s σ H Q I w => (h σ H Q w).elim⟩

section
variable (K : PySem.W.Frag) (ct : Nat → Addr)
abbrev Me := Env' → Option (R × Env')
/-- an expression's reading, by the interpreter -/
def tV (m : Env' → Option (R × Env')) : TE := fun σ H Q => ∃ z F env, RelB K ct z F H σ env ∧ ∃ r env', m env = some (r, env') ∧
  ∀ v F' H', Ex F F' → RelB K ct z F' H' σ env' → Res K ct z F' H' σ env' v r → Q v H'
/-- a test's -/
def tB (m : Env' → Option (Bool × Env')) : TT := fun σ H Q => ∃ z F env, RelB K ct z F H σ env ∧ ∃ b env', m env = some (b, env') ∧
  ∀ F' H', Ex F F' → RelB K ct z F' H' σ env' → Q b H'
/-- arguments that are kept -/
def tA (m : Env' → Option (List D × Env')) : TA := fun σ H Q => ∃ z F env, RelB K ct z F H σ env ∧ ∃ ds env', m env = some (ds, env') ∧
  ∀ vs F' H', Ex F F' → RelB K ct z F' H' σ env' → RpA K ct F' vs ds → Q vs H'
/-- a row of results: data, the objects of slots; at most one new object -/
inductive ResA (z : Fm) (F H : Hp) (σ : St) (env : Env') : List V → List R → Prop
  | nil : ResA z F H σ env [] []
  | cons {v : V} {vs : List V} {r : R} {rs : List R} (h : Res K ct z F H σ env v r) (t : ResA z F H σ env vs rs) : ResA z F H σ env (v :: vs) (r :: rs)
def tR (m : Env' → Option (List R × Env')) : TA := fun σ H Q => ∃ z F env, RelB K ct z F H σ env ∧ ∃ rs env', m env = some (rs, env') ∧
  ∀ vs F' H', Ex F F' → RelB K ct z F' H' σ env' → ResA K ct z F' H' σ env' vs rs → Q vs H'
end
/-- data and slots only -/
def calmR : R → Bool
  | .nw _ => false
  | _ => true
section
variable {X : Cx} {K : PySem.W.Frag} {ct : Nat → Addr} {e : Expr} {es : List Expr} {m : Env' → Option (R × Env')} {ms : Env' → Option (List R × Env')}
theorem _root_.L2.PE.vpz (h : PE X e (tV X.K ct m)) : PE X e (tV X.K ct fun env => pz (m env)) := by
  refine h.vimp fun σ H Q w => ?_
  obtain ⟨z, F, env, rel, r, env', eq, k⟩ := w
  have eq : VI.pz (m env) = some (r, env') := eq
  cases q : m env with
  | none => rw [q] at eq; cases eq
  | some p =>
    obtain ⟨r0, env0⟩ := p
    rw [q] at eq
    cases r0 with
    | dt d => cases eq; exact ⟨z, F, env, rel, _, _, q, k⟩
    | sl i => cases eq; exact ⟨z, F, env, rel, _, _, q, k⟩
    | nw d =>
      cases eq
      refine ⟨z, F, env, rel, _, _, q, fun v F' H' ex rl res => ?_⟩
      obtain ⟨F2, e2, R2, rp⟩ := rl.frzNew res
      exact k v F2 H' (ex.trans e2) R2 rp
theorem _root_.L2.PE.vfrz (h : PE X e (tV X.K ct m)) : PE X e (tV X.K ct (frzM m)) := by
  refine h.vimp fun σ H Q w => ?_
  obtain ⟨z, F, env, rel, r, env', eq, k⟩ := w
  unfold VI.frzM at eq
  cases q : m env with
  | none => rw [q] at eq; cases eq
  | some p =>
    obtain ⟨r0, env0⟩ := p
    rw [q] at eq
    simp only at eq
    cases q2 : frz r0 env0 with
    | none => rw [q2] at eq; cases eq
    | some p2 =>
      obtain ⟨d, env1⟩ := p2
      rw [q2] at eq
      cases eq
      refine ⟨z, F, env, rel, _, _, q, fun v F' H' ex rl res => ?_⟩
      obtain ⟨F2, e2, R2, rp⟩ := rl.frz res q2
      exact k v F2 H' (ex.trans e2) R2 rp
/-- a later state keeps an earlier operand -/
theorem Res.calm {z : Fm} {F F' H H' : Hp} {σ : St} {env env' : Env'} {v : V} {r : R} (h : Res K ct z F H σ env v r) (hc : calmR r = true) (e : Ex F F') : Res K ct z F' H' σ env' v r := by
  cases r with
  | dt d => exact Rp.mono e h
  | sl i => exact h
  | nw d => cases hc
theorem pz_calm {env env1 : Env'} {r : R} (h : pz (m env) = some (r, env1)) : calmR r = true := by
  cases q : m env with
  | none => rw [q] at h; cases h
  | some p =>
    obtain ⟨r0, env0⟩ := p
    rw [q] at h
    cases r0 <;> cases h <;> rfl
/-! ### the small ones -/
theorem pe_cstV {c : Const} {ctt : Ct} {j : Nat} {pos : Pos} (h : (match c, ctt with
    | .none, .non => true
    | .bool b, .bl b' => decide (b = b')
    | .int i, .int i' => decide (i = i')
    | .str x, .str x' => decide (x = x')
    | _, _ => false) = true) : PE X (.Constant c j pos) (tV X.K ct fun env => some (.dt ctt.d, env)) := by
  cases c <;> cases ctt <;> simp at h
  · exact pe_non.vimp fun σ H Q ⟨z, F, env, rel, r, env', eq, k⟩ => by cases eq; exact k _ F H (Ex.refl F) rel .non
  · subst h; exact pe_bl.vimp fun σ H Q ⟨z, F, env, rel, r, env', eq, k⟩ => by cases eq; exact k _ F H (Ex.refl F) rel (.bl _)
  · subst h; exact pe_int.vimp fun σ H Q ⟨z, F, env, rel, r, env', eq, k⟩ => by cases eq; exact k _ F H (Ex.refl F) rel (.int _)
  · subst h; exact pe_str.vimp fun σ H Q ⟨z, F, env, rel, r, env', eq, k⟩ => by cases eq; exact k _ F H (Ex.refl F) rel (.str _)
def Ct.v : Ct → V
  | .non => .non
  | .bl b => .bl b
  | .int i => .int i
  | .str x => .str x
theorem Ct.rp {F : Hp} (c : Ct) : Rp K ct F c.v c.d := by
  cases c
  · exact .non
  · exact .bl _
  · exact .int _
  · exact .str _
theorem pe_globV {x : Str} {c : Ct} {u : Value} {pos : Pos} (hg : Gl X x) (hm : X.mg x = some u) (r : RelV c.v u) (hd : (x == ("__debug__" : Str)) = false) : PE X (.Name x pos) (tV X.K ct fun env => some (.dt c.d, env)) :=
  (pe_glob hg hm r hd).vimp fun σ H Q ⟨z, F, env, rel, r, env', eq, k⟩ => by cases eq; exact k _ F H (Ex.refl F) rel c.rp
theorem pe_varV {i : Nat} {x : Str} {pos : Pos} (hN : X.N[i]? = some x) (hv : Vis X.env.scope x) (hd : (x == ("__debug__" : Str)) = false) (hcd : (x == ("__classdict__" : Str)) = false) : PE X (.Name x pos) (tV X.K ct (varM i)) := by
  refine (pe_var hN hv hd hcd).vimp fun σ H Q w => ?_
  obtain ⟨z, F, env, rel, r, env', eq, k⟩ := w
  unfold varM at eq
  split at eq
  · rename_i d q
    cases eq
    obtain ⟨v, h1, h2⟩ := rel.r.va i d q
    exact ⟨v, h1, k _ F H (Ex.refl F) rel h2⟩
  · rename_i b d q
    cases eq
    obtain ⟨a, h1, h2⟩ := rel.r.ow i b d q
    exact ⟨_, h1, k _ F H (Ex.refl F) rel h1⟩
  · cases eq
/-! ### lists of expressions -/
theorem pa_nilV : PA X [] (tA X.K ct fun env => some ([], env)) := pa_nil.vimp fun σ H Q ⟨z, F, env, rel, r, env', eq, k⟩ => by cases eq; exact k _ F H (Ex.refl F) rel .nil
theorem pa_consV {ms : Env' → Option (List D × Env')} (h : PE X e (tV X.K ct m)) (hs : PA X es (tA X.K ct ms)) (hst : starEach (e :: es) X.env = (false, eval e X.env) :: starEach es X.env) : PA X (e :: es) (tA X.K ct (consV m ms)) := by
  refine (pa_cons h.vfrz hs hst).vimp fun σ H Q w => ?_
  obtain ⟨z, F, env, rel, r, env', eq, k⟩ := w
  unfold consV at eq
  cases q : m env with
  | none => rw [q] at eq; cases eq
  | some p =>
    obtain ⟨r0, env0⟩ := p
    rw [q] at eq
    simp only at eq
    cases q2 : frz r0 env0 with
    | none => rw [q2] at eq; cases eq
    | some p2 =>
      obtain ⟨d, env1⟩ := p2
      rw [q2] at eq
      simp only at eq
      cases q3 : ms env1 with
      | none => rw [q3] at eq; cases eq
      | some p3 =>
        obtain ⟨ds, env2⟩ := p3
        rw [q3] at eq
        cases eq
        refine ⟨z, F, env, rel, .dt d, env1, by unfold VI.frzM; rw [q]; simp only; rw [q2], fun v F1 H1 e1 R1 rp => ⟨z, F1, env1, R1, _, _, q3, fun vs F2 H2 e2 R2 ra => ?_⟩⟩
        exact k _ F2 H2 (e1.trans e2) R2 (.cons (Rp.mono e2 rp) ra)
theorem pa_nilR : PA X [] (tR X.K ct fun env => some ([], env)) := pa_nil.vimp fun σ H Q ⟨z, F, env, rel, r, env', eq, k⟩ => by cases eq; exact k _ F H (Ex.refl F) rel .nil
theorem pa_consP (h : PE X e (tV X.K ct m)) (hs : PA X es (tR X.K ct ms)) (hst : starEach (e :: es) X.env = (false, eval e X.env) :: starEach es X.env) : PA X (e :: es) (tR X.K ct (consP m ms)) := by
  refine (pa_cons h.vpz hs hst).vimp fun σ H Q w => ?_
  obtain ⟨z, F, env, rel, r, env', eq, k⟩ := w
  unfold consP at eq
  cases q : pz (m env) with
  | none => rw [q] at eq; cases eq
  | some p =>
    obtain ⟨r0, env1⟩ := p
    rw [q] at eq
    simp only at eq
    cases q3 : ms env1 with
    | none => rw [q3] at eq; cases eq
    | some p3 =>
      obtain ⟨rs, env2⟩ := p3
      rw [q3] at eq
      cases eq
      refine ⟨z, F, env, rel, r0, env1, q, fun v F1 H1 e1 R1 rp => ⟨z, F1, env1, R1, _, _, q3, fun vs F2 H2 e2 R2 ra => ?_⟩⟩
      exact k _ F2 H2 (e1.trans e2) R2 (.cons (rp.calm (pz_calm q) e2) ra)
/-! ### operators -/
theorem mapM_ops {z : Fm} {F H : Hp} {σ : St} {env : Env'} (R0 : RelB K ct z F H σ env) : ∀ {vs : List V} {rs : List R} {ds : List D}, ResA K ct z F H σ env vs rs → rs.mapM (opD env) = some ds → OpAll K ct F H vs ds
  | _, _, ds, .nil, e => by
    simp at e; subst e; exact .nil
  | _, _, ds, .cons (r := r) (rs := rs) h t, e => by
    rw [List.mapM_cons] at e
    cases q : opD env r with
    | none => rw [q] at e; cases e
    | some d =>
      cases q2 : rs.mapM (opD env) with
      | none => rw [q, q2] at e; cases e
      | some ds' =>
        rw [q, q2] at e
        cases e
        exact .cons (OpAt.of R0 h q) (mapM_ops R0 t q2)
theorem t_op2 {f : D → D → Option R} {ma mb : Env' → Option (R × Env')} {σ : St} {H : Hp} {Q : VK} (w : tV K ct (op2 f ma mb) σ H Q) : tOp (r2 K ct f) (tV K ct fun env => pz (ma env)) (tV K ct fun env => pz (mb env)) σ H Q := by
  obtain ⟨z, F, env, rel, r, env', eq, k⟩ := w
  unfold op2 at eq
  cases q : pz (ma env) with
  | none => rw [q] at eq; cases eq
  | some p =>
    obtain ⟨x, env1⟩ := p
    rw [q] at eq
    simp only at eq
    cases q2 : pz (mb env1) with
    | none => rw [q2] at eq; cases eq
    | some p2 =>
      obtain ⟨y, env2⟩ := p2
      rw [q2] at eq
      simp only at eq
      cases o1 : opD env2 x with
      | none => rw [o1] at eq; cases eq
      | some d =>
        cases o2 : opD env2 y with
        | none => rw [o1, o2] at eq; cases eq
        | some e =>
          rw [o1, o2] at eq
          simp only at eq
          cases hf : f d e with
          | none => rw [hf] at eq; cases eq
          | some r0 =>
            rw [hf] at eq
            cases eq
            refine ⟨z, F, env, rel, x, env1, q, fun v1 F1 H1 e1 R1 p1 => ⟨z, F1, env1, R1, _, _, q2, fun v2 F2 H2 e2 R2 p2 => ?_⟩⟩
            refine ⟨F2, d, e, _, R2.r.sub, OpAt.of R2 (p1.calm (pz_calm q) e2) o1, OpAt.of R2 p2 o2, hf, fun v F3 H3 o => ?_⟩
            obtain ⟨e3, R3, p3⟩ := o.rel R2
            exact k v F3 H3 ((e1.trans e2).trans e3) R3 p3
theorem pe_binV {a b : Expr} {ma mb : Env' → Option (R × Env')} {o : BO} {pos : Pos} (ha : PE X a (tV X.K ct ma)) (hb : PE X b (tV X.K ct mb)) : PE X (.BinOp a (bop o) b pos) (tV X.K ct (op2 (binD o) ma mb)) :=
  (pe_op (op_bin o) ha.vpz hb.vpz).vimp fun _ _ _ w => t_op2 w
theorem pe_cmpV {a b : Expr} {ma mb : Env' → Option (R × Env')} {o : CO} {pos : Pos} (hu : X.A.units + 65 < cLine) (ha : PE X a (tV X.K ct ma)) (hb : PE X b (tV X.K ct mb)) (hm : behindInMarks (cop o) b = false) : PE X (.Compare a [cop o] [b] pos) (tV X.K ct (op2 (cmpR o) ma mb)) :=
  (pe_cmpR (op_cmp hu o) ha.vpz hb.vpz hm).vimp fun _ _ _ w => t_op2 w
theorem pe_ixV {a b : Expr} {ma mb : Env' → Option (R × Env')} {pos : Pos} (hu : X.A.units + 1 < cLine) (ha : PE X a (tV X.K ct ma)) (hb : PE X b (tV X.K ct mb)) (hs : PlainIx b) : PE X (.Subscript a b pos) (tV X.K ct (op2 ixR ma mb)) :=
  (pe_ix (ix_ok hu) ha.vpz hb.vpz hs).vimp fun _ _ _ w => t_op2 w
end
end VI
namespace VI
open PySem L2
def isSet : Expr → Bool
  | .Set _ _ _ => true
  | _ => false
def isStar : Expr → Bool
  | .Starred _ _ => true
  | _ => false
def isSlice : Expr → Bool
  | .Slice _ _ _ _ => true
  | _ => false
def isNoArg : Expr → Bool
  | .Call (.Name x _) [] [] _ => x == ("super" : Str)
  | _ => false
def isPlainT : Expr → Bool
  | .UnaryOp .Not _ _ => false
  | .BoolOp _ _ _ => false
  | .IfExp _ _ _ _ => false
  | .Compare _ _ _ _ => false
  | _ => true
theorem star_of {e : Expr} {es : List Expr} {env : Env} (h : isStar e = false) : starEach (e :: es) env = (false, eval e env) :: starEach es env := by
  cases e <;> first | rfl | cases h
theorem marks_of {e : Expr} {o : CmpOp} (h : isSet e = false) : behindInMarks o e = false := by
  cases e <;> first | rfl | cases h
theorem plainIx_of {e : Expr} (h : isSlice e = false) : PlainIx e := fun o i => by
  cases e <;> first | rfl | cases h
theorem base_of {e : Expr} {f : Str} {env : Env} {w : Sem Value} (h : isNoArg e = false) : attributeBase e f env w = w := by
  unfold isNoArg at h
  split at h
  · exact abase_call (by rw [bne, h]; rfl)
  · rename_i hne
    unfold attributeBase
    split
    · exact (hne _ _ _ rfl).elim
    · rfl
theorem plainT_of {e : Expr} {env : Env} (h : isPlainT e = true) (whole : Sem Value) : isTrue e env whole = (do let v ← whole; standAt e.pos; holding [v] (truthy v)) := by
  cases e with
  | UnaryOp o a p => cases o <;> first | rfl | cases h
  | BoolOp => cases h
  | IfExp => cases h
  | Compare => cases h
  | _ => rfl
theorem nostar_any : ∀ {es : List Expr} {env : Env} {pos : Pos}, (es.all fun e => !isStar e) = true → (backTo pos (starEach es env)).any (·.1) = false
  | [], _, _, _ => rfl
  | e :: es, env, pos, h => by
    simp only [List.all_cons, Bool.and_eq_true, Bool.not_eq_true'] at h
    rw [star_of h.1]
    show (false || (backTo pos (starEach es env)).any (·.1)) = false
    rw [nostar_any h.2]; rfl
section
variable {X : Cx} {K : PySem.W.Frag} {ct : Nat → Addr} {e a b c : Expr} {es : List Expr} {m ma mb mc : Env' → Option (R × Env')} {ms : Env' → Option (List R × Env')} {pos : Pos}
/-! ### tests -/
theorem pt_valV (h : PE X e (tV X.K ct m)) (hp : isPlainT e = true) : PT X e (VI.tB X.K ct (boolM m)) := by
  refine (pt_val h (fun w => plainT_of hp w)).vimp fun σ H Q w => ?_
  obtain ⟨z, F, env, rel, r, env', eq, k⟩ := w
  unfold boolM at eq
  split at eq
  · rename_i b env1 q
    cases eq
    refine ⟨z, F, env, rel, _, _, q, fun v F' H' ex rl res => ?_⟩
    cases res
    exact ⟨_, rfl, k F' H' ex rl⟩
  · cases eq
theorem pt_cmpV {o : CO} (hu : X.A.units + 65 < cLine) (ha : PE X a (tV X.K ct ma)) (hb : PE X b (tV X.K ct mb)) (hm : behindInMarks (cop o) b = false) : PT X (.Compare a [cop o] [b] pos) (VI.tB X.K ct (boolM (op2 (cmpR o) ma mb))) := by
  refine (pt_cmpR (op_cmp (ct := ct) hu o) ha.vpz hb.vpz hm).vimp fun σ H Q w => ?_
  obtain ⟨z, F, env, rel, r, env', eq, k⟩ := w
  unfold boolM at eq
  split at eq
  · rename_i b env1 q
    cases eq
    refine t_op2 ⟨z, F, env, rel, _, _, q, fun v F' H' ex rl res => ?_⟩
    cases res
    exact ⟨_, rfl, k F' H' ex rl⟩
  · cases eq
theorem pe_andV {rest : List Expr} (ha : PE X a (tV X.K ct ma)) (hb : PE X (.BoolOp .And (b :: rest) pos) (tV X.K ct mb)) : PE X (.BoolOp .And (a :: b :: rest) pos) (tV X.K ct (andM ma mb)) := by
  refine (pe_and ha hb).vimp fun σ H Q w => ?_
  obtain ⟨z, F, env, rel, r, env', eq, k⟩ := w
  unfold andM at eq
  split at eq
  · rename_i env1 q
    refine ⟨z, F, env, rel, _, _, q, fun v F1 H1 e1 R1 res => ?_⟩
    cases res
    exact ⟨true, rfl, ⟨z, F1, env1, R1, r, env', eq, fun v F2 H2 e2 R2 p2 => k v F2 H2 (e1.trans e2) R2 p2⟩⟩
  · rename_i env1 q
    cases eq
    refine ⟨z, F, env, rel, _, _, q, fun v F1 H1 e1 R1 res => ?_⟩
    cases res
    exact ⟨false, rfl, k _ F1 H1 e1 R1 (.bl false)⟩
  · cases eq
theorem pe_orV {rest : List Expr} (ha : PE X a (tV X.K ct ma)) (hb : PE X (.BoolOp .Or (b :: rest) pos) (tV X.K ct mb)) : PE X (.BoolOp .Or (a :: b :: rest) pos) (tV X.K ct (orM ma mb)) := by
  refine (pe_or ha hb).vimp fun σ H Q w => ?_
  obtain ⟨z, F, env, rel, r, env', eq, k⟩ := w
  unfold orM at eq
  split at eq
  · rename_i env1 q
    cases eq
    refine ⟨z, F, env, rel, _, _, q, fun v F1 H1 e1 R1 res => ?_⟩
    cases res
    exact ⟨true, rfl, k _ F1 H1 e1 R1 (.bl true)⟩
  · rename_i env1 q
    refine ⟨z, F, env, rel, _, _, q, fun v F1 H1 e1 R1 res => ?_⟩
    cases res
    exact ⟨false, rfl, ⟨z, F1, env1, R1, r, env', eq, fun v F2 H2 e2 R2 p2 => k v F2 H2 (e1.trans e2) R2 p2⟩⟩
  · cases eq
theorem pe_notV (ha : PE X a (tV X.K ct ma)) : PE X (.UnaryOp .Not a pos) (tV X.K ct (notM ma)) := by
  refine (pe_not ha).vimp fun σ H Q w => ?_
  obtain ⟨z, F, env, rel, r, env', eq, k⟩ := w
  unfold notM at eq
  split at eq
  · rename_i b env1 q
    cases eq
    refine ⟨z, F, env, rel, _, _, q, fun v F1 H1 e1 R1 res => ?_⟩
    cases res
    exact ⟨_, rfl, k _ F1 H1 e1 R1 (.bl _)⟩
  · cases eq
theorem pw_andV {rest : List Expr} (ha : PT X a (VI.tB X.K ct (boolM ma))) (hb : PW X (.BoolOp .And (b :: rest) pos) (VI.tB X.K ct (boolM mb))) : PW X (.BoolOp .And (a :: b :: rest) pos) (VI.tB X.K ct (boolM (andM ma mb))) := by
  refine (pw_and ha hb).vimp fun σ H Q w => ?_
  obtain ⟨z, F, env, rel, r, env', eq, k⟩ := w
  unfold boolM at eq
  split at eq
  · rename_i b env1 q
    cases eq
    unfold andM at q
    split at q
    · rename_i env2 q2
      refine ⟨z, F, env, rel, true, _, by unfold boolM; rw [q2], fun F1 H1 e1 R1 => ?_⟩
      refine iteT ?_
      exact ⟨z, F1, env2, R1, _, _, by unfold boolM; rw [q], fun F2 H2 e2 R2 => k F2 H2 (e1.trans e2) R2⟩
    · rename_i env2 q2
      cases q
      refine ⟨z, F, env, rel, false, _, by unfold boolM; rw [q2], fun F1 H1 e1 R1 => ?_⟩
      refine iteF ?_
      exact k F1 H1 e1 R1
    · cases q
  · cases eq
theorem pw_orV {rest : List Expr} (ha : PT X a (VI.tB X.K ct (boolM ma))) (hb : PW X (.BoolOp .Or (b :: rest) pos) (VI.tB X.K ct (boolM mb))) : PW X (.BoolOp .Or (a :: b :: rest) pos) (VI.tB X.K ct (boolM (orM ma mb))) := by
  refine (pw_or ha hb).vimp fun σ H Q w => ?_
  obtain ⟨z, F, env, rel, r, env', eq, k⟩ := w
  unfold boolM at eq
  split at eq
  · rename_i b env1 q
    cases eq
    unfold orM at q
    split at q
    · rename_i env2 q2
      cases q
      refine ⟨z, F, env, rel, true, _, by unfold boolM; rw [q2], fun F1 H1 e1 R1 => ?_⟩
      refine iteT ?_
      exact k F1 H1 e1 R1
    · rename_i env2 q2
      refine ⟨z, F, env, rel, false, _, by unfold boolM; rw [q2], fun F1 H1 e1 R1 => ?_⟩
      refine iteF ?_
      exact ⟨z, F1, env2, R1, _, _, by unfold boolM; rw [q], fun F2 H2 e2 R2 => k F2 H2 (e1.trans e2) R2⟩
    · cases q
  · cases eq
theorem pt_notV (ha : PT X a (VI.tB X.K ct (boolM ma))) : PT X (.UnaryOp .Not a pos) (VI.tB X.K ct (boolM (notM ma))) := by
  refine (pt_not ha).vimp fun σ H Q w => ?_
  obtain ⟨z, F, env, rel, r, env', eq, k⟩ := w
  unfold boolM at eq
  split at eq
  · rename_i b env1 q
    cases eq
    unfold notM at q
    split at q
    · rename_i b2 env2 q2
      cases q
      exact ⟨z, F, env, rel, _, _, by unfold boolM; rw [q2], fun F1 H1 e1 R1 => k F1 H1 e1 R1⟩
    · cases q
  · cases eq
theorem pe_ifeV (hc : PT X c (VI.tB X.K ct (boolM mc))) (ha : PE X a (tV X.K ct ma)) (hb : PE X b (tV X.K ct mb)) : PE X (.IfExp c a b pos) (tV X.K ct (ifeM mc ma mb)) := by
  refine (pe_ifExp hc ha hb).vimp fun σ H Q w => ?_
  obtain ⟨z, F, env, rel, r, env', eq, k⟩ := w
  unfold ifeM at eq
  split at eq
  · rename_i env1 q
    refine ⟨z, F, env, rel, true, _, by unfold boolM; rw [q], fun F1 H1 e1 R1 => ?_⟩
    refine iteT ?_
    exact ⟨z, F1, env1, R1, r, env', eq, fun v F2 H2 e2 R2 p2 => k v F2 H2 (e1.trans e2) R2 p2⟩
  · rename_i env1 q
    refine ⟨z, F, env, rel, false, _, by unfold boolM; rw [q], fun F1 H1 e1 R1 => ?_⟩
    refine iteF ?_
    exact ⟨z, F1, env1, R1, r, env', eq, fun v F2 H2 e2 R2 p2 => k v F2 H2 (e1.trans e2) R2 p2⟩
  · cases eq
/-! ### is None -/
theorem Rp.nonIff {F : Hp} {v : V} {d : D} (h : Rp K ct F v d) (hd : d = .non → False) : v ≠ .non := by
  cases h <;> first | exact (hd rfl).elim | (intro q; cases q)
theorem t_isN {σ : St} {H : Hp} {Q : VK} (w : tV K ct (isNM ma) σ H Q) : tIsN (tV K ct fun env => pz (ma env)) σ H Q := by
  obtain ⟨z, F, env, rel, r, env', eq, k⟩ := w
  unfold isNM at eq
  split at eq
  · rename_i env1 q
    cases eq
    refine ⟨z, F, env, rel, _, _, q, fun v F1 H1 e1 R1 res => ?_⟩
    cases res
    exact k _ F1 H1 e1 R1 (.bl true)
  · rename_i d env1 hd q
    cases eq
    refine ⟨z, F, env, rel, _, _, q, fun v F1 H1 e1 R1 res => ?_⟩
    have hne := Rp.nonIff res hd
    show Q (.bl (decide (v = V.non))) H1
    rw [decide_eq_false hne]
    exact k _ F1 H1 e1 R1 (.bl false)
  · cases eq
theorem t_notN {σ : St} {H : Hp} {Q : VK} (w : tV K ct (notNM ma) σ H Q) : tNotN (tV K ct fun env => pz (ma env)) σ H Q := by
  obtain ⟨z, F, env, rel, r, env', eq, k⟩ := w
  unfold notNM at eq
  split at eq
  · rename_i env1 q
    cases eq
    refine ⟨z, F, env, rel, _, _, q, fun v F1 H1 e1 R1 res => ?_⟩
    cases res
    exact k _ F1 H1 e1 R1 (.bl false)
  · rename_i d env1 hd q
    cases eq
    refine ⟨z, F, env, rel, _, _, q, fun v F1 H1 e1 R1 res => ?_⟩
    have hne := Rp.nonIff res hd
    show Q (.bl (!decide (v = V.non))) H1
    rw [decide_eq_false hne]
    exact k _ F1 H1 e1 R1 (.bl true)
  · cases eq
theorem pe_isNV {j : Nat} {pos' : Pos} (ha : PE X a (tV X.K ct ma)) : PE X (.Compare a [.Is] [.Constant .none j pos'] pos) (tV X.K ct (isNM ma)) := (pe_cmp (pc_isN ha.vpz) rfl).vimp fun _ _ _ w => t_isN w
theorem pe_notNV {j : Nat} {pos' : Pos} (ha : PE X a (tV X.K ct ma)) : PE X (.Compare a [.IsNot] [.Constant .none j pos'] pos) (tV X.K ct (notNM ma)) := (pe_cmp (pc_notN ha.vpz) rfl).vimp fun _ _ _ w => t_notN w
theorem t_boolM {σ : St} {H : Hp} {Q : Bool → Hp → Prop} (w : VI.tB K ct (boolM m) σ H Q) : tV K ct m σ H fun x H' => ∃ c, x = .bl c ∧ Q c H' := by
  obtain ⟨z, F, env, rel, r, env', eq, k⟩ := w
  unfold boolM at eq
  split at eq
  · rename_i b env1 q
    cases eq
    refine ⟨z, F, env, rel, _, _, q, fun v F' H' ex rl res => ?_⟩
    cases res
    exact ⟨_, rfl, k F' H' ex rl⟩
  · cases eq
theorem pt_isNV {j : Nat} {pos' : Pos} (ha : PE X a (tV X.K ct ma)) : PT X (.Compare a [.Is] [.Constant .none j pos'] pos) (VI.tB X.K ct (boolM (isNM ma))) := (pt_cmp (pc_isN ha.vpz) rfl).vimp fun _ _ _ w => t_isN (t_boolM w)
theorem pt_notNV {j : Nat} {pos' : Pos} (ha : PE X a (tV X.K ct ma)) : PT X (.Compare a [.IsNot] [.Constant .none j pos'] pos) (VI.tB X.K ct (boolM (notNM ma))) := (pt_cmp (pc_notN ha.vpz) rfl).vimp fun _ _ _ w => t_notN (t_boolM w)
/-! ### chains -/
theorem t_chain {o o' : CO} {σ : St} {H : Hp} {Q : VK} (w : tV K ct (chainM o o' ma mb mc) σ H Q) :
    tChain (r2 K ct (cmpR o)) (r2 K ct (cmpR o')) (tV K ct fun env => pz (ma env)) (tV K ct fun env => pz (mb env)) (tV K ct fun env => pz (mc env)) σ H Q := by
  obtain ⟨z, F, env, rel, r, env', eq, k⟩ := w
  unfold chainM at eq
  cases q : pz (ma env) with
  | none => rw [q] at eq; cases eq
  | some p =>
    obtain ⟨x, env1⟩ := p
    rw [q] at eq
    simp only at eq
    cases q2 : pz (mb env1) with
    | none => rw [q2] at eq; cases eq
    | some p2 =>
      obtain ⟨y, env2⟩ := p2
      rw [q2] at eq
      simp only at eq
      cases o1 : opD env2 x with
      | none => rw [o1] at eq; cases eq
      | some d =>
        cases o2 : opD env2 y with
        | none => rw [o1, o2] at eq; cases eq
        | some e =>
          rw [o1, o2] at eq
          simp only at eq
          refine ⟨z, F, env, rel, x, env1, q, fun v1 F1 H1 e1 R1 p1 => ⟨z, F1, env1, R1, y, env2, q2, fun v2 F2 H2 e2 R2 p2 => ?_⟩⟩
          cases hf : cmpD o d e with
          | none => rw [hf] at eq; cases eq
          | some b =>
            rw [hf] at eq
            refine ⟨F2, d, e, .dt (.bl b), R2.r.sub, OpAt.of R2 (p1.calm (pz_calm q) e2) o1, OpAt.of R2 p2 o2, by unfold cmpR; rw [hf]; rfl, fun v F3 H3 o => ?_⟩
            obtain ⟨e3, R3, p3⟩ := o.rel R2
            have p3' : Rp K ct F3 v (.bl b) := p3
            cases p3'
            cases b with
            | false =>
              simp only at eq
              cases eq
              exact ⟨false, rfl, iteF (k _ F3 H3 ((e1.trans e2).trans e3) R3 (.bl false))⟩
            | true =>
              simp only at eq
              refine ⟨true, rfl, iteT ?_⟩
              cases q3 : pz (mc env2) with
              | none => rw [q3] at eq; cases eq
              | some p4 =>
                obtain ⟨w, env3⟩ := p4
                rw [q3] at eq
                simp only at eq
                cases o3 : opD env3 y with
                | none => rw [o3] at eq; cases eq
                | some e' =>
                  cases o4 : opD env3 w with
                  | none => rw [o3, o4] at eq; cases eq
                  | some g =>
                    rw [o3, o4] at eq
                    simp only at eq
                    cases hf2 : cmpD o' e' g with
                    | none => rw [hf2] at eq; cases eq
                    | some b2 =>
                      rw [hf2] at eq
                      cases eq
                      refine ⟨z, F3, env2, R3, w, _, q3, fun v4 F4 H4 e4 R4 p4 => ?_⟩
                      refine ⟨F4, e', g, .dt (.bl b2), R4.r.sub, OpAt.of R4 (p2.calm (pz_calm q2) (e3.trans e4)) o3, OpAt.of R4 p4 o4, by unfold cmpR; rw [hf2]; rfl, fun v5 F5 H5 o5 => ?_⟩
                      obtain ⟨e5, R5, p5⟩ := o5.rel R4
                      exact k v5 F5 H5 ((((e1.trans e2).trans e3).trans e4).trans e5) R5 p5
theorem pe_chainV {o o' : CO} (hu : X.A.units + 65 < cLine) (ha : PE X a (tV X.K ct ma)) (hb : PE X b (tV X.K ct mb)) (hc : PE X c (tV X.K ct mc)) (hm : isSet c = false) : PE X (.Compare a [cop o, cop o'] [b, c] pos) (tV X.K ct (chainM o o' ma mb mc)) :=
  (pe_chain (op_cmp (ct := ct) hu o) (op_cmp (ct := ct) hu o') ha.vpz hb.vpz hc.vpz (show behindInMarks (cop o') c = false from marks_of hm)).vimp fun _ _ _ w => t_chain w
theorem pt_chainV {o o' : CO} (hu : X.A.units + 65 < cLine) (ha : PE X a (tV X.K ct ma)) (hb : PE X b (tV X.K ct mb)) (hc : PE X c (tV X.K ct mc)) (hm : isSet c = false) : PT X (.Compare a [cop o, cop o'] [b, c] pos) (VI.tB X.K ct (boolM (chainM o o' ma mb mc))) :=
  (pt_chain (op_cmp (ct := ct) hu o) (op_cmp (ct := ct) hu o') ha.vpz hb.vpz hc.vpz (show behindInMarks (cop o') c = false from marks_of hm)).vimp fun _ _ _ w => t_chain (t_boolM w)
end
end VI
namespace VI
open PySem L2
section
variable {X : Cx} {K : PySem.W.Frag} {ct : Nat → Addr} {e a b c : Expr} {es : List Expr} {m ma mb mc : Env' → Option (R × Env')} {ms : Env' → Option (List R × Env')} {pos : Pos}
/-! ### slices -/
def tOi (K : PySem.W.Frag) (ct : Nat → Addr) (mo : Env' → Option (Option Int × Env')) : TO := fun σ H Q => ∃ z F env, RelB K ct z F H σ env ∧ ∃ o env', mo env = some (o, env') ∧ ∀ F' H', Ex F F' → RelB K ct z F' H' σ env' → Q o H'
theorem _root_.L2.PO.vimp {X : Cx} {e : Option Expr} {t t' : TO} (h : PO X e t) (q : ∀ σ H Q, t' σ H Q → t σ H Q) : PO X e t' := ⟨fun pins s σ H Q I w => h.run pins s σ H Q I (q σ H Q w)⟩
theorem po_noneV : PO X none (tOi X.K ct fun env => some (none, env)) := po_none.vimp fun σ H Q ⟨z, F, env, rel, r, env', eq, k⟩ => by cases eq; exact k F H (Ex.refl F) rel
theorem po_someV (h : PE X e (tV X.K ct m)) : PO X (some e) (tOi X.K ct (soM m)) := by
  refine (po_some h).vimp fun σ H Q w => ?_
  obtain ⟨z, F, env, rel, r, env', eq, k⟩ := w
  unfold soM at eq
  split at eq
  · rename_i i env1 q
    cases eq
    refine ⟨z, F, env, rel, _, _, q, fun v F' H' ex rl res => ?_⟩
    cases res
    exact ⟨_, rfl, k F' H' ex rl⟩
  · cases eq
theorem pe_sliV {lo hi : Option Expr} {ml mh : Env' → Option (Option Int × Env')} {p2 : Pos} (h : PE X e (tV X.K ct m)) (hl : PO X lo (tOi X.K ct ml)) (hh : PO X hi (tOi X.K ct mh)) : PE X (.Subscript e (.Slice lo hi none p2) pos) (tV X.K ct (sliM m ml mh)) := by
  refine (pe_slice (sl_ok (ct := ct)) h.vpz hl hh).vimp fun σ H Q w => ?_
  obtain ⟨z, F, env, rel, r, env', eq, k⟩ := w
  unfold sliM at eq
  cases q : pz (m env) with
  | none => rw [q] at eq; cases eq
  | some p =>
    obtain ⟨x, env1⟩ := p
    rw [q] at eq
    simp only at eq
    cases q2 : ml env1 with
    | none => rw [q2] at eq; cases eq
    | some p2 =>
      obtain ⟨l, env2⟩ := p2
      rw [q2] at eq
      simp only at eq
      cases q3 : mh env2 with
      | none => rw [q3] at eq; cases eq
      | some p3 =>
        obtain ⟨hh, env3⟩ := p3
        rw [q3] at eq
        simp only at eq
        cases o1 : opD env3 x with
        | none => rw [o1] at eq; cases eq
        | some d =>
          rw [o1] at eq
          simp only at eq
          cases hf : sliD d l hh with
          | none => rw [hf] at eq; cases eq
          | some r0 =>
            rw [hf] at eq
            cases eq
            refine ⟨z, F, env, rel, x, env1, q, fun v1 F1 H1 e1 R1 p1 => ⟨z, F1, env1, R1, l, env2, q2, fun F2 H2 e2 R2 => ⟨z, F2, env2, R2, hh, _, q3, fun F3 H3 e3 R3 => ?_⟩⟩⟩
            refine ⟨F3, d, _, R3.r.sub, OpAt.of R3 (p1.calm (pz_calm q) (e2.trans e3)) o1, hf, fun v F4 H4 o => ?_⟩
            obtain ⟨e4, R4, p4⟩ := o.rel R3
            exact k v F4 H4 (((e1.trans e2).trans e3).trans e4) R4 p4
/-! ### built-in functions -/
theorem t_bi {f : List D → Option R} {σ : St} {H : Hp} {Q : VK} (w : tV K ct (biM f ms) σ H Q) : tCB (rN K ct f) (tR K ct ms) σ H Q := by
  obtain ⟨z, F, env, rel, r, env', eq, k⟩ := w
  unfold biM at eq
  cases q : ms env with
  | none => rw [q] at eq; cases eq
  | some p =>
    obtain ⟨rs, env1⟩ := p
    rw [q] at eq
    simp only at eq
    cases q2 : rs.mapM (opD env1) with
    | none => rw [q2] at eq; cases eq
    | some ds =>
      rw [q2] at eq
      simp only at eq
      cases hf : f ds with
      | none => rw [hf] at eq; cases eq
      | some r0 =>
        rw [hf] at eq
        cases eq
        refine ⟨z, F, env, rel, rs, _, q, fun vs F1 H1 e1 R1 ra => ⟨F1, ds, _, R1.r.sub, mapM_ops R1 ra q2, hf, fun v F2 H2 o => ?_⟩⟩
        obtain ⟨e2, R2, p2⟩ := o.rel R1
        exact k v F2 H2 (e1.trans e2) R2 p2
theorem pe_biB {f : List D → Option R} {x : Str} {id : String} {p : Pos} (hc : CallR X (.builtin id) (rN X.K ct f)) (hg : Gl X x) (hm : X.mg x = none) (hv : bootBuiltins x = some (.builtin id)) (ha : PA X (e :: es) (tR X.K ct ms)) (hn : x ≠ "__name__") (hd : (x == ("__debug__" : Str)) = false)
    (hs : isStar e = false) (hss : (es.all fun e => !isStar e) = true) : PE X (.Call (.Name x p) (e :: es) [] pos) (tV X.K ct (biM f ms)) :=
  (pe_callB hc hg hm hv ha hn hd (star_of hs) (nostar_any hss)).vimp fun _ _ _ w => t_bi w
theorem pe_biT {f : List D → Option R} {x : Str} {id : String} {p : Pos} (hc : CallR X (.type id) (rN X.K ct f)) (hg : Gl X x) (hm : X.mg x = none) (hv : bootBuiltins x = some (.type id)) (ha : PA X (e :: es) (tR X.K ct ms)) (hn : x ≠ "__name__") (hd : (x == ("__debug__" : Str)) = false)
    (hs : isStar e = false) (hss : (es.all fun e => !isStar e) = true) : PE X (.Call (.Name x p) (e :: es) [] pos) (tV X.K ct (biM f ms)) :=
  (pe_callTy hc hg hm hv ha hn hd (star_of hs) (nostar_any hss)).vimp fun _ _ _ w => t_bi w
/-! ### methods of built-in types -/
theorem t_bm {T : String} {f : D → List D → Option R} {σ : St} {H : Hp} {Q : VK} (ht : ∀ F H v d ds r, Ex F H → OpAt K ct F H v d → f d ds = some r → tyV K T v H) (hk : ∀ env env1 r, pz (m env) = some (r, env1) → ∃ d, r = .dt d)
    (w : tV K ct (bmM f m ms) σ H Q) : tBM K T (rM K ct f) (tV K ct fun env => pz (m env)) (tR K ct ms) σ H Q := by
  obtain ⟨z, F, env, rel, r, env', eq, k⟩ := w
  unfold bmM at eq
  cases q : pz (m env) with
  | none => rw [q] at eq; cases eq
  | some p =>
    obtain ⟨x, env1⟩ := p
    rw [q] at eq
    simp only at eq
    cases q2 : ms env1 with
    | none => rw [q2] at eq; cases eq
    | some p2 =>
      obtain ⟨rs, env2⟩ := p2
      rw [q2] at eq
      simp only at eq
      cases o1 : opD env2 x with
      | none => rw [o1] at eq; cases eq
      | some d =>
        cases q3 : rs.mapM (opD env2) with
        | none => rw [o1, q3] at eq; cases eq
        | some ds =>
          rw [o1, q3] at eq
          simp only at eq
          cases hf : f d ds with
          | none => rw [hf] at eq; cases eq
          | some r0 =>
            rw [hf] at eq
            cases eq
            obtain ⟨d0, rfl⟩ := hk env env1 x q
            cases o1
            refine ⟨z, F, env, rel, _, env1, q, fun v1 F1 H1 e1 R1 p1 => ⟨ht F1 H1 v1 d ds _ R1.r.sub (.inl p1) hf, z, F1, env1, R1, rs, _, q2, fun vs F2 H2 e2 R2 ra => ?_⟩⟩
            refine ⟨F2, d, ds, _, R2.r.sub, .inl (Rp.mono e2 p1), mapM_ops R2 ra q3, hf, fun v F3 H3 o => ?_⟩
            obtain ⟨e3, R3, p3⟩ := o.rel R2
            exact k v F3 H3 ((e1.trans e2).trans e3) R3 p3
theorem dataM_k {env env1 : Env'} {r : R} (h : pz (dataM m env) = some (r, env1)) : ∃ d, r = .dt d := by
  unfold dataM at h
  split at h
  · cases h; exact ⟨_, rfl⟩
  · cases h
theorem _root_.L2.PE.vdata (h : PE X e (tV X.K ct m)) : PE X e (tV X.K ct (dataM m)) := by
  refine h.vpz.vimp fun σ H Q w => ?_
  obtain ⟨z, F, env, rel, r, env', eq, k⟩ := w
  unfold dataM at eq
  split at eq
  · rename_i d env1 q
    cases eq
    exact ⟨z, F, env, rel, _, _, q, k⟩
  · cases eq
theorem str_tyV {F H : Hp} {v : V} {z : Str} (h : OpAt K ct F H v (.str z)) : tyV K "str" v H := by
  rw [h.str]; rfl
/-! ### displays -/
theorem pe_tupV {k : Nat} {ms : Env' → Option (List D × Env')} (h : PA X es (tA X.K ct ms)) : PE X (.Tuple es k pos) (tV X.K ct (tupM ms)) := by
  refine (pe_tupF h).vimp fun σ H Q w => ?_
  obtain ⟨z, F, env, rel, r, env', eq, k⟩ := w
  unfold tupM at eq
  cases q : ms env with
  | none => rw [q] at eq; cases eq
  | some p =>
    obtain ⟨ds, env1⟩ := p
    rw [q] at eq
    simp only at eq
    split at eq
    · rename_i hz
      cases eq
      refine ⟨z, F, env, rel, _, _, q, fun vs F1 H1 e1 R1 ra => ⟨by rw [ra.length]; exact hz, fun p o np ho => ?_⟩⟩
      obtain ⟨e2, R2, p2⟩ := (outTup R1.r.sub np ho ra).rel R1
      exact k _ _ _ (e1.trans e2) R2 p2
    · cases eq
theorem pe_lstV {ms : Env' → Option (List D × Env')} (h : PA X es (tA X.K ct ms)) : PE X (.List es pos) (tV X.K ct (lstM ms)) := by
  refine (pe_lst h).vimp fun σ H Q w => ?_
  obtain ⟨z, F, env, rel, r, env', eq, k⟩ := w
  unfold lstM at eq
  cases q : ms env with
  | none => rw [q] at eq; cases eq
  | some p =>
    obtain ⟨ds, env1⟩ := p
    rw [q] at eq
    simp only at eq
    split at eq
    · rename_i hz
      cases eq
      refine ⟨z, F, env, rel, _, _, q, fun vs F1 H1 e1 R1 ra => ⟨by rw [ra.length]; exact hz, fun p np => ?_⟩⟩
      obtain ⟨e2, R2, p2⟩ := (outLst np ra).rel R1
      exact k _ _ _ (e1.trans e2) R2 p2
    · cases eq
/-! ### attributes -/
theorem pe_fldV {f : Str} (hcl : ∀ c, Cls X.K (ct c)) (hn : ∀ c, NoAttr X.K (ct c) f) (h : PE X e (tV X.K ct m)) (hb : isNoArg e = false) : PE X (.Attribute e f pos) (tV X.K ct (fldM f m)) := by
  refine (pe_fld h.vpz (base_of hb)).vimp fun σ H Q w => ?_
  obtain ⟨z, F, env, rel, r, env', eq, k⟩ := w
  unfold fldM at eq
  cases q : pz (m env) with
  | none => rw [q] at eq; cases eq
  | some p =>
    obtain ⟨x, env1⟩ := p
    rw [q] at eq
    simp only at eq
    split at eq
    · rename_i c fs o1
      split at eq
      · rename_i d hl
        cases eq
        refine ⟨z, F, env, rel, _, _, q, fun v1 F1 H1 e1 R1 p1 => ?_⟩
        obtain ⟨a, dx, vs, rfl, h1, rf⟩ := (OpAt.of R1 p1 o1).ins R1.r.sub
        obtain ⟨v, h2, h3⟩ := rf.look hl
        exact ⟨a, ct c, dx, vs, v, rfl, h1, hcl c, hn c, h2, k v F1 H1 e1 R1 h3⟩
      · cases eq
    · cases eq
/-! ### methods that change a list -/
theorem slot_lst {z : Fm} {F H : Hp} {σ : St} {env : Env'} {i : Nat} {b : Bool} {l : List D} (R0 : RelB K ct z F H σ env) (q : env[i]? = some (.ow b (.lst l))) : ∃ a xs, σ[i]? = some (some (.ref a)) ∧ F a = none ∧ H a = some (.lst xs) ∧ RpA K ct F xs l := by
  obtain ⟨a, h1, h2, xs, h3, h4⟩ := R0.r.ow i b _ q
  exact ⟨a, xs, h1, h2, h3, h4⟩
theorem tyV_lst {H : Hp} {a : Addr} {xs : List V} (h : H a = some (.lst xs)) : tyV K "list" (.ref a) H := .inl ⟨rfl, _, SqL.of h⟩
end
end VI
namespace VI
open PySem L2
section
variable {X : Cx} {K : PySem.W.Frag} {ct : Nat → Addr} {e a b c : Expr} {es : List Expr} {m ma mb mc : Env' → Option (R × Env')} {ms : Env' → Option (List R × Env')} {pos : Pos}
theorem few_one {e : Expr} {cpos : Pos} (hs : isStar e = false) : ((backTo cpos (starEach [e] X.env)).all (fun x => !x.1) && (backToKw cpos (keywordEach [] X.env)).all (fun x => x.1.isSome)
      && decide (([e] : List Expr).length + ([] : List Keyword).length + (if ([] : List Keyword).isEmpty then 0 else 1) < 30)) = true := by
  rw [star_of hs]; rfl
theorem isOw_at {env : Env'} {i : Nat} (h : isOw env i = true) : ∃ b l, env[i]? = some (.ow b (.lst l)) := by
  unfold isOw at h
  split at h
  · rename_i b l q; exact ⟨b, l, q⟩
  · cases h
theorem var_own {z : Fm} {F H : Hp} {σ : St} {env : Env'} {i : Nat} {b : Bool} {l : List D} (q : env[i]? = some (.ow b (.lst l))) : varM i env = some (.sl i, env) := by
  unfold varM; rw [q]
theorem pe_appendV {x : Str} {i : Nat} {p apos : Pos} (hv : PE X (.Name x p) (tV X.K ct (varM i))) (h : PE X e (tV X.K ct m)) (hs : isStar e = false) (hl : (apos.endLine == pos.line) = true) : PE X (.Call (.Attribute (.Name x p) "append" apos) [e] [] pos) (tV X.K ct (appendM i m)) := by
  refine (pe_bm PySem.F.plainAttrs_list PySem.F.slot_list_append PySem.F.type_list_append mt_append hv (pa_cons h.vfrz pa_nil (star_of hs)) (base_of rfl) (few_one hs) hl (star_of hs) rfl).vimp fun σ H Q w => ?_
  obtain ⟨z, F, env, rel, r, env', eq, k⟩ := w
  unfold appendM at eq
  split at eq
  · rename_i ho
    obtain ⟨b0, l0, q0⟩ := isOw_at ho
    split at eq
    · rename_i d env1 q1
      split at eq
      · rename_i b l q2
        split at eq
        · rename_i hz
          cases eq
          refine ⟨z, F, env, rel, _, _, var_own (z := z) (F := F) (H := H) (σ := σ) q0, fun v1 F1 H1 e1 R1 p1 => ?_⟩
          obtain ⟨a, xs, h1, h2, h3, h4⟩ := slot_lst R1 q0
          have p1' : σ[i]? = some (some v1) := p1
          rw [h1] at p1'; cases p1'
          refine ⟨tyV_lst h3, z, F1, env, R1, _, _, q1, fun v2 F2 H2 e2 R2 p2 => ?_⟩
          obtain ⟨a2, ys, g1, g2, g3, g4⟩ := slot_lst R2 q2
          rw [h1] at g1; cases g1
          refine ⟨a, ys, v2, rfl, rfl, g3, by rw [g4.length]; exact hz, ?_⟩
          refine k .non F2 _ (e1.trans e2) (R2.write (H' := upd H2 a (.lst (ys ++ [v2]))) q2 h1 (fun c hc => upd_ne hc) ⟨ys ++ [v2], upd_same, g4.append (.cons p2 .nil)⟩) .non
        · cases eq
      · cases eq
    · cases eq
  · cases eq
theorem pe_popV {x : Str} {i : Nat} {p apos : Pos} (hv : PE X (.Name x p) (tV X.K ct (varM i))) (h : PE X e (tV X.K ct m)) (hs : isStar e = false) (hl : (apos.endLine == pos.line) = true) : PE X (.Call (.Attribute (.Name x p) "pop" apos) [e] [] pos) (tV X.K ct (popM i m)) := by
  refine (pe_bm PySem.F.plainAttrs_list PySem.F.slot_list_pop PySem.F.type_list_pop mt_popAt hv (pa_cons h.vpz pa_nil (star_of hs)) (base_of rfl) (few_one hs) hl (star_of hs) rfl).vimp fun σ H Q w => ?_
  obtain ⟨z, F, env, rel, r, env', eq, k⟩ := w
  unfold popM at eq
  split at eq
  · rename_i ho
    obtain ⟨b0, l0, q0⟩ := isOw_at ho
    split at eq
    · rename_i kk env1 q1
      split at eq
      · rename_i b l q2
        split at eq
        · rename_i hz
          split at eq
          · rename_i j hj
            split at eq
            · rename_i y hy
              cases eq
              refine ⟨z, F, env, rel, _, _, var_own (z := z) (F := F) (H := H) (σ := σ) q0, fun v1 F1 H1 e1 R1 p1 => ?_⟩
              obtain ⟨a, xs, h1, h2, h3, h4⟩ := slot_lst R1 q0
              have p1' : σ[i]? = some (some v1) := p1
              rw [h1] at p1'; cases p1'
              refine ⟨tyV_lst h3, z, F1, env, R1, _, _, q1, fun v2 F2 H2 e2 R2 p2 => ?_⟩
              obtain ⟨a2, ys, g1, g2, g3, g4⟩ := slot_lst R2 q2
              rw [h1] at g1; cases g1
              cases p2
              obtain ⟨w, hw, rw'⟩ := g4.get hy
              refine ⟨a, ys, kk, j, w, rfl, rfl, g3, hz.1, hz.2, by rw [g4.length]; exact hj, hw, ?_⟩
              exact k w F2 _ (e1.trans e2) (R2.write (H' := upd H2 a (.lst (ys.eraseIdx j))) q2 h1 (fun c hc => upd_ne hc) ⟨_, upd_same, g4.eraseIdx j⟩) rw'
            · cases eq
          · cases eq
        · cases eq
      · cases eq
    · cases eq
  · cases eq
theorem pe_extendV {x : Str} {i : Nat} {p apos : Pos} (hv : PE X (.Name x p) (tV X.K ct (varM i))) (h : PE X e (tV X.K ct m)) (hs : isStar e = false) (hl : (apos.endLine == pos.line) = true) : PE X (.Call (.Attribute (.Name x p) "extend" apos) [e] [] pos) (tV X.K ct (extendM i m)) := by
  refine (pe_bm PySem.F.plainAttrs_list PySem.F.slot_list_extend PySem.F.type_list_extend mt_extend hv (pa_cons h.vpz pa_nil (star_of hs)) (base_of rfl) (few_one hs) hl (star_of hs) rfl).vimp fun σ H Q w => ?_
  obtain ⟨z, F, env, rel, r, env', eq, k⟩ := w
  unfold extendM at eq
  split at eq
  · rename_i ho
    obtain ⟨b0, l0, q0⟩ := isOw_at ho
    split at eq
    · rename_i l2 env1 q1
      split at eq
      · rename_i b l q2
        split at eq
        · rename_i hz
          cases eq
          refine ⟨z, F, env, rel, _, _, var_own (z := z) (F := F) (H := H) (σ := σ) q0, fun v1 F1 H1 e1 R1 p1 => ?_⟩
          obtain ⟨a, xs, h1, h2, h3, h4⟩ := slot_lst R1 q0
          have p1' : σ[i]? = some (some v1) := p1
          rw [h1] at p1'; cases p1'
          refine ⟨tyV_lst h3, z, F1, env, R1, _, _, q1, fun v2 F2 H2 e2 R2 p2 => ?_⟩
          obtain ⟨a2, ys, g1, g2, g3, g4⟩ := slot_lst R2 q2
          rw [h1] at g1; cases g1
          cases p2 with
          | lst f1 f2 =>
            rename_i b3 zs
            refine ⟨a, b3, ys, zs, rfl, rfl, g3, R2.r.sub _ _ f1, by rw [g4.length, f2.length]; exact hz, ?_⟩
            exact k .non F2 _ (e1.trans e2) (R2.write (H' := upd H2 a (.lst (ys ++ zs))) q2 h1 (fun c hc => upd_ne hc) ⟨_, upd_same, g4.append f2⟩) .non
        · cases eq
      · cases eq
    · cases eq
  · cases eq
/-! ### results that are kept -/
theorem keep_res {z : Fm} {F H : Hp} {σ : St} {env env1 : Env'} {v : V} {r r1 : R} (R0 : RelB K ct z F H σ env) (h : Res K ct z F H σ env v r) (e : keepR r env = some (r1, env1)) :
    ∃ F', Ex F F' ∧ RelB K ct z F' H σ env1 ∧ Res K ct z F' H σ env1 v r1 ∧ ∀ i, r1 ≠ .sl i := by
  cases r with
  | dt d => cases e; exact ⟨F, Ex.refl F, R0, h, fun _ q => nomatch q⟩
  | nw d => cases e; exact ⟨F, Ex.refl F, R0, h, fun _ q => nomatch q⟩
  | sl i =>
    unfold keepR at e
    simp only at e
    split at e
    · rename_i b d q
      cases e
      obtain ⟨F', w, ex, h1, h2, R1⟩ := R0.frzSlot q
      have h' : σ[i]? = some (some v) := h
      rw [h1] at h'; cases h'
      exact ⟨F', ex, R1, h2, fun _ q => nomatch q⟩
    · cases e
theorem _root_.L2.PE.vkeep (h : PE X e (tV X.K ct m)) : PE X e (tV X.K ct (keepM m)) := by
  refine h.vimp fun σ H Q w => ?_
  obtain ⟨z, F, env, rel, r, env', eq, k⟩ := w
  unfold keepM at eq
  cases q : m env with
  | none => rw [q] at eq; cases eq
  | some p =>
    obtain ⟨r0, env0⟩ := p
    rw [q] at eq
    refine ⟨z, F, env, rel, _, _, q, fun v F' H' ex rl res => ?_⟩
    obtain ⟨F2, e2, R2, rp, _⟩ := keep_res rl res eq
    exact k v F2 H' (ex.trans e2) R2 rp
theorem _root_.L2.PE.vlend (h : PE X e (tV X.K ct m)) : PE X e (tV X.K ct (lendM m)) := by
  refine h.vimp fun σ H Q w => ?_
  obtain ⟨z, F, env, rel, r, env', eq, k⟩ := w
  unfold lendM at eq
  split at eq
  · cases eq
  · exact ⟨z, F, env, rel, _, _, eq, k⟩
/-- a temporary object is not touched by what follows -/
theorem Res.later {z : Fm} {F F' H H' : Hp} {σ : St} {env env' : Env'} {v : V} {r : R} (h : Res K ct z F H σ env v r) (R1 : RelB K ct (here z.L z.W F H σ env) F' H' σ env') (e : Ex F F') : Res K ct z F' H' σ env' v r := by
  cases r with
  | dt d => exact Rp.mono e h
  | sl i => exact h
  | nw d =>
    obtain ⟨a, rfl, hF, ho, nf, hz⟩ := h
    obtain ⟨o, q⟩ := ho.obj
    have k1 : H' a = some o := R1.n.keep a o q nf
    have k2 : F' a = F a := R1.n.nofz a (by show H a ≠ none; rw [q]; simp) nf
    refine ⟨a, rfl, k2.trans hF, (ho.heap (k1.trans q.symm)).mono e, fun f => ?_, hz⟩
    rcases R1.n.fo a f with w | w
    · exact nf w
    · have w' : H a = none := w
      rw [q] at w'; cases w'
/-- temporary objects among results -/
def tmps : List V → List R → List Addr
  | .ref a :: vs, .nw _ :: rs => a :: tmps vs rs
  | _ :: vs, _ :: rs => tmps vs rs
  | _, _ => []
structure ResB (K : PySem.W.Frag) (ct : Nat → Addr) (z : Fm) (F H : Hp) (σ : St) (env : Env') (vs : List V) (rs : List R) : Prop where
  all : ResA K ct z F H σ env vs rs
  nd : (tmps vs rs).Nodup
  fr : ∀ a ∈ tmps vs rs, H a ≠ none
def tRB (K : PySem.W.Frag) (ct : Nat → Addr) (ms : Env' → Option (List R × Env')) : TA := fun σ H Q => ∃ z F env, RelB K ct z F H σ env ∧ ∃ rs env', ms env = some (rs, env') ∧
  ∀ vs F' H', Ex F F' → RelB K ct z F' H' σ env' → ResB K ct z F' H' σ env' vs rs → (∀ a ∈ tmps vs rs, H a = none) → Q vs H'
theorem pa_nilB : PA X [] (tRB X.K ct nilR) := pa_nil.vimp fun σ H Q ⟨z, F, env, rel, r, env', eq, k⟩ => by
  cases eq
  exact k _ F H (Ex.refl F) rel ⟨.nil, .nil, fun _ h => nomatch h⟩ fun _ h => nomatch h
theorem ResA.zz {z z' : Fm} {F H : Hp} {σ : St} {env : Env'} (h0 : ∀ a, z'.H a = none → z.H a = none) : ∀ {vs : List V} {rs : List R}, ResA K ct z' F H σ env vs rs → ResA K ct z F H σ env vs rs
  | _, _, .nil => .nil
  | _, _, .cons (r := r) h t => by
    refine .cons ?_ (ResA.zz h0 t)
    cases r with
    | dt d => exact h
    | sl i => exact h
    | nw d =>
      obtain ⟨a, e1, e2, e3, e4, e5⟩ := h
      exact ⟨a, e1, e2, e3, e4, h0 a e5⟩
theorem pa_consB (h : PE X e (tV X.K ct m)) (hs : PA X es (tRB X.K ct ms)) (hst : isStar e = false) : PA X (e :: es) (tRB X.K ct (consR m ms)) := by
  refine (pa_cons h hs (star_of hst)).vimp fun σ H Q w => ?_
  obtain ⟨z, F, env, rel, r, env', eq, k⟩ := w
  unfold consR at eq
  cases q : m env with
  | none => rw [q] at eq; cases eq
  | some p =>
    obtain ⟨r0, env1⟩ := p
    rw [q] at eq
    simp only at eq
    cases q3 : ms env1 with
    | none => rw [q3] at eq; cases eq
    | some p3 =>
      obtain ⟨rs, env2⟩ := p3
      rw [q3] at eq
      cases eq
      have S0 := rel.start
      refine ⟨here z.L z.W F H σ env, F, env, S0, r0, env1, q, fun v F1 H1 e1 R1 p1 => ?_⟩
      have RZ1 := rel.outer R1
      have S1 := RZ1.start
      refine ⟨_, F1, env1, S1, rs, _, q3, fun vs F2 H2 e2 R2 rb hn => ?_⟩
      have RZ2 := RZ1.outer R2
      have p1z : Res X.K ct z F1 H1 σ env1 v r0 := by
        cases r0 with
        | dt d => exact p1
        | sl i => exact p1
        | nw d =>
          obtain ⟨a, g1, g2, g3, g4, g5⟩ := p1
          exact ⟨a, g1, g2, g3, g4, rel.noZ g5⟩
      have pl := p1z.later R2 e2
      have za : ∀ a, (here z.L z.W F1 H1 σ env1).H a = none → z.H a = none := fun a ha => RZ1.noZ ha
      have th : ∀ a, H a ≠ none → H1 a ≠ none := fun a ha => R1.n.th a ha
      refine k (v :: vs) F2 H2 (e1.trans e2) RZ2 ⟨.cons pl (rb.all.zz za), ?_, ?_⟩ ?_
      · cases r0 with
        | nw d =>
          obtain ⟨a, rfl, g2, g3, g4, g5⟩ := p1
          obtain ⟨o, ho⟩ := g3.obj
          show (a :: tmps vs rs).Nodup
          refine List.nodup_cons.mpr ⟨fun hm => ?_, rb.nd⟩
          have := hn a hm
          rw [ho] at this; cases this
        | dt d => cases v <;> exact rb.nd
        | sl i => cases v <;> exact rb.nd
      · cases r0 with
        | nw d =>
          obtain ⟨a, rfl, g2, g3, g4, g5⟩ := p1
          obtain ⟨o, ho⟩ := g3.obj
          intro a' ha'
          rcases List.mem_cons.mp (show a' ∈ a :: tmps vs rs from ha') with e' | e'
          · subst e'; exact R2.n.th a' (by show H1 a' ≠ none; rw [ho]; simp)
          · exact rb.fr a' e'
        | dt d => cases v <;> exact rb.fr
        | sl i => cases v <;> exact rb.fr
      · have old : ∀ a ∈ tmps vs rs, H a = none := fun a ha => by
          cases qa : H a with
          | none => rfl
          | some o => exact (th a (by rw [qa]; simp) (hn a ha)).elim
        cases r0 with
        | nw d =>
          obtain ⟨a, rfl, g2, g3, g4, g5⟩ := p1
          intro a' ha'
          rcases List.mem_cons.mp (show a' ∈ a :: tmps vs rs from ha') with e' | e'
          · subst e'; exact g5
          · exact old a' e'
        | dt d => cases v <;> exact old
        | sl i => cases v <;> exact old
end
end VI
namespace VI
open PySem L2
/-- a def keeps a promise where no repr is under way -/
structure FnG (Pr : Program) (w : World) (K : PySem.W.Frag) (mg : Str → Option Value) (base : Heap) (k : Nat) (f : Addr) (fd : FuncData) (ps : List Str) (sp : List V → Hp → VK → Prop) : Prop where
  len : ∀ vs H Q, sp vs H Q → vs.length = ps.length
  run : ∀ (A : Around) (outer : List Env) (s : Shared) (H : Hp) (args : Args) (us : List Value) (vs : List V) (Q : VK), Room k A → A.guards = some [] → Env0 Pr w K mg base A outer s H → BindsTo s fd args (ps.zip us) → Vals vs us → sp vs H Q →
    codeAny (model Pr w) A (.call (.ref f) args) (CR CX0 outer Pr w H s Q E0) s
/-- the promise of a def, by the interpreter -/
def spF (K : PySem.W.Frag) (ct : Nat → Addr) (cf : List Sl → Option (R × List Sl)) (n : Nat) (vs : List V) (H : Hp) (Q : VK) : Prop :=
  vs.length = n ∧ ∃ F ss, Rel K ct F H (vs.map some) ss ∧ (∀ (j : Nat) (d : D), ss[j]? ≠ some (.ow false d)) ∧ ∃ r ss', cf ss = some (r, ss') ∧
    ∀ v F' H', RelB K ct (here (vs.map some) (fun a => H a ≠ none) F H (vs.map some) ss) F' H' (vs.map some) ss' → Res K ct (here (vs.map some) (fun a => H a ≠ none) F H (vs.map some) ss) F' H' (vs.map some) ss' v r → Q v H'
section
variable {X : Cx} {K : PySem.W.Frag} {ct : Nat → Addr} {e : Expr} {es : List Expr} {pos : Pos}
theorem run_fnV {pins : List (Addr × Obj)} {σ : St} {H : Hp} {s : Shared} {Q : VK} {us : List Value} {vs : List V} {k : Nat} {f : Addr} {fd : FuncData} {ps : List Str} {sp : List V → Hp → VK → Prop}
    (F : FnG X.prog X.w X.K X.mg X.base k f fd ps sp) (hr : Room k X.A) (hg : X.A.guards = some []) (hb : Binds X.K fd ps []) (I : L2.Inv X pins σ H s) (r : Vals vs us) (h : sp vs H Q) :
    wpAny (model X.prog X.w) X.A (call (.ref f) us) (EP X pins σ Q) X.xe s := by
  have hl : (us ++ []).length = ps.length := by rw [List.append_nil, ← r.length]; exact F.len _ _ _ h
  have hb' := hb s us I.kIn hl
  rw [List.append_nil] at hb'
  refine wpAny_call (codeAny_mono (F.run X.A X.stack s H ⟨us, []⟩ us vs Q hr hg I.env0 hb' r h) ?_)
  intro rr s' hq
  cases rr with
  | error e => exact False.elim hq
  | ok fl => cases fl <;> first | exact I.after hq | exact False.elim hq
/-- the arguments of a call -/
theorem foot_args {z : Fm} {F H : Hp} {σ : St} {env : Env'} (R0 : RelB K ct z F H σ env) : ∀ {vs : List V} {rs : List R} {mt : List Bool} {ss : List Sl}, ResA K ct z F H σ env vs rs → argSl env rs mt = some ss →
    vs.length = ss.length ∧ rs.length = ss.length ∧ ∀ (j : Nat) (s : Sl), ss[j]? = some s → ∃ v r, vs[j]? = some v ∧ rs[j]? = some r ∧
      ((∃ d, s = .va d ∧ r = .dt d ∧ Rp K ct F v d) ∨ (∃ d a, s = .ow true d ∧ v = .ref a ∧ F a = none ∧ OwnAt K ct F H a d ∧ ((r = .nw d ∧ ¬ foot σ env a ∧ z.H a = none) ∨ ∃ i b, r = .sl i ∧ env[i]? = some (.ow b d) ∧ σ[i]? = some (some (.ref a)))))
  | _, _, mt, ss, .nil, e => by
    cases mt with
    | nil => unfold argSl at e; cases e; exact ⟨rfl, rfl, fun j s h => by simp at h⟩
    | cons m ms => unfold argSl at e; cases e
  | _, _, mt, ss, .cons (v := v) (vs := vs) (r := r) (rs := rs) h t, e => by
    cases mt with
    | nil => unfold argSl at e; cases e
    | cons m ms =>
      unfold argSl at e
      cases q : argSl env rs ms with
      | none => rw [q] at e; cases e
      | some ss1 =>
        rw [q] at e
        simp only at e
        obtain ⟨l1, l2, k⟩ := foot_args R0 t q
        have fin : ∀ s0, ss = s0 :: ss1 → ((∃ d, s0 = .va d ∧ r = .dt d ∧ Rp K ct F v d) ∨ (∃ d a, s0 = .ow true d ∧ v = .ref a ∧ F a = none ∧ OwnAt K ct F H a d ∧ ((r = .nw d ∧ ¬ foot σ env a ∧ z.H a = none) ∨ ∃ i b, r = .sl i ∧ env[i]? = some (.ow b d) ∧ σ[i]? = some (some (.ref a))))) →
            (v :: vs).length = ss.length ∧ (r :: rs).length = ss.length ∧ ∀ (j : Nat) (s : Sl), ss[j]? = some s → ∃ v' r', (v :: vs)[j]? = some v' ∧ (r :: rs)[j]? = some r' ∧
              ((∃ d, s = .va d ∧ r' = .dt d ∧ Rp K ct F v' d) ∨ (∃ d a, s = .ow true d ∧ v' = .ref a ∧ F a = none ∧ OwnAt K ct F H a d ∧ ((r' = .nw d ∧ ¬ foot σ env a ∧ z.H a = none) ∨ ∃ i b, r' = .sl i ∧ env[i]? = some (.ow b d) ∧ σ[i]? = some (some (.ref a))))) := fun s0 es hs => by
          subst es
          refine ⟨by simp [l1], by simp [l2], fun j s hj => ?_⟩
          cases j with
          | zero => simp at hj; subst hj; exact ⟨v, r, rfl, rfl, hs⟩
          | succ j => exact k j s (by simpa using hj)
        split at e
        · rename_i d
          exact fin _ (Option.some.inj e).symm (.inl ⟨d, rfl, rfl, h⟩)
        · rename_i d
          obtain ⟨a, e1, e2, e3, e4, e5⟩ := h
          exact fin _ (Option.some.inj e).symm (.inr ⟨d, a, rfl, e1, e2, e3, .inl ⟨rfl, e4, e5⟩⟩)
        · rename_i i
          split at e
          · rename_i b d q2
            obtain ⟨a, h1, h2, h3⟩ := R0.r.ow i b d q2
            have h' : σ[i]? = some (some v) := h
            rw [h1] at h'; cases h'
            exact fin _ (Option.some.inj e).symm (.inr ⟨d, a, rfl, rfl, h2, h3, .inr ⟨i, b, rfl, q2, h1⟩⟩)
          · cases e
        · cases e
theorem slots_ix : ∀ {rs : List R} {i j m : Nat}, (slotsOf rs).Nodup → rs[i]? = some (.sl m) → rs[j]? = some (.sl m) → i = j
  | [], i, j, m, _, h, _ => by simp at h
  | r :: rs, i, j, m, nd, h1, h2 => by
    have mem : ∀ {rs : List R} {k : Nat}, rs[k]? = some (.sl m) → m ∈ slotsOf rs := by
      intro rs
      induction rs with
      | nil => intro k h; simp at h
      | cons r rs ih =>
        intro k h
        cases k with
        | zero => simp at h; subst h; exact List.mem_cons_self
        | succ k =>
          have := ih (k := k) (by simpa using h)
          cases r <;> first | exact this | exact List.mem_cons_of_mem _ this
    have ndt : (slotsOf rs).Nodup := by cases r <;> first | exact nd | exact (List.nodup_cons.mp nd).2
    cases i with
    | zero =>
      cases j with
      | zero => rfl
      | succ j =>
        simp at h1; subst h1
        exact ((List.nodup_cons.mp nd).1 (mem (rs := rs) (k := j) (by simpa using h2))).elim
    | succ i =>
      cases j with
      | zero =>
        simp at h2; subst h2
        exact ((List.nodup_cons.mp nd).1 (mem (rs := rs) (k := i) (by simpa using h1))).elim
      | succ j => exact congrArg (· + 1) (slots_ix (rs := rs) ndt (by simpa using h1) (by simpa using h2))
theorem slots_mem : ∀ {rs : List R} {m : Nat}, m ∈ slotsOf rs → ∃ j : Nat, rs[j]? = some (.sl m)
  | [], m, h => nomatch h
  | r :: rs, m, h => by
    cases r with
    | sl i =>
      rcases List.mem_cons.mp h with e | e
      · subst e; exact ⟨0, rfl⟩
      · obtain ⟨j, q⟩ := slots_mem e; exact ⟨j + 1, by simpa using q⟩
    | dt d => obtain ⟨j, q⟩ := slots_mem (rs := rs) h; exact ⟨j + 1, by simpa using q⟩
    | nw d => obtain ⟨j, q⟩ := slots_mem (rs := rs) h; exact ⟨j + 1, by simpa using q⟩
theorem tmps_mem : ∀ {vs : List V} {rs : List R} {i : Nat} {a : Addr} {d : D}, vs[i]? = some (.ref a) → rs[i]? = some (.nw d) → a ∈ tmps vs rs
  | [], _, _, _, _, h, _ => by simp at h
  | _ :: _, [], _, _, _, _, h => by simp at h
  | v :: vs, r :: rs, i, a, d, h1, h2 => by
    cases i with
    | zero => simp at h1 h2; subst h1 h2; exact List.mem_cons_self
    | succ i =>
      have := tmps_mem (vs := vs) (rs := rs) (i := i) (by simpa using h1) (by simpa using h2)
      cases r <;> cases v <;> first | exact this | exact List.mem_cons_of_mem _ this
theorem tmps_ix : ∀ {vs : List V} {rs : List R} {i j : Nat} {a : Addr} {d d' : D}, (tmps vs rs).Nodup → vs[i]? = some (.ref a) → rs[i]? = some (.nw d) → vs[j]? = some (.ref a) → rs[j]? = some (.nw d') → i = j
  | [], _, _, _, _, _, _, _, h, _, _, _ => by simp at h
  | _ :: _, [], _, _, _, _, _, _, _, h, _, _ => by simp at h
  | v :: vs, r :: rs, i, j, a, d, d', nd, h1, h2, h3, h4 => by
    have ndt : (tmps vs rs).Nodup := by cases r <;> cases v <;> first | exact nd | exact (List.nodup_cons.mp nd).2
    cases i with
    | zero =>
      cases j with
      | zero => rfl
      | succ j =>
        simp at h1 h2; subst h1 h2
        exact ((List.nodup_cons.mp nd).1 (tmps_mem (vs := vs) (rs := rs) (i := j) (by simpa using h3) (by simpa using h4))).elim
    | succ i =>
      cases j with
      | zero =>
        simp at h3 h4; subst h3 h4
        exact ((List.nodup_cons.mp nd).1 (tmps_mem (vs := vs) (rs := rs) (i := i) (by simpa using h1) (by simpa using h2))).elim
      | succ j => exact congrArg (· + 1) (tmps_ix (vs := vs) (rs := rs) ndt (by simpa using h1) (by simpa using h2) (by simpa using h3) (by simpa using h4))
theorem lent_at : ∀ {rs : List R} {ss : List Sl} {env env' : Env'}, lentBack rs ss env = some env' → (slotsOf rs).Nodup → env'.length = env.length ∧ (∀ m : Nat, m ∉ slotsOf rs → env'[m]? = env[m]?) ∧
    ∀ (j m : Nat), rs[j]? = some (.sl m) → ∃ b d d', env[m]? = some (.ow b d) ∧ ss[j]? = some (.ow true d') ∧ env'[m]? = some (.ow b d')
  | [], [], env, env', h, _ => by unfold lentBack at h; cases h; exact ⟨rfl, fun _ _ => rfl, fun j m q => by simp at q⟩
  | [], _ :: _, env, env', h, _ => by unfold lentBack at h; cases h
  | .sl i :: rs, ss, env, env', h, nd => by
    obtain ⟨n1, n2⟩ := List.nodup_cons.mp (show (i :: slotsOf rs).Nodup from nd)
    cases ss with
    | nil => unfold lentBack at h; cases h
    | cons s ss =>
      cases s with
      | no => unfold lentBack at h; cases h
      | va d => unfold lentBack at h; cases h
      | ow bb d =>
        cases bb with
        | false => unfold lentBack at h; cases h
        | true =>
          unfold lentBack at h
          split at h
          · rename_i b d0 q
            obtain ⟨h1, h2, h3⟩ := lent_at h n2
            refine ⟨by rw [h1, List.length_set], fun m hm => ?_, fun j m hj => ?_⟩
            · have hm' : m ≠ i ∧ m ∉ slotsOf rs := by
                have hm2 : m ∉ i :: slotsOf rs := hm
                simpa using hm2
              rw [h2 m hm'.2, set_ne (Ne.symm hm'.1)]
            · cases j with
              | zero =>
                simp at hj; subst hj
                exact ⟨b, d0, d, q, rfl, by rw [h2 i n1]; exact set_self q⟩
              | succ j =>
                obtain ⟨b2, d2, d3, g1, g2, g3⟩ := h3 j m (by simpa using hj)
                have hne : i ≠ m := fun e => by
                  subst e
                  refine n1 ?_
                  have mm : ∀ {rs : List R} {k : Nat}, rs[k]? = some (.sl i) → i ∈ slotsOf rs := by
                    intro rs
                    induction rs with
                    | nil => intro k h; simp at h
                    | cons r rs ih =>
                      intro k h
                      cases k with
                      | zero => simp at h; subst h; exact List.mem_cons_self
                      | succ k =>
                        have := ih (k := k) (by simpa using h)
                        cases r <;> first | exact this | exact List.mem_cons_of_mem _ this
                  exact mm (k := j) (by simpa using hj)
                rw [set_ne hne] at g1
                exact ⟨b2, d2, d3, g1, by simpa using g2, g3⟩
          · cases h
  | .nw d :: rs, ss, env, env', h, nd => by
    cases ss with
    | nil => unfold lentBack at h; cases h
    | cons s ss =>
      cases s with
      | no => unfold lentBack at h; cases h
      | va d => unfold lentBack at h; cases h
      | ow bb d =>
        cases bb with
        | false => unfold lentBack at h; cases h
        | true =>
          unfold lentBack at h
          obtain ⟨h1, h2, h3⟩ := lent_at (rs := rs) h nd
          refine ⟨h1, h2, fun j m hj => ?_⟩
          cases j with
          | zero => simp at hj
          | succ j => obtain ⟨b2, d2, d3, g1, g2, g3⟩ := h3 j m (by simpa using hj); exact ⟨b2, d2, d3, g1, by simpa using g2, g3⟩
  | .dt d :: rs, ss, env, env', h, nd => by
    cases ss with
    | nil => unfold lentBack at h; cases h
    | cons s ss =>
      unfold lentBack at h
      obtain ⟨h1, h2, h3⟩ := lent_at (rs := rs) h nd
      refine ⟨h1, h2, fun j m hj => ?_⟩
      cases j with
      | zero => simp at hj
      | succ j => obtain ⟨b2, d2, d3, g1, g2, g3⟩ := h3 j m (by simpa using hj); exact ⟨b2, d2, d3, g1, by simpa using g2, g3⟩
theorem map_some_at {vs : List V} {j : Nat} {v : V} (h : vs[j]? = some v) : (vs.map some)[j]? = some (some v) := by simp [h]
theorem of_map_some {vs : List V} {j : Nat} {v : V} (h : (vs.map some)[j]? = some (some v)) : vs[j]? = some v := by
  simp at h; exact h
theorem call_start {z : Fm} {F H : Hp} {σ : St} {env : Env'} {vs : List V} {rs : List R} {mt : List Bool} {ss : List Sl} (R0 : RelB K ct z F H σ env) (rb : ResB K ct z F H σ env vs rs) (nd : (slotsOf rs).Nodup) (e : argSl env rs mt = some ss) : Rel K ct F H (vs.map some) ss := by
  obtain ⟨l1, l2, k⟩ := foot_args R0 rb.all e
  refine ⟨R0.r.sub, by rw [List.length_map, l1], fun j d h => ?_, fun j b d h => ?_, fun i j b b' d d' a h1 h2 h3 h4 => ?_⟩
  · obtain ⟨v, r, g1, g2, g3⟩ := k j _ h
    rcases g3 with ⟨d1, e1, _, e3⟩ | ⟨d1, a, e1, _⟩
    · cases e1; exact ⟨v, map_some_at g1, e3⟩
    · cases e1
  · obtain ⟨v, r, g1, g2, g3⟩ := k j _ h
    rcases g3 with ⟨d1, e1, _, e3⟩ | ⟨d1, a, e1, e2, e3, e4, _⟩
    · cases e1
    · cases e1; subst e2; exact ⟨a, map_some_at g1, e3, e4⟩
  · obtain ⟨v, r, g1, g2, g3⟩ := k i _ h1
    obtain ⟨v', r', g1', g2', g3'⟩ := k j _ h2
    rw [of_map_some h3] at g1; cases g1
    rw [of_map_some h4] at g1'; cases g1'
    rcases g3 with ⟨_, e1, _⟩ | ⟨d1, a1, e1, e2, e3, e4, e5⟩
    · cases e1
    rcases g3' with ⟨_, f1, _⟩ | ⟨d2, a2, f1, f2, f3, f4, f5⟩
    · cases f1
    cases e2; cases f2
    rcases e5 with ⟨q1, q2, q3⟩ | ⟨s1, b1, q1, q2, q3⟩
    · rcases f5 with ⟨p1, p2, p3⟩ | ⟨s2, b2, p1, p2, p3⟩
      · subst q1 p1
        exact tmps_ix rb.nd (of_map_some h3) g2 (of_map_some h4) g2'
      · exact (q2 ⟨s2, b2, d2, p2, p3⟩).elim
    · rcases f5 with ⟨p1, p2, p3⟩ | ⟨s2, b2, p1, p2, p3⟩
      · exact (p2 ⟨s1, b1, d1, q2, q3⟩).elim
      · have hs := R0.r.dj s1 s2 b1 b2 d1 d2 a q2 p2 q3 p3
        subst q1 p1 hs
        exact slots_ix nd g2 g2'
theorem args_lent {z : Fm} {F H : Hp} {σ : St} {env : Env'} {vs : List V} {rs : List R} {mt : List Bool} {ss : List Sl} (R0 : RelB K ct z F H σ env) (rb : ResB K ct z F H σ env vs rs) (e : argSl env rs mt = some ss) (j : Nat) (d : D) : ss[j]? ≠ some (.ow false d) := fun h => by
  obtain ⟨l1, l2, k⟩ := foot_args R0 rb.all e
  obtain ⟨v, r, g1, g2, g3⟩ := k j _ h
  rcases g3 with ⟨d1, e1, _⟩ | ⟨d1, a, e1, _⟩ <;> cases e1
theorem call_end {z : Fm} {F F' H H' : Hp} {σ : St} {env env' : Env'} {vs : List V} {rs : List R} {mt : List Bool} {ss ss' : List Sl} {v : V} {r : R} (R0 : RelB K ct z F H σ env) (rb : ResB K ct z F H σ env vs rs) (nd : (slotsOf rs).Nodup) (e : argSl env rs mt = some ss)
    (R1 : RelB K ct (here (vs.map some) (fun a => H a ≠ none) F H (vs.map some) ss) F' H' (vs.map some) ss') (res : Res K ct (here (vs.map some) (fun a => H a ≠ none) F H (vs.map some) ss) F' H' (vs.map some) ss' v r) (hr : ∀ i, r ≠ .sl i) (eb : lentBack rs ss' env = some env') :
    Ex F F' ∧ RelB K ct z F' H' σ env' ∧ Res K ct z F' H' σ env' v r := by
  obtain ⟨l1, l2, k⟩ := foot_args R0 rb.all e
  obtain ⟨b1, b2, b3⟩ := lent_at eb nd
  have ex : Ex F F' := R1.n.ex
  -- what the callee may change
  have fa : ∀ a, foot (vs.map some) ss a → (¬ foot σ env a ∧ z.H a = none) ∨ ∃ i b d, i ∈ slotsOf rs ∧ env[i]? = some (.ow b d) ∧ σ[i]? = some (some (.ref a)) := fun a ⟨j, b, d, h1, h2⟩ => by
    obtain ⟨v0, r0, g1, g2, g3⟩ := k j _ h1
    rw [of_map_some h2] at g1; cases g1
    rcases g3 with ⟨_, e1, _⟩ | ⟨d1, a1, e1, e2, e3, e4, e5⟩
    · cases e1
    cases e2
    rcases e5 with ⟨q1, q2, q3⟩ | ⟨s1, b1, q1, q2, q3⟩
    · exact .inl ⟨q2, q3⟩
    · subst q1
      refine .inr ⟨s1, b1, d1, ?_, q2, q3⟩
      have mm : ∀ {rs : List R} {k : Nat}, rs[k]? = some (.sl s1) → s1 ∈ slotsOf rs := by
        intro rs
        induction rs with
        | nil => intro k h; simp at h
        | cons r rs ih =>
          intro k h
          cases k with
          | zero => simp at h; subst h; exact List.mem_cons_self
          | succ k =>
            have := ih (k := k) (by simpa using h)
            cases r <;> first | exact this | exact List.mem_cons_of_mem _ this
      exact mm g2
  have own' : ∀ (m : Nat) b d, env'[m]? = some (.ow b d) → ∃ d0, env[m]? = some (.ow b d0) := fun m b d h => by
    by_cases hm : m ∈ slotsOf rs
    · obtain ⟨j, hj⟩ := slots_mem hm
      obtain ⟨b4, d4, d5, g1, g2, g3⟩ := b3 j m hj
      rw [h] at g3; cases g3
      exact ⟨d4, g1⟩
    · rw [b2 m hm] at h; exact ⟨d, h⟩
  have zk : ∀ a, z.H a ≠ none → ¬ z.O a → H a ≠ none ∧ ¬ foot (vs.map some) ss a := fun a h1 h2 => by
    refine ⟨R0.n.th a h1, fun f => ?_⟩
    rcases fa a f with ⟨_, q⟩ | ⟨i, b, d, _, q, q'⟩
    · exact h1 q
    · rcases R0.n.fo a ⟨i, b, d, q, q'⟩ with w | w
      · exact h2 w
      · exact h1 w
  have ft : ∀ a, foot σ env' a → foot σ env a := fun a ⟨m, b, d, h1, h2⟩ => by
    obtain ⟨d0, q⟩ := own' m b d h1
    exact ⟨m, b, d0, q, h2⟩
  have resAt : ∀ (j m : Nat), rs[j]? = some (.sl m) → ∃ v0, vs[j]? = some v0 ∧ σ[m]? = some (some v0) := by
    have go : ∀ {vs : List V} {rs : List R}, ResA K ct z F H σ env vs rs → ∀ (j m : Nat), rs[j]? = some (.sl m) → ∃ v0, vs[j]? = some v0 ∧ σ[m]? = some (some v0) := by
      intro vs rs ra
      induction ra with
      | nil => intro j m h; simp at h
      | cons h t ih =>
        intro j m hj
        cases j with
        | zero => simp at hj; subst hj; exact ⟨_, rfl, h⟩
        | succ j => exact ih j m (by simpa using hj)
    exact go rb.all
  refine ⟨ex, ⟨⟨R1.r.sub, by rw [b1]; exact R0.r.len, fun m d h => ?_, fun m b d h => ?_, fun i j b b' d d' a h1 h2 h3 h4 => ?_⟩, ⟨R0.n.ex.trans ex, fun a o h1 h2 => ?_, fun a h1 h2 => ?_, fun a h => R1.n.th a (R0.n.th a h), fun a f => R0.n.fo a (ft a f), fun m d h => ?_, R0.n.tz, fun m d a h h' => ?_⟩⟩, ?_⟩
  · by_cases hm : m ∈ slotsOf rs
    · obtain ⟨j, hj⟩ := slots_mem hm
      obtain ⟨b4, d4, d5, g1, g2, g3⟩ := b3 j m hj
      rw [h] at g3; cases g3
    · rw [b2 m hm] at h
      obtain ⟨w, q1, q2⟩ := R0.r.va m d h
      exact ⟨w, q1, q2.mono ex⟩
  · by_cases hm : m ∈ slotsOf rs
    · obtain ⟨j, hj⟩ := slots_mem hm
      obtain ⟨b4, d4, d5, g1, g2, g3⟩ := b3 j m hj
      rw [h] at g3; cases g3
      obtain ⟨a, f1, f2, f3⟩ := R1.r.ow j true d g2
      obtain ⟨v0, w1, w2⟩ := resAt j m hj
      have f1' := of_map_some f1
      rw [w1] at f1'; cases f1'
      exact ⟨a, w2, f2, f3⟩
    · rw [b2 m hm] at h
      obtain ⟨a, f1, f2, f3⟩ := R0.r.ow m b d h
      have nf : ¬ foot (vs.map some) ss a := fun f => by
        rcases fa a f with ⟨q, _⟩ | ⟨i, b0, d0, hi, q, q'⟩
        · exact q ⟨m, b, d, h, f1⟩
        · have := R0.r.dj i m b0 b d0 d a q h q' f1
          subst this; exact hm hi
      obtain ⟨o, ho⟩ := f3.obj
      have k1 : H' a = some o := R1.n.keep a o ho nf
      have k2 : F' a = F a := R1.n.nofz a (by show H a ≠ none; rw [ho]; simp) nf
      exact ⟨a, f1, k2.trans f2, (f3.heap (k1.trans ho.symm)).mono ex⟩
  · obtain ⟨d1, g1⟩ := own' i b d h1
    obtain ⟨d2, g2⟩ := own' j b' d' h2
    exact R0.r.dj i j b b' d1 d2 a g1 g2 h3 h4
  · exact R1.n.keep a o (R0.n.keep a o h1 h2) (zk a (by rw [h1]; simp) h2).2
  · obtain ⟨k1, k2⟩ := zk a h1 h2
    exact (R1.n.nofz a k1 k2).trans (R0.n.nofz a h1 h2)
  · obtain ⟨d0, q⟩ := own' m true d h
    exact R0.n.lent m d0 q
  · obtain ⟨d0, q⟩ := own' m false d h
    exact R0.n.own m d0 a q h'
  · cases r with
    | dt d => exact res
    | sl i => exact (hr i rfl).elim
    | nw d =>
      obtain ⟨a, e1, e2, e3, e4, e5⟩ := res
      have hn : H a = none := e5
      exact ⟨a, e1, e2, e3, fun f => R0.noFoot hn (ft a f), R0.noZ hn⟩
end
end VI
namespace VI
open PySem L2
section
variable {X : Cx} {K : PySem.W.Frag} {ct : Nat → Addr} {e o : Expr} {es : List Expr} {pos p apos : Pos} {k : Nat} {f : Addr} {fd : FuncData} {ps : List Str} {cf : List Sl → Option (R × List Sl)} {mt : List Bool} {ms : Env' → Option (List R × Env')} {m : Env' → Option (R × Env')} {x : Str}
/-- a call's arguments lead to the callee's promise -/
theorem callM_sp {σ : St} {H : Hp} {Q : VK} {n : Nat} (hl : ∀ ss r ss', cf ss = some (r, ss') → ss.length = n) (w : tV K ct (callM cf mt ms) σ H Q) : tRB K ct ms σ H fun vs H1 => spF K ct cf n vs H1 Q := by
  obtain ⟨z, F, env, rel, r, env', eq, k⟩ := w
  unfold callM at eq
  cases q : ms env with
  | none => rw [q] at eq; cases eq
  | some p =>
    obtain ⟨rs, env1⟩ := p
    rw [q] at eq
    simp only at eq
    unfold callF at eq
    split at eq
    · rename_i nd
      cases q2 : argSl env1 rs mt with
      | none => rw [q2] at eq; cases eq
      | some ss =>
        rw [q2] at eq
        simp only at eq
        cases q3 : cf ss with
        | none => rw [q3] at eq; cases eq
        | some p3 =>
          obtain ⟨r3, ss'⟩ := p3
          rw [q3] at eq
          simp only at eq
          have main : ∀ (hr : ∀ i, r3 ≠ .sl i), (lentBack rs ss' env1).map (fun env' => (r3, env')) = some (r, env') → tRB K ct ms σ H fun vs H1 => spF K ct cf n vs H1 Q := by
            intro hr eq
            cases q4 : lentBack rs ss' env1 with
            | none => rw [q4] at eq; cases eq
            | some env2 =>
              rw [q4] at eq
              cases eq
              refine ⟨z, F, env, rel, rs, env1, q, fun vs F1 H1 e1 R1 rb _ => ?_⟩
              obtain ⟨l1, _, _⟩ := foot_args R1 rb.all q2
              refine ⟨l1.trans (hl ss _ _ q3), F1, ss, call_start R1 rb nd q2, args_lent R1 rb q2, _, ss', q3, fun v F2 H2 R2 res => ?_⟩
              obtain ⟨ex, R3, res3⟩ := call_end R1 rb nd q2 R2 res hr q4
              exact k v F2 H2 (e1.trans ex) R3 res3
          cases r3 with
          | dt d => exact main (fun _ q => nomatch q) eq
          | nw d => exact main (fun _ q => nomatch q) eq
          | sl i => cases eq
    · cases eq
theorem pe_callV (F : FnG X.prog X.w X.K X.mg X.base k f fd ps (spF X.K ct cf ps.length)) (hr : Room k X.A) (hgd : X.A.guards = some []) (hg : Gl X x) (hm : X.mg x = some (.ref f)) (hk : PySem.W.keepIn X.K (.ref f) = true) (hb : Binds X.K fd ps [])
    (hl : ∀ ss r ss', cf ss = some (r, ss') → ss.length = ps.length) (ha : PA X (e :: es) (tRB X.K ct ms)) (hd : (x == ("__debug__" : Str)) = false) (hs : isStar e = false) (hss : (es.all fun e => !isStar e) = true) :
    PE X (.Call (.Name x p) (e :: es) [] pos) (tV X.K ct (callM cf mt ms)) := by
  constructor
  intro pins s σ H Q I h
  refine wpAny_Call_Name_kw (ld_glob I hg hm ?_ hd)
  refine PySem.W.callWith_K (h₀ := X.base) I.ok.mod.kin hk ?_ (star_of hs) (nostar_any hss)
  exact thn (ha.run pos pins s σ H _ I (callM_sp hl h)) fun us s1 ⟨vs, H1, I1, r, q⟩ => ⟨I1.kIn, run_fnV F hr hgd hb I1 r q⟩
theorem pe_call0V (F : FnG X.prog X.w X.K X.mg X.base k f fd ps (spF X.K ct cf ps.length)) (hr : Room k X.A) (hgd : X.A.guards = some []) (hg : Gl X x) (hm : X.mg x = some (.ref f)) (hk : PySem.W.keepIn X.K (.ref f) = true) (hb : Binds X.K fd ps [])
    (hl : ∀ ss r ss', cf ss = some (r, ss') → ss.length = ps.length) (hd : (x == ("__debug__" : Str)) = false) : PE X (.Call (.Name x p) [] [] pos) (tV X.K ct (callM cf mt nilR)) := by
  constructor
  intro pins s σ H Q I h
  refine wpAny_Call_Name_kw (ld_glob I hg hm ?_ hd)
  obtain ⟨z, F1, env, rel, rs, env1, q, kk⟩ := callM_sp hl h
  cases q
  exact PySem.W.callWith_K0 I.kIn hk (run_fnV (us := []) F hr hgd hb I .nil (kk [] F1 H (Ex.refl F1) rel ⟨.nil, .nil, fun _ h => nomatch h⟩ fun _ h => nomatch h))
/-! ### keywords -/
/-- the keywords ks bind the parameters, each of them the value at its place in perm -/
def KwB (K : PySem.W.Frag) (fd : FuncData) (ps ks : List Str) (first : Nat) (perm : List Nat) : Prop :=
  ∀ (s : Shared) (fs ws us : List Value), K.In s.heap → fs.length = first → ws.length = ks.length → perm.mapM (fun i => ws[i]?) = some us → BindsTo s fd ⟨fs, ks.zip ws⟩ (ps.zip (fs ++ us))
theorem perm_vals : ∀ {perm : List Nat} {vs ys : List V} {ws us : List Value}, Vals vs ws → perm.mapM (fun i => vs[i]?) = some ys → perm.mapM (fun i => ws[i]?) = some us → Vals ys us
  | [], vs, ys, ws, us, r, h1, h2 => by simp at h1 h2; subst h1 h2; exact .nil
  | i :: perm, vs, ys, ws, us, r, h1, h2 => by
    rw [List.mapM_cons] at h1 h2
    cases q1 : vs[i]? with
    | none => rw [q1] at h1; cases h1
    | some v =>
      cases q2 : perm.mapM (fun i => vs[i]?) with
      | none => rw [q1, q2] at h1; cases h1
      | some y2 =>
        rw [q1, q2] at h1; cases h1
        obtain ⟨u, q3, rv⟩ := r.get q1
        cases q4 : perm.mapM (fun i => ws[i]?) with
        | none => rw [q3, q4] at h2; cases h2
        | some u2 =>
          rw [q3, q4] at h2; cases h2
          exact .cons rv (perm_vals r q2 q4)
theorem perm_some : ∀ {perm : List Nat} {vs ys : List V} {ws : List Value}, Vals vs ws → perm.mapM (fun i => vs[i]?) = some ys → ∃ us, perm.mapM (fun i => ws[i]?) = some us
  | [], vs, ys, ws, r, h1 => ⟨[], rfl⟩
  | i :: perm, vs, ys, ws, r, h1 => by
    rw [List.mapM_cons] at h1
    cases q1 : vs[i]? with
    | none => rw [q1] at h1; cases h1
    | some v =>
      cases q2 : perm.mapM (fun i => vs[i]?) with
      | none => rw [q1, q2] at h1; cases h1
      | some y2 =>
        obtain ⟨u, q3, rv⟩ := r.get q1
        obtain ⟨us, q4⟩ := perm_some r q2
        exact ⟨u :: us, by rw [List.mapM_cons, q3, q4]; rfl⟩
theorem perm_rp {F : Hp} : ∀ {perm : List Nat} {vs : List V} {ds es : List D}, RpA K ct F vs ds → perm.mapM (fun i => ds[i]?) = some es → ∃ ys, perm.mapM (fun i => vs[i]?) = some ys ∧ RpA K ct F ys es
  | [], vs, ds, es, r, h => by simp at h; subst h; exact ⟨[], rfl, .nil⟩
  | i :: perm, vs, ds, es, r, h => by
    rw [List.mapM_cons] at h
    cases q1 : ds[i]? with
    | none => rw [q1] at h; cases h
    | some d =>
      cases q2 : perm.mapM (fun i => ds[i]?) with
      | none => rw [q1, q2] at h; cases h
      | some e2 =>
        rw [q1, q2] at h; cases h
        obtain ⟨v, g1, g2⟩ := r.get q1
        obtain ⟨ys, g3, g4⟩ := perm_rp r q2
        exact ⟨v :: ys, by rw [List.mapM_cons, g1, g3]; rfl, .cons g2 g4⟩
/-- keyword values that are kept -/
theorem pk_nilV : PK X [] (tA X.K ct nilD) := ⟨fun pos pins s σ H Q I h => by
  obtain ⟨z, F, env, rel, ds, env', eq, k⟩ := h
  cases eq
  exact (pk_nil (X := X)).run pos pins s σ H Q I (k [] F H (Ex.refl F) rel .nil)⟩
theorem pk_consV {nm : Option Str} {kpos : Pos} {kws : List Keyword} {ms : Env' → Option (List D × Env')} (h : PE X e (tV X.K ct m)) (hs : PK X kws (tA X.K ct ms)) : PK X (⟨nm, e, kpos⟩ :: kws) (tA X.K ct (consV m ms)) := by
  constructor
  intro pos pins s σ H Q I w
  refine (pk_cons (nm := nm) (kpos := kpos) h.vfrz hs).run pos pins s σ H Q I ?_
  obtain ⟨z, F, env, rel, r, env', eq, k⟩ := w
  unfold consV at eq
  cases q : m env with
  | none => rw [q] at eq; cases eq
  | some p =>
    obtain ⟨r0, env0⟩ := p
    rw [q] at eq
    simp only at eq
    cases q2 : frz r0 env0 with
    | none => rw [q2] at eq; cases eq
    | some p2 =>
      obtain ⟨d, env1⟩ := p2
      rw [q2] at eq
      simp only at eq
      cases q3 : ms env1 with
      | none => rw [q3] at eq; cases eq
      | some p3 =>
        obtain ⟨ds, env2⟩ := p3
        rw [q3] at eq
        cases eq
        refine ⟨z, F, env, rel, .dt d, env1, by unfold VI.frzM; rw [q]; simp only; rw [q2], fun v F1 H1 e1 R1 rp => ⟨z, F1, env1, R1, _, _, q3, fun vs F2 H2 e2 R2 ra => ?_⟩⟩
        exact k _ F2 H2 (e1.trans e2) R2 (.cons (Rp.mono e2 rp) ra)
theorem run_kwV {pins : List (Addr × Obj)} {σ : St} {H : Hp} {s : Shared} {Q : VK} {fs ws us : List Value} {ys : List V} {ks : List Str} {n : Nat} {perm : List Nat} {sp : List V → Hp → VK → Prop}
    (F : FnG X.prog X.w X.K X.mg X.base k f fd ps sp) (hr : Room k X.A) (hgd : X.A.guards = some []) (hb : KwB X.K fd ps ks n perm) (I : L2.Inv X pins σ H s) (hf : fs.length = n) (hw : ws.length = ks.length) (hp : perm.mapM (fun i => ws[i]?) = some us) (r : Vals ys (fs ++ us)) (h : sp ys H Q) :
    wpAny (model X.prog X.w) X.A (call (.ref f) fs (ks.zip ws)) (EP X pins σ Q) X.xe s := by
  refine wpAny_call (codeAny_mono (F.run X.A X.stack s H ⟨fs, ks.zip ws⟩ (fs ++ us) ys Q hr hgd I.env0 (hb s fs ws us I.kIn hf hw hp) r h) ?_)
  intro rr s' hq
  cases rr with
  | error e => exact False.elim hq
  | ok fl => cases fl <;> first | exact I.after hq | exact False.elim hq
def kwNames : List Keyword → List Str
  | [] => []
  | ⟨some n, _, _⟩ :: r => n :: kwNames r
  | _ :: r => kwNames r
def kwAll : List Keyword → Bool
  | [] => true
  | ⟨some _, _, _⟩ :: r => kwAll r
  | _ :: _ => false
theorem kw_facts : ∀ {kws : List Keyword} {env : Env} {pos : Pos}, kwAll kws = true → (backToKw pos (keywordEach kws env)).all (·.1.isSome) = true ∧ (backToKw pos (keywordEach kws env)).any (·.1.isNone) = false ∧ (backToKw pos (keywordEach kws env)).filterMap (·.1) = kwNames kws ∧ (backToKw pos (keywordEach kws env)).length = (kwNames kws).length
  | [], env, pos, _ => ⟨rfl, rfl, rfl, rfl⟩
  | ⟨nm, v, q⟩ :: r, env, pos, h => by
    cases nm with
    | none => cases h
    | some n =>
      obtain ⟨h1, h2, h3, h4⟩ := kw_facts (kws := r) (env := env) (pos := pos) h
      refine ⟨?_, ?_, ?_, ?_⟩
      · show (true && (backToKw pos (keywordEach r env)).all (·.1.isSome)) = true; rw [h1]; rfl
      · show (false || (backToKw pos (keywordEach r env)).any (·.1.isNone)) = false; rw [h2]; rfl
      · show n :: (backToKw pos (keywordEach r env)).filterMap (·.1) = n :: kwNames r; rw [h3]
      · show (backToKw pos (keywordEach r env)).length + 1 = (kwNames r).length + 1; rw [h4]
/-- data as arguments -/
theorem dataRB {z : Fm} {F H : Hp} {σ : St} {env : Env'} : ∀ {vs : List V} {ds : List D}, RpA K ct F vs ds → ResB K ct z F H σ env vs (ds.map .dt) ∧ tmps vs (ds.map .dt) = []
  | _, _, .nil => ⟨⟨.nil, .nil, fun _ h => nomatch h⟩, rfl⟩
  | _, _, .cons (v := v) (vs := vs) (d := d) (ds := ds) h r => by
    obtain ⟨h1, h2⟩ := dataRB (z := z) (H := H) (σ := σ) (env := env) r
    have e : tmps (v :: vs) (R.dt d :: ds.map R.dt) = tmps vs (ds.map .dt) := by cases v <;> rfl
    refine ⟨⟨.cons h h1.all, ?_, ?_⟩, ?_⟩
    · show (tmps (v :: vs) (R.dt d :: ds.map R.dt)).Nodup
      rw [e]; exact h1.nd
    · show ∀ a ∈ tmps (v :: vs) (R.dt d :: ds.map R.dt), H a ≠ none
      rw [e]; exact h1.fr
    · show tmps (v :: vs) (R.dt d :: ds.map R.dt) = []
      rw [e]; exact h2
/-- the keywords' values in the parameters' order -/
theorem kw_run {kws : List Keyword} {perm : List Nat} {mv : Env' → Option (List D × Env')} {ms0 : Env' → Option (List R × Env')} {σ : St} {H : Hp} {Q : List V → Hp → Prop} (w : tRB K ct (dataR (permM perm mv)) σ H Q) :
    tA K ct mv σ H fun vs H2 => ∃ ys, perm.mapM (fun i => vs[i]?) = some ys ∧ Q ys H2 ∧ ∃ env ds env', mv env = some (ds, env') ∧ vs.length = ds.length := by
  obtain ⟨z, F1, env, rel, rs, env1, q, kk⟩ := w
  unfold dataR permM at q
  cases q1 : mv env with
  | none => rw [q1] at q; cases q
  | some pq =>
    obtain ⟨ds, env2⟩ := pq
    rw [q1] at q
    simp only at q
    cases q2 : permute perm ds with
    | none => rw [q2] at q; cases q
    | some es' =>
      rw [q2] at q
      cases q
      refine ⟨z, F1, env, rel, ds, _, q1, fun vs F2 H2 e2 R2 ra => ?_⟩
      obtain ⟨ys, g1, g2⟩ := perm_rp ra q2
      obtain ⟨h1, h2⟩ := dataRB (z := z) (H := H2) (σ := σ) (env := env1) g2
      exact ⟨ys, g1, kk ys F2 H2 e2 R2 h1 (by rw [h2]; exact fun _ h => nomatch h), env, ds, _, q1, ra.length⟩
theorem pe_callKV {kws : List Keyword} {perm : List Nat} {mv : Env' → Option (List D × Env')} (F : FnG X.prog X.w X.K X.mg X.base k f fd ps (spF X.K ct cf ps.length)) (hr : Room k X.A) (hgd : X.A.guards = some []) (hg : Gl X x) (hm : X.mg x = some (.ref f)) (hk : PySem.W.keepIn X.K (.ref f) = true)
    (hb : KwB X.K fd ps (kwNames kws) 0 perm) (hl : ∀ ss r ss', cf ss = some (r, ss') → ss.length = ps.length) (ha : PK X kws (tA X.K ct mv)) (hd : (x == ("__debug__" : Str)) = false) (hw : kwAll kws = true)
    (hn : ∀ env ds env', mv env = some (ds, env') → ds.length = (kwNames kws).length) :
    PE X (.Call (.Name x p) [] kws pos) (tV X.K ct (callM cf mt (dataR (permM perm mv)))) := by
  constructor
  intro pins s σ H Q I h
  obtain ⟨k1, k2, k3, k4⟩ := kw_facts (env := X.env) (pos := pos) hw
  refine wpAny_Call_Name_kw (ld_glob I hg hm ?_ hd)
  refine PySem.W.callWith_KW0 (h₀ := X.base) I.ok.mod.kin hk k1 ?_ (by show (false || _) = false; rw [k2]; rfl)
  refine thn (ha.run pos pins s σ H _ I (kw_run (kws := kws) (ms0 := nilR) (callM_sp hl h))) ?_
  rintro ws s1 ⟨vs, H2, I2, rw', ys, g1, g3, env, ds, env', g5, g6⟩
  obtain ⟨us, g4⟩ := perm_some rw' g1
  refine ⟨I2.kIn, ?_⟩
  rw [k3]
  exact run_kwV (fs := []) F hr hgd hb I2 rfl (by rw [← rw'.length, g6]; exact hn _ _ _ g5) g4 (perm_vals rw' g1 g4) g3
/-! ### methods of own classes -/
theorem meth_eq {env : Env} {args : List Expr} {kws : List Keyword} {mm : Str} (hb : isNoArg o = false) (hf : methodCallForm (args.length + kws.length) (backTo pos (starEach args env)) (backToKw pos (keywordEach kws env)) = true) (hl : (apos.endLine == pos.line) = true) :
    eval (.Call (.Attribute o mm apos) args kws pos) env = (do
      let ov ← eval o env
      standAt apos.atName
      let (f, first) ← holding [ov] (getMethod ov mm (plainOf o env))
      callWith pos f first (backTo pos (starEach args env)) (backToKw pos (keywordEach kws env))) :=
  mcall_of (base_of hb) fun ov => mcall_line hf hl
theorem form_args {env : Env} : ∀ {args : List Expr}, (args.all fun e => !isStar e) = true → (backTo pos (starEach args env)).all (!·.1) = true
  | [], _ => rfl
  | e :: es, h => by
    simp only [List.all_cons, Bool.and_eq_true, Bool.not_eq_true'] at h
    rw [star_of h.1]
    show (true && (backTo pos (starEach es env)).all (!·.1)) = true
    rw [form_args h.2]; rfl
theorem form_pos {env : Env} {args : List Expr} (h : (args.all fun e => !isStar e) = true) (hn : args.length < 20) : methodCallForm (args.length + ([] : List Keyword).length) (backTo pos (starEach args env)) (backToKw pos (keywordEach [] env)) = true := by
  unfold methodCallForm
  rw [form_args h]
  show (true && true && decide (args.length + 0 + 0 < 30)) = true
  rw [decide_eq_true (by omega)]; rfl
/-- the receiver and the arguments -/
theorem mcall_split {mo : Env' → Option (R × Env')} {σ : St} {H : Hp} {Q : List V → Hp → Prop} (w : tRB K ct (consR mo ms) σ H Q) :
    tV K ct mo σ H fun v H1 => tRB K ct ms σ H1 fun vs H2 => Q (v :: vs) H2 := by
  obtain ⟨z, F, env, rel, r, env', eq, k⟩ := w
  unfold consR at eq
  cases q : mo env with
  | none => rw [q] at eq; cases eq
  | some p =>
    obtain ⟨r0, env1⟩ := p
    rw [q] at eq
    simp only at eq
    cases q3 : ms env1 with
    | none => rw [q3] at eq; cases eq
    | some p3 =>
      obtain ⟨rs, env2⟩ := p3
      rw [q3] at eq
      cases eq
      have S0 := rel.start
      refine ⟨here z.L z.W F H σ env, F, env, S0, r0, env1, q, fun v F1 H1 e1 R1 p1 => ?_⟩
      have RZ1 := rel.outer R1
      have S1 := RZ1.start
      refine ⟨_, F1, env1, S1, rs, _, q3, fun vs F2 H2 e2 R2 rb hn => ?_⟩
      have RZ2 := RZ1.outer R2
      have p1z : Res K ct z F1 H1 σ env1 v r0 := by
        cases r0 with
        | dt d => exact p1
        | sl i => exact p1
        | nw d =>
          obtain ⟨a, g1, g2, g3, g4, g5⟩ := p1
          exact ⟨a, g1, g2, g3, g4, rel.noZ g5⟩
      have pl := p1z.later R2 e2
      have za : ∀ a, (here z.L z.W F1 H1 σ env1).H a = none → z.H a = none := fun a ha => RZ1.noZ ha
      have th : ∀ a, H a ≠ none → H1 a ≠ none := fun a ha => R1.n.th a ha
      refine k (v :: vs) F2 H2 (e1.trans e2) RZ2 ⟨.cons pl (rb.all.zz za), ?_, ?_⟩ ?_
      · cases r0 with
        | nw d =>
          obtain ⟨a, rfl, g2, g3, g4, g5⟩ := p1
          obtain ⟨o, ho⟩ := g3.obj
          show (a :: tmps vs rs).Nodup
          refine List.nodup_cons.mpr ⟨fun hm => ?_, rb.nd⟩
          have := hn a hm
          rw [ho] at this; cases this
        | dt d => cases v <;> exact rb.nd
        | sl i => cases v <;> exact rb.nd
      · cases r0 with
        | nw d =>
          obtain ⟨a, rfl, g2, g3, g4, g5⟩ := p1
          obtain ⟨o, ho⟩ := g3.obj
          intro a' ha'
          rcases List.mem_cons.mp (show a' ∈ a :: tmps vs rs from ha') with e' | e'
          · subst e'; exact R2.n.th a' (by show H1 a' ≠ none; rw [ho]; simp)
          · exact rb.fr a' e'
        | dt d => cases v <;> exact rb.fr
        | sl i => cases v <;> exact rb.fr
      · have old : ∀ a ∈ tmps vs rs, H a = none := fun a ha => by
          cases qa : H a with
          | none => rfl
          | some o => exact (th a (by rw [qa]; simp) (hn a ha)).elim
        cases r0 with
        | nw d =>
          obtain ⟨a, rfl, g2, g3, g4, g5⟩ := p1
          intro a' ha'
          rcases List.mem_cons.mp (show a' ∈ a :: tmps vs rs from ha') with e' | e'
          · subst e'; exact g5
          · exact old a' e'
        | dt d => cases v <;> exact old
        | sl i => cases v <;> exact old
end
end VI
namespace VI
open PySem L2
section
variable {X : Cx} {K : PySem.W.Frag} {ct : Nat → Addr} {e o : Expr} {es : List Expr} {pos p apos : Pos} {k : Nat} {f : Addr} {fd : FuncData} {ps : List Str} {cf : List Sl → Option (R × List Sl)} {mt : List Bool} {ms : Env' → Option (List R × Env')} {m mo : Env' → Option (R × Env')} {x mm : Str} {c : Nat}
theorem t_ins {σ : St} {H : Hp} {Q : VK} (w : tV K ct (insM c mm mo) σ H Q) : tV K ct mo σ H fun v H1 => ∃ a dx fs, v = .ref a ∧ H1 a = some (.ins (ct c) dx fs) ∧ fs.lookup mm = none ∧ Q v H1 := by
  obtain ⟨z, F, env, rel, r, env', eq, k⟩ := w
  unfold insM at eq
  cases q : mo env with
  | none => rw [q] at eq; cases eq
  | some p =>
    obtain ⟨r0, env1⟩ := p
    rw [q] at eq
    simp only at eq
    split at eq
    · rename_i c' fs o1
      split at eq
      · rename_i hc
        cases eq
        refine ⟨z, F, env, rel, _, _, q, fun v F1 H1 e1 R1 p1 => ?_⟩
        obtain ⟨a, dx, vs, rfl, h1, rf⟩ := (OpAt.of R1 p1 o1).ins R1.r.sub
        rw [hc.1] at h1
        exact ⟨a, dx, vs, rfl, h1, rf.lookN hc.2, k _ F1 H1 e1 R1 p1⟩
      · cases eq
    · cases eq
theorem pe_methV (ho : PE X o (tV X.K ct mo)) (hcl : Cls X.K (ct c)) (hmt : Meth X.K (ct c) mm f) (F : FnG X.prog X.w X.K X.mg X.base k f fd ps (spF X.K ct cf ps.length)) (hr : Room k X.A) (hgd : X.A.guards = some []) (hb : Binds X.K fd ps [])
    (hl : ∀ ss r ss', cf ss = some (r, ss') → ss.length = ps.length) (ha : PA X (e :: es) (tRB X.K ct ms)) (hss : ((e :: es).all fun e => !isStar e) = true) (hn : (e :: es).length < 20) (hba : isNoArg o = false) (hli : (apos.endLine == pos.line) = true) :
    PE X (.Call (.Attribute o mm apos) (e :: es) [] pos) (tV X.K ct (callM cf mt (consR (insM c mm mo) ms))) := by
  constructor
  intro pins s σ H Q I h
  have hs2 : isStar e = false ∧ (es.all fun e => !isStar e) = true := by simpa using hss
  refine PySem.W.methodCall_KW (pl := plainOf o X.env) ?_ (meth_eq hba (form_pos hss hn) hli)
  refine thn (ho.run pins s σ H _ I (t_ins (mcall_split (callM_sp hl h)))) ?_
  rintro u s1 ⟨v, H1, I1, rv, a, dx, fs, rfl, e1, e2, q⟩
  obtain rfl : u = Value.ref a := rv
  refine getmeth_ok I1 e1 hcl hmt e2 ?_
  refine PySem.W.callWith_K (first := [.ref a]) (h₀ := X.base) I.ok.mod.kin hmt.kp ?_ (star_of hs2.1) (nostar_any hs2.2)
  exact thn (ha.run pos pins s1 σ H1 _ I1 q) fun us s2 ⟨vs, H2, I2, r, q2⟩ => ⟨I2.kIn, run_fnV (us := .ref a :: us) F hr hgd hb I2 (.cons (show RelV (V.ref a) (Value.ref a) from rfl) r) q2⟩
theorem pe_meth0V (ho : PE X o (tV X.K ct mo)) (hcl : Cls X.K (ct c)) (hmt : Meth X.K (ct c) mm f) (F : FnG X.prog X.w X.K X.mg X.base k f fd ps (spF X.K ct cf ps.length)) (hr : Room k X.A) (hgd : X.A.guards = some []) (hb : Binds X.K fd ps [])
    (hl : ∀ ss r ss', cf ss = some (r, ss') → ss.length = ps.length) (hba : isNoArg o = false) (hli : (apos.endLine == pos.line) = true) :
    PE X (.Call (.Attribute o mm apos) [] [] pos) (tV X.K ct (callM cf mt (consR (insM c mm mo) nilR))) := by
  constructor
  intro pins s σ H Q I h
  refine PySem.W.methodCall_KW (pl := plainOf o X.env) ?_ (meth_eq hba (form_pos rfl (by decide)) hli)
  refine thn (ho.run pins s σ H _ I (t_ins (mcall_split (callM_sp hl h)))) ?_
  rintro u s1 ⟨v, H1, I1, rv, a, dx, fs, rfl, e1, e2, q⟩
  obtain rfl : u = Value.ref a := rv
  refine getmeth_ok I1 e1 hcl hmt e2 ?_
  obtain ⟨z, F1, env, rel, rs, env1, qq, kk⟩ := q
  cases qq
  exact PySem.W.callWith_K0 (first := [.ref a]) I1.kIn hmt.kp (run_fnV (us := [.ref a]) F hr hgd hb I1 (.cons (show RelV (V.ref a) (Value.ref a) from rfl) .nil) (kk [] F1 H1 (Ex.refl F1) rel ⟨.nil, .nil, fun _ h => nomatch h⟩ fun _ h => nomatch h))
theorem pe_methKV {kws : List Keyword} {perm : List Nat} {mv : Env' → Option (List D × Env')} (ho : PE X o (tV X.K ct mo)) (hcl : Cls X.K (ct c)) (hmt : Meth X.K (ct c) mm f) (F : FnG X.prog X.w X.K X.mg X.base k f fd ps (spF X.K ct cf ps.length)) (hr : Room k X.A) (hgd : X.A.guards = some [])
    (hb : KwB X.K fd ps (kwNames kws) 1 perm) (hl : ∀ ss r ss', cf ss = some (r, ss') → ss.length = ps.length) (ha : PK X kws (tA X.K ct mv)) (hw : kwAll kws = true) (hn : ∀ env ds env', mv env = some (ds, env') → ds.length = (kwNames kws).length) (h20 : kws.length < 20) (hba : isNoArg o = false) (hli : (apos.endLine == pos.line) = true) :
    PE X (.Call (.Attribute o mm apos) [] kws pos) (tV X.K ct (callM cf mt (consR (insM c mm mo) (dataR (permM perm mv))))) := by
  constructor
  intro pins s σ H Q I h
  obtain ⟨k1, k2, k3, k4⟩ := kw_facts (env := X.env) (pos := pos) hw
  have hf : methodCallForm (([] : List Expr).length + kws.length) (backTo pos (starEach [] X.env)) (backToKw pos (keywordEach kws X.env)) = true := by
    unfold methodCallForm
    have k1' : (backToKw pos (keywordEach kws X.env)).all (fun x => x.1.isSome) = true := k1
    rw [k1']
    have hle : (if (backToKw pos (keywordEach kws X.env)).isEmpty = true then 0 else 1) ≤ 1 := by split <;> omega
    show (true && true && decide (0 + kws.length + (if (backToKw pos (keywordEach kws X.env)).isEmpty = true then 0 else 1) < 30)) = true
    rw [decide_eq_true (by omega)]; rfl
  refine PySem.W.methodCall_KW (pl := plainOf o X.env) ?_ (meth_eq hba hf hli)
  refine thn (ho.run pins s σ H _ I (t_ins (mcall_split (callM_sp hl h)))) ?_
  rintro u s1 ⟨v, H1, I1, rv, a, dx, fs, rfl, e1, e2, q⟩
  obtain rfl : u = Value.ref a := rv
  refine getmeth_ok I1 e1 hcl hmt e2 ?_
  refine PySem.W.callWith_KW0 (first := [.ref a]) (h₀ := X.base) I.ok.mod.kin hmt.kp k1 ?_ (by show (false || _) = false; rw [k2]; rfl)
  refine thn (ha.run pos pins s1 σ H1 _ I1 (kw_run (kws := kws) (ms0 := nilR) q)) ?_
  rintro ws s2 ⟨vs, H2, I2, rw', ys, g1, g3, env, ds, env', g5, g6⟩
  obtain ⟨us, g4⟩ := perm_some rw' g1
  refine ⟨I2.kIn, ?_⟩
  rw [k3]
  exact run_kwV (fs := [.ref a]) F hr hgd hb I2 rfl (by rw [← rw'.length, g6]; exact hn _ _ _ g5) g4 (.cons (show RelV (V.ref a) (Value.ref a) from rfl) (perm_vals rw' g1 g4)) g3
/-! ### making an instance -/
theorem lent_data : ∀ {ds : List D} {ss : List Sl} {env env' : Env'}, lentBack (ds.map .dt) ss env = some env' → env' = env
  | [], [], env, env', h => by simpa [lentBack] using h.symm
  | [], _ :: _, env, env', h => by simp [lentBack] at h
  | _ :: _, [], env, env', h => by simp [lentBack] at h
  | _ :: ds, _ :: ss, env, env', h => by
    simp only [List.map_cons, lentBack] at h
    exact lent_data h
theorem arg_data : ∀ {ds : List D} {env : Env'}, argSl env (ds.map .dt) (ds.map fun _ => false) = some (ds.map .va)
  | [], env => rfl
  | d :: ds, env => by
    show (match argSl env (ds.map .dt) (ds.map fun _ => false) with
      | some ss => some (Sl.va d :: ss)
      | none => none) = _
    rw [arg_data]; rfl
theorem slots_data : ∀ {ds : List D}, slotsOf (ds.map .dt) = []
  | [] => rfl
  | _ :: ds => slots_data (ds := ds)
theorem lent_some : ∀ {ds : List D} {ss : List Sl} {env : Env'}, ss.length = ds.length → ∃ env', lentBack (ds.map .dt) ss env = some env'
  | [], [], env, _ => ⟨env, rfl⟩
  | [], _ :: _, env, h => by simp at h
  | _ :: _, [], env, h => by simp at h
  | _ :: ds, _ :: ss, env, h => by
    simp only [List.map_cons, lentBack]
    exact lent_some (by simpa using h)
/-- what an __init__ is asked, and what comes back -/
def mkQ (K : PySem.W.Frag) (ct : Nat → Addr) (c : Nat) (cf : List Sl → Option (R × List Sl)) (n : Nat) (vs : List V) (H : Hp) (Q : VK) : Prop :=
  ∀ x dx, H x = none → H dx = none → dx ≠ x → spF K ct cf n (.ref x :: vs) (upd (upd H dx (.own x)) x (.ins (ct c) dx [])) fun v H2 => v = .non ∧ Q (.ref x) H2
theorem makeM_sp {σ : St} {H : Hp} {Q : VK} {n : Nat} {mv : Env' → Option (List D × Env')} (hl : ∀ ss r ss', cf ss = some (r, ss') → ss.length = n) (hle : ∀ ss r ss', cf ss = some (r, ss') → ss'.length = ss.length) (w : tV K ct (makeM c cf mv) σ H Q) :
    tA K ct mv σ H fun vs H1 => mkQ K ct c cf n vs H1 Q := by
  obtain ⟨z, F, env, rel, r, env', eq, k⟩ := w
  unfold makeM at eq
  cases q : mv env with
  | none => rw [q] at eq; cases eq
  | some p =>
    obtain ⟨ds, env1⟩ := p
    rw [q] at eq
    simp only at eq
    split at eq
    · rename_i d rest q3
      cases eq
      refine ⟨z, F, env, rel, ds, _, q, fun vs F1 H1 e1 R1 ra x dx nx ndx hne => ?_⟩
      have nF : F1 dx = none := noneF R1.r.sub ndx
      have nFx : F1 x = none := noneF R1.r.sub nx
      -- the dict is frozen at once, the instance is one's own
      have R2 := R1.heap (Ex.new (o := HO.own x) ndx)
      have R3 := R2.fz (a := dx) upd_same nF (R1.noFoot ndx) (.inl (R1.noZ ndx))
      have nx2 : (upd H1 dx (.own x)) x = none := by rw [upd_ne (Ne.symm hne)]; exact nx
      have R4 := R3.heap (Ex.new (o := HO.ins (ct c) dx []) nx2)
      have nFx2 : (upd F1 dx (.own x)) x = none := by rw [upd_ne (Ne.symm hne)]; exact nFx
      have own0 : OwnAt K ct (upd F1 dx (.own x)) (upd (upd H1 dx (.own x)) x (.ins (ct c) dx [])) x (.ins c []) := ⟨dx, [], upd_same, upd_same, .nil⟩
      have ra2 : RpA K ct (upd F1 dx (.own x)) vs ds := ra.mono (Ex.new nF)
      obtain ⟨rb0, tm0⟩ := dataRB (z := z) (H := upd (upd H1 dx (.own x)) x (.ins (ct c) dx [])) (σ := σ) (env := env') ra2
      have rb : ResB K ct z (upd F1 dx (.own x)) (upd (upd H1 dx (.own x)) x (.ins (ct c) dx [])) σ env' (.ref x :: vs) (.nw (.ins c []) :: ds.map .dt) := by
        refine ⟨.cons ⟨x, rfl, nFx2, own0, R1.noFoot nx, R1.noZ nx⟩ rb0.all, ?_, ?_⟩
        · show (x :: tmps vs (ds.map .dt)).Nodup
          rw [tm0]; simp
        · show ∀ a ∈ x :: tmps vs (ds.map .dt), _
          rw [tm0]
          intro a ha
          have : a = x := by simpa using ha
          subst this
          rw [upd_same]; simp
      have nd : (slotsOf (R.nw (.ins c []) :: ds.map .dt)).Nodup := by
        show (slotsOf (ds.map R.dt)).Nodup
        rw [slots_data]; exact .nil
      have ea : argSl env' (R.nw (.ins c []) :: ds.map .dt) (true :: ds.map fun _ => false) = some (.ow true (.ins c []) :: ds.map .va) := by
        show (match argSl env' (ds.map .dt) (ds.map fun _ => false) with
          | some ss => some (Sl.ow true (.ins c []) :: ss)
          | none => none) = _
        rw [arg_data]
      have hlen := hl _ _ _ q3
      have hlen2 := hle _ _ _ q3
      refine ⟨?_, _, _, call_start R4 rb nd ea, args_lent R4 rb ea, _, _, q3, fun v F5 H5 R5 res => ?_⟩
      · rw [← hlen, List.length_cons, List.length_cons, List.length_map, ra.length]
      · obtain ⟨env2, hb⟩ := lent_some (ds := ds) (ss := rest) (env := env') (by simpa using hlen2)
        have eb : lentBack (R.nw (.ins c []) :: ds.map .dt) (.ow true d :: rest) env' = some env2 := hb
        obtain ⟨ex, R6, res6⟩ := call_end R4 rb nd ea R5 res (fun _ q => nomatch q) eb
        rw [lent_data hb] at R6 res6
        cases res6
        refine ⟨rfl, k (.ref x) F5 H5 ((e1.trans (Ex.new nF)).trans ex) R6 ?_⟩
        obtain ⟨a, f1, f2, f3⟩ := R5.r.ow 0 true d rfl
        have : a = x := by
          have := of_map_some f1
          simpa using this.symm
        subst this
        refine ⟨a, rfl, f2, f3, fun ft => ?_, R1.noZ nx⟩
        exact R1.noFoot nx ft
    · cases eq
theorem make_guards {A : Around} {C : Addr} {us : List Value} {kw : List (Str × Value)} (h : A.guards = some []) : (A.under (.builtin "type.__call__" ⟨.ref C :: us, kw⟩)).guards = some [] := by
  have e : (Code.builtin "type.__call__" ⟨.ref C :: us, kw⟩).guards = [] := by
    unfold Code.guards
    rw [if_neg]
    simp [Code.isGuard, guardIds]
  simp only [Around.under, e, h]
  rfl
theorem run_makeV {pins : List (Addr × Obj)} {σ : St} {H : Hp} {s : Shared} {Q : VK} {us zs : List Value} {kw : List (Str × Value)} {ys : List V} {C : Addr} {sp : List V → Hp → VK → Prop} (M : Mk X.K C f) (F : FnG X.prog X.w X.K X.mg X.base k f fd ps sp) (hr : Room (k + 1) X.A) (hgd : X.A.guards = some [])
    (I : L2.Inv X pins σ H s) (hb : ∀ (s' : Shared) (x : Value), X.K.In s'.heap → BindsTo s' fd ⟨x :: us, kw⟩ (ps.zip (x :: zs))) (r : Vals ys zs)
    (h : ∀ x dx, H x = none → H dx = none → dx ≠ x → sp (.ref x :: ys) (upd (upd H dx (.own x)) x (.ins C dx [])) fun v H2 => v = .non ∧ Q (.ref x) H2) :
    wpAny (model X.prog X.w) X.A (call (.ref C) us kw) (EP X pins σ Q) X.xe s := by
  have hq := h (s.heap.objs.size + 1) s.heap.objs.size (I.hok.fresh (Nat.le_succ _)) (I.hok.fresh (Nat.le_refl _)) (Nat.ne_of_lt (Nat.lt_succ_self _))
  have I2 := L2.Inv.made (C := C) I
  have r2 : Vals (V.ref (s.heap.objs.size + 1) :: ys) (Value.ref (s.heap.objs.size + 1) :: zs) := .cons (show RelV (V.ref _) (Value.ref _) from rfl) r
  refine wpAny_call (make_map (f := f) I.kIn M.makes M.init (beq_iff_eq.mp M.fn) ?_)
  refine codeAny_mono (F.run _ X.stack _ _ ⟨Value.ref (s.heap.objs.size + 1) :: us, kw⟩ _ _ _ (hr.make C us kw) (make_guards hgd) (I2.env0.make C us kw) (hb _ _ I2.kIn) r2 hq) ?_
  intro rr s' hq'
  cases rr with
  | error e => exact False.elim hq'
  | ok fl =>
    cases fl with
    | ret u =>
      obtain ⟨v, H', I3, rv, ev, q3⟩ := I2.after hq'
      subst ev
      exact ⟨rv, ⟨V.ref (s.heap.objs.size + 1), H', I3, rfl, q3⟩⟩
    | next => exact False.elim hq'
    | brk => exact False.elim hq'
    | cont => exact False.elim hq'
theorem pe_makeV {mv : Env' → Option (List D × Env')} (M : Mk X.K (ct c) f) (F : FnG X.prog X.w X.K X.mg X.base k f fd ps (spF X.K ct cf ps.length)) (hr : Room (k + 1) X.A) (hgd : X.A.guards = some []) (hg : Gl X x) (hm : X.mg x = some (.ref (ct c))) (hb : Binds X.K fd ps [])
    (hl : ∀ ss r ss', cf ss = some (r, ss') → ss.length = ps.length) (hle : ∀ ss r ss', cf ss = some (r, ss') → ss'.length = ss.length) (ha : PA X (e :: es) (tA X.K ct mv)) (hd : (x == ("__debug__" : Str)) = false) (hs : isStar e = false) (hss : (es.all fun e => !isStar e) = true) :
    PE X (.Call (.Name x p) (e :: es) [] pos) (tV X.K ct (makeM c cf mv)) := by
  constructor
  intro pins s σ H Q I h
  refine wpAny_Call_Name_kw (ld_glob I hg hm ?_ hd)
  refine PySem.W.callWith_K (h₀ := X.base) I.ok.mod.kin M.kp ?_ (star_of hs) (nostar_any hss)
  refine thn (ha.run pos pins s σ H _ I (makeM_sp hl hle h)) ?_
  rintro us s1 ⟨vs, H1, I1, r, q⟩
  refine ⟨I1.kIn, run_makeV M F hr hgd I1 (fun s' x hx => ?_) r q⟩
  have q0 := q (s1.heap.objs.size + 1) s1.heap.objs.size (I1.hok.fresh (Nat.le_succ _)) (I1.hok.fresh (Nat.le_refl _)) (Nat.ne_of_lt (Nat.lt_succ_self _))
  have hl' : ((x :: us) ++ []).length = ps.length := by
    have := q0.1
    rw [List.append_nil, ← this, List.length_cons, List.length_cons, r.length]
  have := hb s' (x :: us) hx hl'
  rw [List.append_nil] at this
  exact this
theorem pe_makeKV {kws : List Keyword} {perm : List Nat} {mv : Env' → Option (List D × Env')} (M : Mk X.K (ct c) f) (F : FnG X.prog X.w X.K X.mg X.base k f fd ps (spF X.K ct cf ps.length)) (hr : Room (k + 1) X.A) (hgd : X.A.guards = some []) (hg : Gl X x) (hm : X.mg x = some (.ref (ct c)))
    (hb : KwB X.K fd ps (kwNames kws) 1 perm) (hl : ∀ ss r ss', cf ss = some (r, ss') → ss.length = ps.length) (hle : ∀ ss r ss', cf ss = some (r, ss') → ss'.length = ss.length) (ha : PK X kws (tA X.K ct mv)) (hd : (x == ("__debug__" : Str)) = false) (hw : kwAll kws = true)
    (hn : ∀ env ds env', mv env = some (ds, env') → ds.length = (kwNames kws).length) :
    PE X (.Call (.Name x p) [] kws pos) (tV X.K ct (makeM c cf (permM perm mv))) := by
  constructor
  intro pins s σ H Q I h
  obtain ⟨k1, k2, k3, k4⟩ := kw_facts (env := X.env) (pos := pos) hw
  refine wpAny_Call_Name_kw (ld_glob I hg hm ?_ hd)
  refine PySem.W.callWith_KW0 (h₀ := X.base) I.ok.mod.kin M.kp k1 ?_ (by show (false || _) = false; rw [k2]; rfl)
  have w := makeM_sp hl hle h
  have w2 : tA X.K ct mv σ H fun vs H2 => ∃ ys, perm.mapM (fun i => vs[i]?) = some ys ∧ mkQ X.K ct c cf ps.length ys H2 Q ∧ ∃ env ds env', mv env = some (ds, env') ∧ vs.length = ds.length := by
    obtain ⟨z, F1, env, rel, rs, env1, q, kk⟩ := w
    unfold permM at q
    cases q1 : mv env with
    | none => rw [q1] at q; cases q
    | some pq =>
      obtain ⟨ds, env2⟩ := pq
      rw [q1] at q
      simp only at q
      cases q2 : permute perm ds with
      | none => rw [q2] at q; cases q
      | some es' =>
        rw [q2] at q
        cases q
        refine ⟨z, F1, env, rel, ds, _, q1, fun vs F2 H2 e2 R2 ra => ?_⟩
        obtain ⟨ys, g1, g2⟩ := perm_rp ra q2
        exact ⟨ys, g1, kk ys F2 H2 e2 R2 g2, env, ds, _, q1, ra.length⟩
  refine thn (ha.run pos pins s σ H _ I w2) ?_
  rintro ws s1 ⟨vs, H2, I2, rw', ys, g1, g3, env, ds, env', g5, g6⟩
  obtain ⟨us, g4⟩ := perm_some rw' g1
  refine ⟨I2.kIn, ?_⟩
  rw [k3]
  have hwl : ws.length = (kwNames kws).length := by rw [← rw'.length, g6]; exact hn _ _ _ g5
  exact run_makeV (us := []) M F hr hgd I2 (fun s' x hx => hb s' [x] ws us hx rfl hwl g4) (perm_vals rw' g1 g4) g3
end
end VI
namespace VI
open PySem L2
/-! ### targets -/
def SameOff (is : List Nat) (σ σ' : St) : Prop := σ'.length = σ.length ∧ ∀ j, j ∉ is → σ'[j]? = σ[j]?
def tgIx : Tg → List Nat
  | .nm i => [i]
  | .tu is => is
/-- an item: data, or a tuple that is only taken apart -/
def RpI (K : PySem.W.Frag) (ct : Nat → Addr) (b : Bool) (F : Hp) (v : V) (d : D) : Prop := Rp K ct F v d ∨ (b = true ∧ ∃ a xs ds, v = .ref a ∧ d = .tup ds ∧ SqT K F a xs ∧ RpA K ct F xs ds)
theorem RpI.mono {K : PySem.W.Frag} {ct : Nat → Addr} {b : Bool} {F G : Hp} {v : V} {d : D} (e : Ex F G) (h : RpI K ct b F v d) : RpI K ct b G v d := by
  rcases h with h | ⟨hb, a, xs, ds, h1, h2, h3, h4⟩
  · exact .inl (h.mono e)
  · exact .inr ⟨hb, a, xs, ds, h1, h2, e.sqT h3, h4.mono e⟩
def isTu : Tg → Bool
  | .nm _ => false
  | .tu _ => true
section
variable {X : Cx} {K : PySem.W.Frag} {ct : Nat → Addr}
def gD (K : PySem.W.Frag) (ct : Nat → Addr) (t : Tg) : TG := fun v σ H Q => ∃ z F env d env', RelB K ct z F H σ env ∧ RpI K ct (isTu t) F v d ∧ putTg t d env = some env' ∧ ∀ σ', SameOff (tgIx t) σ σ' → RelB K ct z F H σ' env' → Q σ' H
def gDs (K : PySem.W.Frag) (ct : Nat → Addr) (is : List Nat) : TGs := fun vs σ H Q => ∃ z F env ds env', RelB K ct z F H σ env ∧ RpA K ct F vs ds ∧ putAll is ds env = some env' ∧ ∀ σ', SameOff is σ σ' → RelB K ct z F H σ' env' → Q σ' H
theorem _root_.L2.PG.vimp {e : Expr} {t t' : TG} (h : PG X e t) (q : ∀ v σ H Q, t' v σ H Q → t v σ H Q) : PG X e t' := ⟨fun pins s σ H v u Q I r w => h.run pins s σ H v u Q I r (q v σ H Q w)⟩
theorem _root_.L2.PGs.vimp {e : List Expr} {t t' : TGs} (h : PGs X e t) (q : ∀ v σ H Q, t' v σ H Q → t v σ H Q) : PGs X e t' := ⟨fun pins s σ H v u Q I r w => h.run pins s σ H v u Q I r (q v σ H Q w)⟩
theorem same_set {σ : St} {i : Nat} {x : Option V} : SameOff [i] σ (σ.set i x) := ⟨List.length_set .., fun j hj => set_ne fun e => hj (by simp [e])⟩
theorem putSl_va {z : Fm} {F H : Hp} {σ : St} {env env' : Env'} {i : Nat} {v : V} {d : D} (R0 : RelB K ct z F H σ env) (h : Rp K ct F v d) (e : putSl i (.dt d) env = some env') : RelB K ct z F H (σ.set i (some v)) env' := by
  unfold putSl at e
  split at e
  · rename_i hf
    cases e
    exact R0.putVa hf h
  · cases e
theorem pg_nmV {i : Nat} {x : Str} {pos : Pos} (hN : X.N.Nodup) (hi : X.N[i]? = some x) (hx : Loc X.env.scope x) (hf : X.fn x = true ∨ X.env.scope.names.lookup x = some .local) : PG X (.Name x pos) (gD X.K ct (.nm i)) := by
  refine (pg_name hN hi hx hf).vimp fun v σ H Q ⟨z, F, env, d, env', rel, rp, eq, k⟩ => ?_
  rcases rp with rp | ⟨hb, _⟩
  · exact k _ same_set (putSl_va rel rp eq)
  · cases hb
theorem pgs_nilV : PGs X [] (gDs X.K ct []) := by
  refine pgs_nil.vimp fun vs σ H Q ⟨z, F, env, ds, env', rel, rp, eq, k⟩ => ?_
  cases rp with
  | nil => cases eq; exact ⟨rfl, k σ ⟨rfl, fun _ _ => rfl⟩ rel⟩
  | cons _ _ => cases eq
theorem pgs_consV {e : Expr} {es : List Expr} {i : Nat} {is : List Nat} (h1 : PG X e (gD X.K ct (.nm i))) (h2 : PGs X es (gDs X.K ct is))
    (hs : (assignEach (e :: es) X.env).map (·.2) = assign e X.env :: (assignEach es X.env).map (·.2)) : PGs X (e :: es) (gDs X.K ct (i :: is)) := by
  refine (pgs_cons h1 h2 hs).vimp fun vs σ H Q ⟨z, F, env, ds, env', rel, rp, eq, k⟩ => ?_
  cases rp with
  | nil => cases eq
  | @cons v vs d ds h r =>
    unfold putAll at eq
    cases q : putSl i (.dt d) env with
    | none => rw [q] at eq; cases eq
    | some env1 =>
      rw [q] at eq
      refine ⟨v, vs, rfl, z, F, env, d, env1, rel, .inl h, q, fun σ1 s1 R1 => ⟨z, F, env1, ds, env', R1, r, eq, fun σ2 s2 R2 => k σ2 ⟨s2.1.trans s1.1, fun j hj => ?_⟩ R2⟩⟩
      rw [s2.2 j (fun w => hj (List.mem_cons_of_mem _ w)), s1.2 j (fun w => hj (by have : j = i := by simpa [tgIx] using w
                                                                                   simp [this]))]
theorem pg_tuV {es : List Expr} {k : Nat} {is : List Nat} {pos : Pos} (hc : X.calm = true) (h : PGs X es (gDs X.K ct is)) (hn : (assignEach es X.env).length = is.length) (hst : (assignEach es X.env).findIdx? (·.1) = none) : PG X (.Tuple es k pos) (gD X.K ct (.tu is)) := by
  refine (pg_tup hc h hn hst).vimp fun v σ H Q ⟨z, F, env, d, env', rel, rp, eq, k⟩ => ?_
  cases d with
  | tup ds =>
    have rq : ∃ a xs, v = .ref a ∧ SqT X.K F a xs ∧ RpA X.K ct F xs ds := by
      rcases rp with rp | ⟨_, a, xs, ds', h1, h2, h3, h4⟩
      · cases rp with
        | tup hq r => exact ⟨_, _, rfl, hq.sq, r⟩
      · cases h2; exact ⟨a, xs, h1, h3, h4⟩
    obtain ⟨a, xs, rfl, hq, r⟩ := rq
    · have hl : ds.length = is.length := by
        have : ∀ (is : List Nat) (ds : List D) (env env' : Env'), putAll is ds env = some env' → ds.length = is.length := by
          intro is
          induction is with
          | nil => intro ds env env' e; cases ds with
            | nil => rfl
            | cons _ _ => cases e
          | cons i is ih => intro ds env env' e; cases ds with
            | nil => cases e
            | cons d ds =>
              unfold putAll at e
              cases q : putSl i (.dt d) env with
              | none => rw [q] at e; cases e
              | some env1 => rw [q] at e; exact congrArg (· + 1) (ih ds env1 env' e)
        exact this is ds env env' eq
      exact ⟨a, xs, rfl, rel.r.sub.sqT hq, by rw [r.length, hl], z, F, env, ds, env', rel, r, eq, k⟩
  | _ => cases eq
/-! ### what is walked -/
def Yl (K : PySem.W.Frag) (ct : Nat → Addr) (b : Bool) (F : Hp) (xs : List D) : Nat → Hp → V → Hp → Prop := fun i H v H' => ∃ d, xs[i]? = some d ∧
  ((H' = H ∧ Rp K ct F v d) ∨ ∃ T o, H T = none ∧ H' = upd H T o ∧ ∀ F2, Ex F F2 → F2 T = none → RpI K ct b (upd F2 T o) v d)
def tI (K : PySem.W.Frag) (ct : Nat → Addr) (b : Bool) (m : Env' → Option (List D × Env')) : TI := fun σ H R => ∃ z F env, RelB K ct z F H σ env ∧ ∃ xs env', m env = some (xs, env') ∧
  ∀ J F' H', Ex F F' → RelB K ct z F' H' σ env' → Walk J xs.length (Ex F') (Yl K ct b F' xs) → R J H'
/-- the item that a walk gives, frozen -/
theorem RelB.item {z : Fm} {F F' H H' : Hp} {σ : St} {env : Env'} {xs : List D} {i : Nat} {v : V} {b : Bool} (R0 : RelB K ct z F' H σ env) (e : Ex F F') (y : Yl K ct b F xs i H v H') : ∃ d F2, xs[i]? = some d ∧ Ex F' F2 ∧ RelB K ct z F2 H' σ env ∧ RpI K ct b F2 v d ∧ Ex H H' ∧ ∀ a, H a ≠ none → F2 a = F' a := by
  obtain ⟨d, hd, ⟨rfl, rp⟩ | ⟨T, o, hT, rfl, k⟩⟩ := y
  · exact ⟨d, F', hd, Ex.refl _, R0, .inl (rp.mono e), Ex.refl _, fun _ _ => rfl⟩
  · have nF : F' T = none := noneF R0.r.sub hT
    have R1 : RelB K ct z F' (upd H T o) σ env := R0.heap (Ex.new hT)
    have nf : ¬ foot σ env T := R0.noFoot hT
    exact ⟨d, upd F' T o, hd, Ex.new nF, R1.fz upd_same nF nf (.inl (R0.noZ hT)), k F' e nF, Ex.new hT, fun a ha => upd_ne fun q => ha (q ▸ hT)⟩
theorem walk_lstV {F : Hp} {a : Addr} {xs : List V} {ds : List D} (h : SqL K F a xs) (r : RpA K ct F xs ds) : Walk (Itl K a) ds.length (Ex F) (Yl K ct false F ds) := by
  rw [← r.length]
  refine walk_list.mono (fun H e => e.sqL h) fun i H x H' hi _ ⟨e, q⟩ => ?_
  obtain ⟨d, hd, rp⟩ := r.get' q
  exact ⟨d, hd, .inl ⟨e, rp⟩⟩
theorem walk_tupV {F : Hp} {a : Addr} {xs : List V} {ds : List D} (h : TpT F a xs) (r : RpA K ct F xs ds) : Walk (Itt K a) ds.length (Ex F) (Yl K ct false F ds) := by
  rw [← r.length]
  refine walk_tup.mono (fun H e => (e.tpT h).sq) fun i H x H' hi _ ⟨e, q⟩ => ?_
  obtain ⟨d, hd, rp⟩ := r.get' q
  exact ⟨d, hd, .inl ⟨e, rp⟩⟩
theorem walk_strV {F : Hp} {z : Str} : Walk (Its z) (z.cps.toList.map fun c => D.str ⟨#[c]⟩).length (Ex F) (Yl K ct false F (z.cps.toList.map fun c => D.str ⟨#[c]⟩)) := by
  rw [List.length_map, Array.length_toList]
  refine walk_str.mono (fun _ _ => trivial) fun i H x H' hi _ ⟨e, c, q, hv⟩ => ?_
  subst hv
  refine ⟨.str ⟨#[c]⟩, ?_, .inl ⟨e, .str _⟩⟩
  rw [List.getElem?_map, Array.getElem?_toList, q] <;> rfl
theorem walk_rngV {F : Hp} {lo : Int} {n : Nat} : Walk (Itr lo n) ((List.range n).map fun (k : Nat) => D.int (lo + (k : Int))).length (Ex F) (Yl K ct false F ((List.range n).map fun (k : Nat) => D.int (lo + (k : Int)))) := by
  rw [List.length_map, List.length_range]
  refine walk_range.mono (fun _ _ => trivial) fun i H x H' hi _ ⟨e, hv⟩ => ?_
  subst hv
  refine ⟨.int (lo + i), ?_, .inl ⟨e, .int _⟩⟩
  rw [List.getElem?_map, List.getElem?_range hi] <;> rfl
theorem pi_seqV {tg e : Expr} {m : Env' → Option (R × Env')} (h : PE X e (tV X.K ct m)) : PI X tg e (tI X.K ct false (seqM m)) := by
  refine ⟨fun pins s σ H R I w => ?_⟩
  obtain ⟨z, F, env, rel, xs, env', eq, k⟩ := w
  unfold seqM at eq
  split at eq
  · rename_i d env1 q
    cases d with
    | tup l =>
      cases eq
      refine (pi_tup h.vfrz).run pins s σ H R I ⟨z, F, env, rel, _, _, q, fun v F' H' ex rl rp => ?_⟩
      cases rp with
      | tup hq r => exact ⟨_, rfl, ⟨_, (rl.r.sub.tpT hq).sq⟩, k _ F' H' ex rl (walk_tupV hq r)⟩
    | lst l =>
      cases eq
      refine (pi_list h.vfrz).run pins s σ H R I ⟨z, F, env, rel, _, _, q, fun v F' H' ex rl rp => ?_⟩
      cases rp with
      | lst hq r => exact ⟨_, rfl, ⟨_, SqL.of (rl.r.sub _ _ hq)⟩, k _ F' H' ex rl (walk_lstV (SqL.of hq) r)⟩
    | scr l =>
      cases eq
      refine (pi_list h.vfrz).run pins s σ H R I ⟨z, F, env, rel, _, _, q, fun v F' H' ex rl rp => ?_⟩
      cases rp with
      | scr hq => exact ⟨_, rfl, ⟨_, rl.r.sub.sqL hq⟩, k _ F' H' ex rl (walk_lstV hq (RpA.ofInts l))⟩
    | str y =>
      cases eq
      refine (pi_str h.vfrz).run pins s σ H R I ⟨z, F, env, rel, _, _, q, fun v F' H' ex rl rp => ?_⟩
      cases rp with
      | str _ => exact ⟨_, rfl, k _ F' H' ex rl walk_strV⟩
    | _ => cases eq
  · cases eq
theorem pi_rng1V {tg a : Expr} {m : Env' → Option (R × Env')} {p pos : Pos} (hg : Gl X "range") (hm : X.mg "range" = none) (h : PE X a (tV X.K ct m)) (hs : isStar a = false) : PI X tg (.Call (.Name "range" p) [a] [] pos) (tI X.K ct false (rng1M m)) := by
  refine ⟨fun pins s σ H R I w => ?_⟩
  obtain ⟨z, F, env, rel, xs, env', eq, k⟩ := w
  unfold rng1M at eq
  split at eq
  · rename_i n env1 q
    split at eq
    · rename_i hz
      cases eq
      refine (pi_range1 (tg := tg) hg hm (pa_consV h pa_nilV (star_of hs)) (star_of hs)).run pins s σ H R I ⟨z, F, env, rel, [.int n], env', ?_, fun vs F' H' ex rl rp => ?_⟩
      · unfold consV; rw [q]; rfl
      · cases rp with
        | cons h0 r0 =>
          cases r0
          cases h0
          exact ⟨n, rfl, hz.1, hz.2, k _ F' H' ex rl walk_rngV⟩
    · cases eq
  · cases eq
theorem pi_rng2V {tg a b : Expr} {m m' : Env' → Option (R × Env')} {p pos : Pos} (hg : Gl X "range") (hm : X.mg "range" = none) (h : PE X a (tV X.K ct m)) (h' : PE X b (tV X.K ct m')) (hs : isStar a = false) (hs' : isStar b = false) : PI X tg (.Call (.Name "range" p) [a, b] [] pos) (tI X.K ct false (rng2M m m')) := by
  refine ⟨fun pins s σ H R I w => ?_⟩
  obtain ⟨z, F, env, rel, xs, env', eq, k⟩ := w
  unfold rng2M at eq
  split at eq
  · rename_i lo env1 q
    split at eq
    · rename_i hi env2 q2
      split at eq
      · rename_i hz
        cases eq
        refine (pi_range2 (tg := tg) hg hm (pa_consV h (pa_consV h' pa_nilV (star_of hs')) (star_of hs)) (by rw [star_of hs, star_of hs'] <;> rfl) (star_of hs')).run pins s σ H R I ⟨z, F, env, rel, [.int lo, .int hi], env', ?_, fun vs F' H' ex rl rp => ?_⟩
        · unfold consV; rw [q]; simp only [frz]; rw [q2] <;> rfl
        · cases rp with
          | cons h0 r0 =>
            cases r0 with
            | cons h1 r1 =>
              cases r1
              cases h0
              cases h1
              exact ⟨lo, hi, rfl, hz, k _ F' H' ex rl walk_rngV⟩
      · cases eq
    · cases eq
  · cases eq
end
end VI
namespace VI
open PySem L2
section
variable {X : Cx} {K : PySem.W.Frag} {ct : Nat → Addr} {z : Fm} {F H : Hp} {σ : St} {env : Env'}
/-- the heap changes beside all that is tracked -/
theorem RelB.side {H' : Hp} {a : Addr} {o : HO} (R0 : RelB K ct z F H σ env) (kp : ∀ c, c ≠ a → H' c = H c) (ha : H' a = some o) (hF : F a = none) (nf : ¬ foot σ env a) (hz : z.H a = none) : RelB K ct z F H' σ env := by
  have zne : ∀ c, z.H c ≠ none → c ≠ a := fun c h e => by subst e; exact h hz
  refine ⟨⟨fun c o e => by rw [kp c (ne_of_none e hF)]; exact R0.r.sub c o e, R0.r.len, R0.r.va, fun i b d q => ?_, R0.r.dj⟩, ⟨R0.n.ex, fun c o h1 h2 => ?_, R0.n.nofz, fun c h1 => ?_, R0.n.fo, R0.n.lent, R0.n.tz, R0.n.own⟩⟩
  · obtain ⟨c, h1, h2, h3⟩ := R0.r.ow i b d q
    have hne : c ≠ a := fun e => nf ⟨i, b, d, q, e ▸ h1⟩
    exact ⟨c, h1, h2, h3.heap (kp c hne)⟩
  · rw [kp c (zne c (by rw [h1]; simp))]; exact R0.n.keep c o h1 h2
  · rw [kp c (zne c h1)]; exact R0.n.th c h1
theorem wipeE_length (env : Env') : ∀ vs : List Nat, (wipeE env vs).length = env.length
  | [] => rfl
  | v :: vs => by unfold wipeE; rw [List.length_set, wipeE_length env vs]
theorem wipeE_out {env : Env'} {i : Nat} : ∀ {vs : List Nat}, i ∉ vs → (wipeE env vs)[i]? = env[i]?
  | [], _ => rfl
  | v :: vs, h => by
    have h1 : v ≠ i := fun e => h (by rw [e]; exact List.mem_cons_self)
    unfold wipeE
    rw [List.getElem?_set_ne h1]
    exact wipeE_out fun m => h (List.mem_cons_of_mem _ m)
theorem wipeE_in {env : Env'} {i : Nat} {s : Sl} : ∀ {vs : List Nat}, i ∈ vs → (wipeE env vs)[i]? = some s → s = .no
  | [], h, _ => nomatch h
  | v :: vs, h, e => by
    unfold wipeE at e
    rcases set_at e with ⟨rfl, q⟩ | ⟨hne, q⟩
    · exact q.symm
    · rcases List.mem_cons.mp h with w | w
      · exact (hne w.symm).elim
      · exact wipeE_in w q
theorem wipe_in {σ : St} {i : Nat} {s : Option V} : ∀ {vs : List Nat}, i ∈ vs → (wipe σ vs)[i]? = some s → s = none
  | [], h, _ => nomatch h
  | v :: vs, h, e => by
    unfold wipe at e
    rcases set_at e with ⟨rfl, q⟩ | ⟨hne, q⟩
    · exact q.symm
    · rcases List.mem_cons.mp h with w | w
      · exact (hne w.symm).elim
      · exact wipe_in w q
theorem wipe_eq {σ σ' : St} {vs : List Nat} (hl : σ'.length = σ.length) (h : ∀ j, j ∉ vs → σ'[j]? = σ[j]?) : wipe σ' vs = wipe σ vs := by
  refine List.ext_getElem? fun i => ?_
  by_cases hi : i ∈ vs
  · have hw : ∀ (τ : St), i < τ.length → (wipe τ vs)[i]? = some none := fun τ ht => by
      have : i < (wipe τ vs).length := by rw [wipe_length]; exact ht
      have e : (wipe τ vs)[i]? = some (wipe τ vs)[i] := List.getElem?_eq_getElem this
      rw [e, wipe_in hi e]
    by_cases hlt : i < σ.length
    · rw [hw σ hlt, hw σ' (by rw [hl]; exact hlt)]
    · rw [List.getElem?_eq_none (by rw [wipe_length, hl]; omega), List.getElem?_eq_none (by rw [wipe_length]; omega)]
  · rw [wipe_out hi, wipe_out hi]; exact h i hi
theorem wipe_wipe {σ : St} {vs : List Nat} : wipe (wipe σ vs) vs = wipe σ vs := wipe_eq (wipe_length σ vs) fun j hj => wipe_out hj
theorem backE_length (old env : Env') : ∀ vs : List Nat, (backE old env vs).length = env.length
  | [] => rfl
  | v :: vs => by unfold backE; rw [List.length_set, backE_length old env vs]
theorem backE_out {old env : Env'} {i : Nat} : ∀ {vs : List Nat}, i ∉ vs → (backE old env vs)[i]? = env[i]?
  | [], _ => rfl
  | v :: vs, h => by
    have h1 : v ≠ i := fun e => h (by rw [e]; exact List.mem_cons_self)
    unfold backE
    rw [List.getElem?_set_ne h1]
    exact backE_out fun m => h (List.mem_cons_of_mem _ m)
theorem backE_in {old env : Env'} {i : Nat} {s : Sl} : ∀ {vs : List Nat}, i ∈ vs → (backE old env vs)[i]? = some s → s = old.getD i .no
  | [], h, _ => nomatch h
  | v :: vs, h, e => by
    unfold backE at e
    rcases set_at e with ⟨rfl, q⟩ | ⟨hne, q⟩
    · exact q.symm
    · rcases List.mem_cons.mp h with w | w
      · exact (hne w.symm).elim
      · exact backE_in w q
theorem foot_wipe {vs : List Nat} {a : Addr} (f : foot (wipe σ vs) (wipeE env vs) a) : foot σ env a := by
  obtain ⟨i, b, d, q, q'⟩ := f
  have hi : i ∉ vs := (wipe_some q').2
  rw [wipeE_out hi] at q
  exact ⟨i, b, d, q, (wipe_some q').1⟩
theorem RelB.wiped (R0 : RelB K ct z F H σ env) (vs : List Nat) : RelB K ct z F H (wipe σ vs) (wipeE env vs) := by
  have key : ∀ (i : Nat) (s : Sl), (wipeE env vs)[i]? = some s → s ≠ .no → i ∉ vs ∧ env[i]? = some s ∧ (wipe σ vs)[i]? = σ[i]? := fun i s h hn => by
    have hi : i ∉ vs := fun hm => hn (wipeE_in hm h)
    rw [wipeE_out hi] at h
    exact ⟨hi, h, wipe_out hi⟩
  refine ⟨⟨R0.r.sub, by rw [wipe_length, wipeE_length]; exact R0.r.len, fun i d q => ?_, fun i b d q => ?_, fun i j b b' d d' a q1 q2 q3 q4 => ?_⟩, ⟨R0.n.ex, R0.n.keep, R0.n.nofz, R0.n.th, fun a f => R0.n.fo a (foot_wipe f), fun i d q => ?_, R0.n.tz, fun i d a q q' => ?_⟩⟩
  · obtain ⟨_, h1, h2⟩ := key i _ q (by simp)
    rw [h2]; exact R0.r.va i d h1
  · obtain ⟨_, h1, h2⟩ := key i _ q (by simp)
    rw [h2]; exact R0.r.ow i b d h1
  · obtain ⟨_, h1, h2⟩ := key i _ q1 (by simp)
    obtain ⟨_, h3, h4⟩ := key j _ q2 (by simp)
    rw [h2] at q3; rw [h4] at q4
    exact R0.r.dj i j b b' d d' a h1 h3 q3 q4
  · obtain ⟨_, h1, h2⟩ := key i _ q (by simp)
    rw [h2]; exact R0.n.lent i d h1
  · obtain ⟨_, h1, h2⟩ := key i _ q (by simp)
    rw [h2] at q'; exact R0.n.own i d a h1 q'
theorem RelB.back {F1 H1 : Hp} {env1 : Env'} {vs : List Nat} (R0 : RelB K ct z F H (wipe σ vs) (wipeE env vs)) (R1 : RelB K ct z F1 H1 σ env1) (e : Ex F1 F) (hp : plainAt env1 vs = true) :
    RelB K ct z F H σ (backE env1 env vs) ∧ ∀ a, foot σ (backE env1 env vs) a → foot (wipe σ vs) (wipeE env vs) a := by
  have old : ∀ i s, i ∈ vs → (backE env1 env vs)[i]? = some s → s = .no ∨ ∃ d, s = .va d ∧ env1[i]? = some (.va d) := fun i s hi q => by
    have e1 := backE_in hi q
    have hp' := List.all_eq_true.mp hp i hi
    rw [List.getD_eq_getElem?_getD] at e1
    cases q1 : env1[i]? with
    | none => rw [q1] at e1; exact .inl e1
    | some s1 =>
      rw [q1] at e1 hp'
      have e1' : s = s1 := e1
      subst e1'
      cases s with
      | no => exact .inl rfl
      | va d => exact .inr ⟨d, rfl, rfl⟩
      | ow b d => cases hp'
  have key : ∀ i b d, (backE env1 env vs)[i]? = some (.ow b d) → i ∉ vs ∧ (wipeE env vs)[i]? = some (.ow b d) ∧ (wipe σ vs)[i]? = σ[i]? := fun i b d q => by
    have hi : i ∉ vs := fun hm => by
      rcases old i _ hm q with w | ⟨_, w, _⟩ <;> cases w
    rw [backE_out hi] at q
    exact ⟨hi, by rw [wipeE_out hi]; exact q, wipe_out hi⟩
  have ft : ∀ a, foot σ (backE env1 env vs) a → foot (wipe σ vs) (wipeE env vs) a := fun a ⟨i, b, d, q, q'⟩ => by
    obtain ⟨h1, h2, h3⟩ := key i b d q
    exact ⟨i, b, d, h2, by rw [h3]; exact q'⟩
  refine ⟨⟨⟨R0.r.sub, ?_, fun i d q => ?_, fun i b d q => ?_, fun i j b b' d d' a q1 q2 q3 q4 => ?_⟩, ⟨R0.n.ex, R0.n.keep, R0.n.nofz, R0.n.th, fun a f => R0.n.fo a (ft a f), fun i d q => ?_, R0.n.tz, fun i d a q q' => ?_⟩⟩, ft⟩
  · have := R0.r.len
    rw [wipe_length, wipeE_length] at this
    rw [backE_length]; exact this
  · by_cases hi : i ∈ vs
    · rcases old i _ hi q with w | ⟨d', w, q'⟩
      · cases w
      · cases w
        obtain ⟨v, h1, h2⟩ := R1.r.va i d q'
        exact ⟨v, h1, h2.mono e⟩
    · rw [backE_out hi] at q
      have := R0.r.va i d (by rw [wipeE_out hi]; exact q)
      rw [wipe_out hi] at this
      exact this
  · obtain ⟨h1, h2, h3⟩ := key i b d q
    rw [← h3]; exact R0.r.ow i b d h2
  · obtain ⟨h1, h2, h3⟩ := key i b d q1
    obtain ⟨g1, g2, g3⟩ := key j b' d' q2
    exact R0.r.dj i j b b' d d' a h2 g2 (h3.trans q3) (g3.trans q4)
  · obtain ⟨h1, h2, h3⟩ := key i true d q
    rw [← h3]; exact R0.n.lent i d h2
  · obtain ⟨h1, h2, h3⟩ := key i false d q
    exact R0.n.own i d a h2 (h3.trans q')
theorem RpI.up {b b' : Bool} {v : V} {d : D} (h : RpI K ct b F v d) (hb : b = true → b' = true) : RpI K ct b' F v d := by
  rcases h with h | ⟨e, h⟩
  · exact .inl h
  · exact .inr ⟨hb e, h⟩
/-! ### comprehensions -/
theorem t_lc {vs : List Nat} {t : Tg} {mi : Env' → Option (List D × Env')} {mc : Env' → Option (Bool × Env')} {me : Env' → Option (R × Env')} {Q : VK} {b0 : Bool} (hb : b0 = true → isTu t = true) (ht : ∀ j ∈ tgIx t, j ∈ vs) (w : tV K ct (lcM vs t mi mc me) σ H Q) :
    tLc (tI K ct b0 mi) (gD K ct t) (VI.tB K ct mc) (tV K ct (frzM me)) vs σ H Q := by
  obtain ⟨z, F, env, rel, r, env', eq, k⟩ := w
  unfold lcM at eq
  cases q : mi env with
  | none => rw [q] at eq; cases eq
  | some p =>
    obtain ⟨xs, env1⟩ := p
    rw [q] at eq
    simp only at eq
    split at eq
    · rename_i hp
      cases q2 : lcL t vs mc me xs [] env1 with
      | none => rw [q2] at eq; cases eq
      | some p2 =>
        obtain ⟨ds, env2⟩ := p2
        rw [q2] at eq
        cases eq
        refine ⟨z, F, env, rel, xs, env1, q, fun J F1 H1 ex1 R1 wk D hD => ?_⟩
        refine lc_it wk (Qd := fun H => Q (.ref D) H) (fun i Hc => ∃ Fc envc acc av, Ex F1 Fc ∧ RelB K ct z Fc Hc (wipe σ vs) (wipeE envc vs) ∧ lcL t vs mc me (xs.drop i) acc envc = some (ds, env2) ∧ Hc D = some (.lst av) ∧ RpA K ct Fc av acc ∧ Fc D = none ∧ ¬ foot (wipe σ vs) (wipeE envc vs) D ∧ z.H D = none) ?_ ?_ ?_ ?_
        · have nF := noneF R1.r.sub hD
          have R2 := (R1.heap (H' := upd H1 D (.lst [])) (Ex.new hD)).wiped vs
          exact ⟨F1, env1, [], [], Ex.refl _, R2, q2, upd_same, .nil, nF, fun f => R1.noFoot hD (foot_wipe f), R1.noZ hD⟩
        · rintro i Hc hi ⟨Fc, envc, acc, av, e1, Rc, _⟩
          exact fun a o h => Rc.r.sub a o (e1 a o h)
        · rintro i x Hc H' hi ⟨Fc, envc, acc, av, e1, Rc, el, hav, rav, hFD, hfD, hzD⟩ y
          obtain ⟨d, F2, hd, e2, R2, rp, eh, kF⟩ := Rc.item e1 y
          have hxs : xs.drop i = d :: xs.drop (i + 1) := by
            rw [List.getElem?_eq_some_iff] at hd
            obtain ⟨hlt, hd⟩ := hd
            rw [← hd]; exact List.drop_eq_getElem_cons hlt
          rw [hxs] at el
          unfold lcL at el
          have hH'D : H' D = some (.lst av) := eh _ _ hav
          have hF2D : F2 D = none := (kF D (by rw [hav]; simp)).trans hFD
          have S2 := R2.start
          -- what a turn leaves of the new list
          have keep : ∀ {F4 H4 : Hp} {σ4 : St} {env4 : Env'}, RelB K ct (here z.L z.W F2 H' (wipe σ vs) (wipeE envc vs)) F4 H4 σ4 env4 → H4 D = some (.lst av) ∧ F4 D = none ∧ ¬ foot σ4 env4 D := fun {F4 H4 σ4 env4} R4 => by
            refine ⟨R4.n.keep D _ hH'D hfD, (R4.n.nofz D (by show H' D ≠ none; rw [hH'D]; simp) hfD).trans hF2D, fun f => ?_⟩
            rcases R4.n.fo D f with w | w
            · exact hfD w
            · have w' : H' D = none := w
              rw [hH'D] at w'; cases w'
          cases q3 : putTg t d (wipeE envc vs) with
          | none => rw [q3] at el; cases el
          | some env3 =>
            rw [q3] at el
            simp only at el
            refine ⟨_, F2, wipeE envc vs, d, env3, S2, rp.up hb, q3, fun σ2 so R3 => ⟨?_, ?_⟩⟩
            · rw [wipe_eq (σ := wipe σ vs) so.1 fun j hj => so.2 j fun hm => hj (ht j hm)]
              exact wipe_wipe
            · have hw2 : wipe σ2 vs = wipe σ vs := by
                rw [wipe_eq (σ := wipe σ vs) so.1 fun j hj => so.2 j fun hm => hj (ht j hm)]
                exact wipe_wipe
              cases q4 : mc env3 with
              | none => rw [q4] at el; cases el
              | some p4 =>
                obtain ⟨b, env4⟩ := p4
                refine ⟨_, F2, env3, R3, b, env4, q4, fun F4 H4 e4 R4 => ?_⟩
                rw [q4] at el
                cases b with
                | false =>
                  simp only at el
                  simp only [Bool.false_eq_true, if_false]
                  obtain ⟨k1, k2, k3⟩ := keep R4
                  have RZ := (R2.outer R4).wiped vs
                  rw [hw2] at RZ
                  exact ⟨F4, env4, acc, av, (e1.trans e2).trans e4, RZ, el, k1, rav.mono (e2.trans e4), k2, fun f => k3 (foot_wipe (hw2 ▸ f)), hzD⟩
                | true =>
                  simp only at el
                  simp only [if_true]
                  cases q5 : frzM me env4 with
                  | none => rw [q5] at el; cases el
                  | some p5 =>
                    obtain ⟨r5, env5⟩ := p5
                    rw [q5] at el
                    cases r5 with
                    | dt d5 =>
                      simp only at el
                      split at el
                      · rename_i hlen
                        refine ⟨_, F4, env4, R4, _, _, q5, fun v F5 H5 e5 R5 rp5 => ?_⟩
                        obtain ⟨k1, k2, k3⟩ := keep R5
                        refine ⟨av, k1, by rw [rav.length]; exact hlen, ?_⟩
                        have RZ := ((R2.outer R5).side (H' := upd H5 D (.lst (av ++ [v]))) (fun c hc => upd_ne hc) upd_same k2 k3 hzD).wiped vs
                        rw [hw2] at RZ
                        exact ⟨F5, env5, acc ++ [d5], av ++ [v], ((e1.trans e2).trans e4).trans e5, RZ, el, upd_same, (rav.mono ((e2.trans e4).trans e5)).append (.cons rp5 .nil), k2, fun f => k3 (foot_wipe (hw2 ▸ f)), hzD⟩
                      · cases el
                    | nw d5 => cases el
                    | sl i5 => cases el
        · rintro Hc ⟨Fc, envc, acc, av, e1, Rc, el, hav, rav, hFD, hfD, hzD⟩
          rw [List.drop_length] at el
          unfold lcL at el
          cases el
          obtain ⟨Rb, fb⟩ := Rc.back R1 e1 hp
          exact k _ Fc Hc (ex1.trans e1) Rb ⟨D, rfl, hFD, ⟨av, hav, rav⟩, fun f => hfD (fb D f), hzD⟩
    · cases eq
end
end VI
namespace VI
open PySem L2
section
variable (K : PySem.W.Frag) (ct : Nat → Addr)
def ResR (z : Fm) (F H : Hp) (σ : St) (env : Env') (v : V) : R → Prop
  | .dt d => Rp K ct F v d
  | .nw d => ∃ a, v = .ref a ∧ F a = none ∧ OwnAt K ct F H a d ∧ ¬ foot σ env a ∧ ¬ z.W a
  | .sl _ => False
/-- how a statement ends -/
def endS (z : Fm) (F : Hp) (env' : Env') (D : Ends) : Fl → Prop
  | .next => ∀ σ' F' H', Ex F F' → RelB K ct z F' H' σ' env' → D.nx σ' H'
  | .brk => ∀ σ' F' H', Ex F F' → RelB K ct z F' H' σ' env' → D.bk σ' H'
  | .cnt => ∀ σ' F' H', Ex F F' → RelB K ct z F' H' σ' env' → D.ct σ' H'
  | .ret r => ∀ v σ' F' H', Ex F F' → RelB K ct z F' H' σ' env' → ResR K ct z F' H' σ' env' v r → D.rt v H'
def tS (m : Env' → Option (Fl × Env')) : TS := fun D σ H => ∃ z F env, RelB K ct z F H σ env ∧ ∃ fl env', m env = some (fl, env') ∧ endS K ct z F env' D fl
end
section
variable {X : Cx} {K : PySem.W.Frag} {ct : Nat → Addr} {e : Expr} {m : Env' → Option (R × Env')} {pos : Pos}
theorem endS.mono {z : Fm} {F F1 : Hp} {env' : Env'} {D : Ends} {fl : Fl} (h : endS K ct z F env' D fl) (ex : Ex F F1) : endS K ct z F1 env' D fl := by
  cases fl with
  | next => exact fun σ' F' H' e r => h σ' F' H' (ex.trans e) r
  | brk => exact fun σ' F' H' e r => h σ' F' H' (ex.trans e) r
  | cnt => exact fun σ' F' H' e r => h σ' F' H' (ex.trans e) r
  | ret r => exact fun v σ' F' H' e r q => h v σ' F' H' (ex.trans e) r q
theorem pss_nilV : PSs X [] (tS X.K ct nextM) := pss_nil.vimp fun D σ H ⟨z, F, env, rel, fl, env', eq, k⟩ => by
  cases eq
  exact k σ F H (Ex.refl F) rel
theorem pss_consV {s : Stmt} {ss : List Stmt} {a b : Env' → Option (Fl × Env')} (h1 : PS X s (tS X.K ct a)) (h2 : PSs X ss (tS X.K ct b)) : PSs X (s :: ss) (tS X.K ct (consM a b)) := by
  refine (pss_cons h1 h2).vimp fun D σ H ⟨z, F, env, rel, fl, env', eq, k⟩ => ?_
  unfold consM at eq
  split at eq
  · rename_i env1 q
    exact ⟨z, F, env, rel, .next, env1, q, fun σ' F' H' ex R1 => ⟨z, F', env1, R1, fl, env', eq, k.mono ex⟩⟩
  · rename_i hn
    refine ⟨z, F, env, rel, fl, env', eq, ?_⟩
    cases fl with
    | next => exact (hn env' eq).elim
    | brk => exact k
    | cnt => exact k
    | ret r => exact k
theorem ps_passV : PS X (.Pass pos) (tS X.K ct nextM) := ps_pass.vimp fun D σ H ⟨z, F, env, rel, fl, env', eq, k⟩ => by
  cases eq
  exact k σ F H (Ex.refl F) rel
theorem ps_docV {x : Str} {j : Nat} {pos' : Pos} : PS X (.Expr (.Constant (.str x) j pos) pos') (tS X.K ct nextM) := ps_doc.vimp fun D σ H ⟨z, F, env, rel, fl, env', eq, k⟩ => by
  cases eq
  exact k σ F H (Ex.refl F) rel
theorem ps_brkV : PS X (.Break pos) (tS X.K ct brkM) := ps_break.vimp fun D σ H ⟨z, F, env, rel, fl, env', eq, k⟩ => by
  cases eq
  exact k σ F H (Ex.refl F) rel
theorem ps_cntV : PS X (.Continue pos) (tS X.K ct cntM) := ps_continue.vimp fun D σ H ⟨z, F, env, rel, fl, env', eq, k⟩ => by
  cases eq
  exact k σ F H (Ex.refl F) rel
theorem ps_badV {s : Stmt} : PS X s (tS X.K ct badM) := ps_never.vimp fun D σ H ⟨z, F, env, rel, fl, env', eq, k⟩ => by cases eq
theorem ps_retNV : PS X (.Return none pos) (tS X.K ct retNM) := ps_retN.vimp fun D σ H ⟨z, F, env, rel, fl, env', eq, k⟩ => by
  cases eq
  exact k .non σ F H (Ex.refl F) rel .non
def isComp : Expr → Bool
  | .ListComp .. => true
  | .SetComp .. => true
  | .DictComp .. => true
  | _ => false
theorem swaps_of {e : Expr} {t : Option Expr} {l : Nat} {env : Env} (h : isComp e = false) : swapsWith e t l env = pure false := by
  cases e <;> first | rfl | cases h
theorem ps_exV (h : PE X e (tV X.K ct m)) (hs : isComp e = false) : PS X (.Expr e pos) (tS X.K ct (exM m)) := by
  refine (ps_expr h (swaps_of hs)).vimp fun D σ H ⟨z, F, env, rel, fl, env', eq, k⟩ => ?_
  unfold exM at eq
  cases q : m env with
  | none => rw [q] at eq; cases eq
  | some p =>
    obtain ⟨r, env1⟩ := p
    rw [q] at eq
    cases eq
    exact ⟨z, F, env, rel, r, _, q, fun v F' H' ex R1 _ => k σ F' H' ex R1⟩
theorem ps_retV (h : PE X e (tV X.K ct m)) : PS X (.Return (some e) pos) (tS X.K ct (retM m)) := by
  refine (ps_ret h).vimp fun D σ H ⟨z, F, env, rel, fl, env', eq, k⟩ => ?_
  unfold retM at eq
  cases q : m env with
  | none => rw [q] at eq; cases eq
  | some p =>
    obtain ⟨r, env1⟩ := p
    rw [q] at eq
    cases r with
    | dt d =>
      cases eq
      exact ⟨z, F, env, rel, _, _, q, fun v F' H' ex R1 rp => k v σ F' H' ex R1 rp⟩
    | nw d =>
      cases eq
      refine ⟨z, F, env, rel, _, _, q, fun v F' H' ex R1 rp => k v σ F' H' ex R1 ?_⟩
      obtain ⟨a, h1, h2, h3, h4, h5⟩ := rp
      exact ⟨a, h1, h2, h3, h4, fun w => R1.n.tz a w h5⟩
    | sl i =>
      simp only at eq
      split at eq
      · rename_i d qd
        cases eq
        refine ⟨z, F, env, rel, _, _, q, fun v F' H' ex R1 rp => ?_⟩
        obtain ⟨a, h1, h2, h3⟩ := R1.r.ow i false d qd
        have rp' : σ[i]? = some (some v) := rp
        rw [h1] at rp'; cases rp'
        refine k _ σ F' H' ex (R1.forget qd) ⟨a, rfl, h2, h3, fun ⟨j, b, d', g, g'⟩ => ?_, R1.n.own i d a qd h1⟩
        rcases set_at g with ⟨rfl, w⟩ | ⟨hne, g⟩
        · cases w
        · exact hne (R1.r.dj i j false b d d' a qd g h1 g')
      · cases eq
theorem ps_iteV {c : Expr} {a b : List Stmt} {mc : Env' → Option (R × Env')} {ma mb : Env' → Option (Fl × Env')} (hc : PT X c (VI.tB X.K ct (boolM mc))) (ha : PSs X a (tS X.K ct ma)) (hb : PSs X b (tS X.K ct mb)) : PS X (.If c a b pos) (tS X.K ct (iteM mc ma mb)) := by
  refine (ps_if hc ha hb).vimp fun D σ H ⟨z, F, env, rel, fl, env', eq, k⟩ => ?_
  unfold iteM at eq
  cases q : boolM mc env with
  | none => rw [q] at eq; cases eq
  | some p =>
    obtain ⟨b, env1⟩ := p
    rw [q] at eq
    cases b with
    | true => exact ⟨z, F, env, rel, true, env1, q, fun F' H' ex R1 => ⟨z, F', env1, R1, fl, env', eq, k.mono ex⟩⟩
    | false => exact ⟨z, F, env, rel, false, env1, q, fun F' H' ex R1 => ⟨z, F', env1, R1, fl, env', eq, k.mono ex⟩⟩
def isSetE : Expr → Bool
  | .Set .. => true
  | _ => false
theorem folded_of {e : Expr} {env : Env} (h : isSetE e = false) (x : Value) : foldedSetIterable e env x = pure x := by
  cases e <;> first | rfl | cases h
theorem ps_forV {tg iter : Expr} {body : List Stmt} {t : Tg} {mi : Env' → Option (List D × Env')} {mb : Env' → Option (Fl × Env')} {b0 : Bool} (hb0 : b0 = true → isTu t = true) (hp : PassesOwn (model X.prog X.w) X.A X.env X.xe) (hc : X.calm = true) (hi : PI X tg iter (tI X.K ct b0 mi)) (hg : PG X tg (gD X.K ct t)) (hb : PSs X body (tS X.K ct mb)) (hs : isSetE iter = false) :
    PS X (.For tg iter body [] pos) (tS X.K ct (forM t mi mb)) := by
  refine (ps_for hp hc hi hg hb (folded_of hs)).vimp fun D σ H ⟨z, F, env, rel, fl, env', eq, k⟩ => ?_
  unfold forM at eq
  cases q : mi env with
  | none => rw [q] at eq; cases eq
  | some p =>
    obtain ⟨xs, env1⟩ := p
    rw [q] at eq
    simp only at eq
    refine ⟨z, F, env, rel, xs, env1, q, fun J F1 H1 ex1 R1 wk => ?_⟩
    -- at turn i: what is left of the walk
    refine for_it wk (fun i σc Hc => ∃ Fc envc, Ex F1 Fc ∧ RelB X.K ct z Fc Hc σc envc ∧ forL t mb (xs.drop i) envc = some (fl, env')) ⟨F1, env1, Ex.refl _, R1, eq⟩ ?_ ?_ ?_
    · rintro i σc Hc hi ⟨Fc, envc, e1, Rc, _⟩
      exact fun a o h => Rc.r.sub a o (e1 a o h)
    · rintro i x σc Hc H' hi ⟨Fc, envc, e1, Rc, el⟩ y
      obtain ⟨d, F2, hd, e2, R2, rp, eh, kF⟩ := Rc.item e1 y
      have hxs : xs.drop i = d :: xs.drop (i + 1) := by
        rw [List.getElem?_eq_some_iff] at hd
        obtain ⟨hlt, hd⟩ := hd
        rw [← hd]; exact List.drop_eq_getElem_cons hlt
      rw [hxs] at el
      unfold forL at el
      cases q3 : putTg t d envc with
      | none => rw [q3] at el; cases el
      | some env3 =>
        rw [q3] at el
        simp only at el
        refine ⟨z, F2, envc, d, env3, R2, rp.up hb0, q3, fun σ2 so R3 => ?_⟩
        cases q4 : mb env3 with
        | none => rw [q4] at el; cases el
        | some p4 =>
          obtain ⟨f4, env4⟩ := p4
          rw [q4] at el
          refine ⟨z, F2, env3, R3, f4, env4, q4, ?_⟩
          cases f4 with
          | next => exact fun σ' F' H' ex R' => ⟨F', env4, (e1.trans e2).trans ex, R', el⟩
          | cnt => exact fun σ' F' H' ex R' => ⟨F', env4, (e1.trans e2).trans ex, R', el⟩
          | brk =>
            simp only at el
            cases el
            exact fun σ' F' H' ex R' => k σ' F' H' (((ex1.trans e1).trans e2).trans ex) R'
          | ret r =>
            simp only at el
            cases el
            exact fun v σ' F' H' ex R' rr => k v σ' F' H' (((ex1.trans e1).trans e2).trans ex) R' rr
    · rintro σc Hc ⟨Fc, envc, e1, Rc, el⟩
      rw [List.drop_length] at el
      unfold forL at el
      cases el
      exact k σc Fc Hc (ex1.trans e1) Rc
theorem ps_whlV {c : Expr} {body : List Stmt} {n : Nat} {mc : Env' → Option (Bool × Env')} {mb : Env' → Option (Fl × Env')} (hp : PassesOwn (model X.prog X.w) X.A X.env X.xe) (hc : PT X c (VI.tB X.K ct mc)) (hb : PSs X body (tS X.K ct mb)) :
    PS X (.While c body [] pos) (tS X.K ct (whlL mc mb n)) := by
  refine (ps_while hp hc hb).vimp fun D σ H ⟨z, F, env, rel, fl, env', eq, k⟩ => ?_
  refine ⟨fun m σc Hc => ∃ Fc envc, Ex F Fc ∧ RelB X.K ct z Fc Hc σc envc ∧ whlL mc mb m envc = some (fl, env'), ⟨n, F, env, Ex.refl _, rel, eq⟩, ?_⟩
  rintro m σc Hc ⟨Fc, envc, e1, Rc, el⟩
  cases m with
  | zero => cases el
  | succ m =>
    unfold whlL at el
    cases q : mc envc with
    | none => rw [q] at el; cases el
    | some p =>
      obtain ⟨b, env1⟩ := p
      rw [q] at el
      refine ⟨z, Fc, envc, Rc, b, env1, q, fun F1 H1 ex1 R1 => ?_⟩
      cases b with
      | false =>
        simp only at el
        cases el
        simp only [Bool.false_eq_true, if_false]
        exact k σc F1 H1 (e1.trans ex1) R1
      | true =>
        simp only [if_true]
        simp only at el
        refine ⟨fun σ' H' => ∃ F' env4, Ex F F' ∧ RelB X.K ct z F' H' σ' env4 ∧ whlL mc mb m env4 = some (fl, env'), fun σ' H' ⟨F', env4, a1, a2, a3⟩ => ⟨m, Nat.lt_succ_self m, F', env4, a1, a2, a3⟩, ?_⟩
        cases q4 : mb env1 with
        | none => rw [q4] at el; cases el
        | some p4 =>
          obtain ⟨f4, env4⟩ := p4
          rw [q4] at el
          refine ⟨z, F1, env1, R1, f4, env4, q4, ?_⟩
          cases f4 with
          | next => exact fun σ' F' H' ex R' => ⟨F', env4, (e1.trans ex1).trans ex, R', el⟩
          | cnt => exact fun σ' F' H' ex R' => ⟨F', env4, (e1.trans ex1).trans ex, R', el⟩
          | brk =>
            simp only at el
            cases el
            exact fun σ' F' H' ex R' => k σ' F' H' ((e1.trans ex1).trans ex) R'
          | ret r =>
            simp only at el
            cases el
            exact fun v σ' F' H' ex R' rr => k v σ' F' H' ((e1.trans ex1).trans ex) R' rr
end
end VI
namespace VI
open PySem L2
section
variable {X : Cx} {K : PySem.W.Frag} {ct : Nat → Addr} {z : Fm} {F H : Hp} {σ : St} {env : Env'} {pos : Pos}
theorem wipeE_some {i : Nat} {s : Sl} {vs : List Nat} (h : (wipeE env vs)[i]? = some s) (hn : s ≠ .no) : env[i]? = some s := by
  by_cases q : i ∈ vs
  · exact (hn (wipeE_in q h)).elim
  · rw [wipeE_out q] at h; exact h
/-- names are forgotten -/
theorem RelB.wipeO (R0 : RelB K ct z F H σ env) (vs : List Nat) : RelB K ct z F H σ (wipeE env vs) := by
  refine ⟨⟨R0.r.sub, by rw [wipeE_length]; exact R0.r.len, fun i d h => R0.r.va i d (wipeE_some h (by simp)), fun i b d h => R0.r.ow i b d (wipeE_some h (by simp)), fun i j b b' d d' a h1 h2 => R0.r.dj i j b b' d d' a (wipeE_some h1 (by simp)) (wipeE_some h2 (by simp))⟩, ⟨R0.n.ex, R0.n.keep, R0.n.nofz, R0.n.th, fun a ⟨i, b, d, h, h'⟩ => R0.n.fo a ⟨i, b, d, wipeE_some h (by simp), h'⟩, fun i d h => R0.n.lent i d (wipeE_some h (by simp)), R0.n.tz, fun i d a h => R0.n.own i d a (wipeE_some h (by simp))⟩⟩
theorem RelB.fzO (R0 : RelB K ct z F H σ env) (i : Nat) : ∃ F', Ex F F' ∧ RelB K ct z F' H σ (fzE i env) := by
  unfold fzE
  cases q : env[i]? with
  | none => exact ⟨F, Ex.refl F, R0⟩
  | some s =>
    cases s with
    | ow b d =>
      obtain ⟨F', v, e, _, _, R1⟩ := R0.frzSlot q
      exact ⟨F', e, R1⟩
    | no => exact ⟨F, Ex.refl F, R0⟩
    | va d => exact ⟨F, Ex.refl F, R0⟩
theorem pss_wipeV {ss : List Stmt} {m : Env' → Option (Fl × Env')} {vs : List Nat} (h : PSs X ss (tS X.K ct m)) : PSs X ss (tS X.K ct (wipeM vs m)) :=
  h.vimp fun D σ H ⟨z, F, env, rel, fl, env', eq, k⟩ => ⟨z, F, wipeE env vs, rel.wipeO vs, fl, env', eq, k⟩
theorem pss_fzV {ss : List Stmt} {m : Env' → Option (Fl × Env')} {i : Nat} (h : PSs X ss (tS X.K ct m)) : PSs X ss (tS X.K ct (fzM i m)) :=
  h.vimp fun D σ H ⟨z, F, env, rel, fl, env', eq, k⟩ => by
    obtain ⟨F', e, R1⟩ := rel.fzO i
    exact ⟨z, F', fzE i env, R1, fl, env', eq, k.mono e⟩
theorem ps_forWV {vs : List Nat} {tg iter : Expr} {body : List Stmt} {t : Tg} {mi : Env' → Option (List D × Env')} {mb : Env' → Option (Fl × Env')} {b0 : Bool} (hb0 : b0 = true → isTu t = true) (hp : PassesOwn (model X.prog X.w) X.A X.env X.xe) (hc : X.calm = true) (hi : PI X tg iter (tI X.K ct b0 mi)) (hg : PG X tg (gD X.K ct t)) (hb : PSs X body (tS X.K ct mb)) (hs : isSetE iter = false) :
    PS X (.For tg iter body [] pos) (tS X.K ct (forWM vs t mi mb)) := by
  refine (ps_for hp hc hi hg hb (folded_of hs)).vimp fun D σ H ⟨z, F, env, rel, fl, env', eq, k⟩ => ?_
  unfold forWM at eq
  cases q : mi env with
  | none => rw [q] at eq; cases eq
  | some p =>
    obtain ⟨xs, env1⟩ := p
    rw [q] at eq
    simp only at eq
    refine ⟨z, F, env, rel, xs, env1, q, fun J F1 H1 ex1 R1 wk => ?_⟩
    refine for_it wk (fun i σc Hc => ∃ Fc envc, Ex F1 Fc ∧ RelB X.K ct z Fc Hc σc envc ∧ forWL vs t mb (xs.drop i) envc = some (fl, env')) ⟨F1, env1, Ex.refl _, R1, eq⟩ ?_ ?_ ?_
    · rintro i σc Hc hi ⟨Fc, envc, e1, Rc, _⟩
      exact fun a o h => Rc.r.sub a o (e1 a o h)
    · rintro i x σc Hc H' hi ⟨Fc, envc, e1, Rc, el⟩ y
      obtain ⟨d, F2, hd, e2, R2, rp, eh, kF⟩ := (Rc.wipeO vs).item e1 y
      have hxs : xs.drop i = d :: xs.drop (i + 1) := by
        rw [List.getElem?_eq_some_iff] at hd
        obtain ⟨hlt, hd⟩ := hd
        rw [← hd]; exact List.drop_eq_getElem_cons hlt
      rw [hxs] at el
      unfold forWL at el
      cases q3 : putTg t d (wipeE envc vs) with
      | none => rw [q3] at el; cases el
      | some env3 =>
        rw [q3] at el
        simp only at el
        refine ⟨z, F2, wipeE envc vs, d, env3, R2, rp.up hb0, q3, fun σ2 so R3 => ?_⟩
        cases q4 : mb env3 with
        | none => rw [q4] at el; cases el
        | some p4 =>
          obtain ⟨f4, env4⟩ := p4
          rw [q4] at el
          refine ⟨z, F2, env3, R3, f4, env4, q4, ?_⟩
          cases f4 with
          | next => exact fun σ' F' H' ex R' => ⟨F', env4, (e1.trans e2).trans ex, R', el⟩
          | cnt => exact fun σ' F' H' ex R' => ⟨F', env4, (e1.trans e2).trans ex, R', el⟩
          | brk =>
            simp only at el
            cases el
            exact fun σ' F' H' ex R' => k σ' F' H' (((ex1.trans e1).trans e2).trans ex) (R'.wipeO vs)
          | ret r =>
            simp only at el
            cases el
            exact fun v σ' F' H' ex R' rr => k v σ' F' H' (((ex1.trans e1).trans e2).trans ex) R' rr
    · rintro σc Hc ⟨Fc, envc, e1, Rc, el⟩
      rw [List.drop_length] at el
      unfold forWL at el
      cases el
      exact k σc Fc Hc (ex1.trans e1) (Rc.wipeO vs)
theorem ps_whlWV {vs : List Nat} {c : Expr} {body : List Stmt} {n : Nat} {mc : Env' → Option (Bool × Env')} {mb : Env' → Option (Fl × Env')} (hp : PassesOwn (model X.prog X.w) X.A X.env X.xe) (hc : PT X c (VI.tB X.K ct mc)) (hb : PSs X body (tS X.K ct mb)) :
    PS X (.While c body [] pos) (tS X.K ct (whlWL vs mc mb n)) := by
  refine (ps_while hp hc hb).vimp fun D σ H ⟨z, F, env, rel, fl, env', eq, k⟩ => ?_
  refine ⟨fun m σc Hc => ∃ Fc envc, Ex F Fc ∧ RelB X.K ct z Fc Hc σc envc ∧ whlWL vs mc mb m envc = some (fl, env'), ⟨n, F, env, Ex.refl _, rel, eq⟩, ?_⟩
  rintro m σc Hc ⟨Fc, envc, e1, Rc, el⟩
  cases m with
  | zero => cases el
  | succ m =>
    unfold whlWL at el
    cases q : mc (wipeE envc vs) with
    | none => rw [q] at el; cases el
    | some p =>
      obtain ⟨b, env1⟩ := p
      rw [q] at el
      refine ⟨z, Fc, wipeE envc vs, Rc.wipeO vs, b, env1, q, fun F1 H1 ex1 R1 => ?_⟩
      cases b with
      | false =>
        simp only at el
        cases el
        simp only [Bool.false_eq_true, if_false]
        exact k σc F1 H1 (e1.trans ex1) R1
      | true =>
        simp only [if_true]
        simp only at el
        refine ⟨fun σ' H' => ∃ F' env4, Ex F F' ∧ RelB X.K ct z F' H' σ' env4 ∧ whlWL vs mc mb m env4 = some (fl, env'), fun σ' H' ⟨F', env4, a1, a2, a3⟩ => ⟨m, Nat.lt_succ_self m, F', env4, a1, a2, a3⟩, ?_⟩
        cases q4 : mb env1 with
        | none => rw [q4] at el; cases el
        | some p4 =>
          obtain ⟨f4, env4⟩ := p4
          rw [q4] at el
          refine ⟨z, F1, env1, R1, f4, env4, q4, ?_⟩
          cases f4 with
          | next => exact fun σ' F' H' ex R' => ⟨F', env4, (e1.trans ex1).trans ex, R', el⟩
          | cnt => exact fun σ' F' H' ex R' => ⟨F', env4, (e1.trans ex1).trans ex, R', el⟩
          | brk =>
            simp only at el
            cases el
            exact fun σ' F' H' ex R' => k σ' F' H' ((e1.trans ex1).trans ex) (R'.wipeO vs)
          | ret r =>
            simp only at el
            cases el
            exact fun v σ' F' H' ex R' rr => k v σ' F' H' ((e1.trans ex1).trans ex) R' rr
end
end VI
namespace VI
open PySem L2
section
variable {X : Cx} {K : PySem.W.Frag} {ct : Nat → Addr} {z : Fm} {F H : Hp} {σ : St} {env : Env'}
theorem wipe_sub {σ : St} {vs vs1 : List Nat} (h : ∀ i ∈ vs1, i ∈ vs) : wipe (wipe σ vs1) vs = wipe σ vs :=
  wipe_eq (wipe_length σ vs1) fun j hj => wipe_out fun m => hj (h j m)
theorem wipeE_sub {env : Env'} {vs vs1 : List Nat} (h : ∀ i ∈ vs1, i ∈ vs) : wipeE (wipeE env vs1) vs = wipeE env vs := by
  refine List.ext_getElem? fun i => ?_
  by_cases hi : i ∈ vs
  · by_cases hlt : i < env.length
    · have g : ∀ e : Env', i < e.length → (wipeE e vs)[i]? = some .no := fun e he => by
        have h1 : i < (wipeE e vs).length := by rw [wipeE_length]; exact he
        have h2 : (wipeE e vs)[i]? = some (wipeE e vs)[i] := List.getElem?_eq_getElem h1
        rw [h2, wipeE_in hi h2]
      rw [g _ (by rw [wipeE_length]; exact hlt), g _ hlt]
    · rw [List.getElem?_eq_none (by rw [wipeE_length, wipeE_length]; omega), List.getElem?_eq_none (by rw [wipeE_length]; omega)]
  · rw [wipeE_out hi, wipeE_out hi, wipeE_out fun m => hi (h i m)]
/-! ### comprehensions of two fors -/
theorem t_lc2 {vs vs1 : List Nat} {t t1 : Tg} {mi mi1 : Env' → Option (List D × Env')} {mc mc1 : Env' → Option (Bool × Env')} {me : Env' → Option (R × Env')} {Q : VK} {b0 b1 : Bool} (hb : b0 = true → isTu t = true) (hb1 : b1 = true → isTu t1 = true) (ht : ∀ j ∈ tgIx t, j ∈ vs) (ht1 : ∀ j ∈ tgIx t1, j ∈ vs1) (hv : ∀ i ∈ vs1, i ∈ vs) (w : tV K ct (lcM2 vs vs1 t mi mc t1 mi1 mc1 me) σ H Q) :
    tLc2 (tI K ct b0 mi) (gD K ct t) (VI.tB K ct mc) (tI K ct b1 mi1) (gD K ct t1) (VI.tB K ct mc1) (tV K ct (frzM me)) vs vs1 σ H Q := by
  obtain ⟨z, F, env, rel, r, env', eq, k⟩ := w
  unfold lcM2 at eq
  cases q : mi env with
  | none => rw [q] at eq; cases eq
  | some p =>
    obtain ⟨xs, env1⟩ := p
    rw [q] at eq
    simp only at eq
    split at eq
    · rename_i hp
      cases q2 : lcL2 t vs mc mi1 t1 vs1 mc1 me xs [] env1 with
      | none => rw [q2] at eq; cases eq
      | some p2 =>
        obtain ⟨ds, env2⟩ := p2
        rw [q2] at eq
        cases eq
        refine ⟨z, F, env, rel, xs, env1, q, fun J F1 H1 ex1 R1 wk D hD => ?_⟩
        let Pv : Nat → Hp → Prop := fun i Hc => ∃ Fc envc acc av, Ex F1 Fc ∧ RelB K ct z Fc Hc (wipe σ vs) (wipeE envc vs) ∧ lcL2 t vs mc mi1 t1 vs1 mc1 me (xs.drop i) acc envc = some (ds, env2) ∧ Hc D = some (.lst av) ∧ RpA K ct Fc av acc ∧ Fc D = none ∧ ¬ foot (wipe σ vs) (wipeE envc vs) D ∧ z.H D = none
        refine ⟨fun i m Hc => m = xs.length - i ∧ i ≤ xs.length ∧ Pv i Hc, ⟨xs.length, by simp, Nat.zero_le _, ?_⟩, ?_⟩
        · have nF := noneF R1.r.sub hD
          have R2 := (R1.heap (H' := upd H1 D (.lst [])) (Ex.new hD)).wiped vs
          exact ⟨F1, env1, [], [], Ex.refl _, R2, q2, upd_same, .nil, nF, fun f => R1.noFoot hD (foot_wipe f), R1.noZ hD⟩
        · rintro i m Hc ⟨rfl, hi, Fc, envc, acc, av, e1, Rc, el, hav, rav, hFD, hfD, hzD⟩
          have eG : Ex F1 Hc := fun a o h => Rc.r.sub a o (e1 a o h)
          by_cases hlt : i < xs.length
          · refine .inr ⟨wk.goes i Hc hlt eG, fun H' => Pv (i + 1) H', fun H' p' => ⟨xs.length - (i + 1), by omega, rfl, hlt, p'⟩, fun x H' y0 => ?_⟩
            have y := wk.yields i Hc x H' hlt eG y0
            obtain ⟨d, F2, hd, e2, R2, rp, eh, kF⟩ := Rc.item e1 y
            have hxs : xs.drop i = d :: xs.drop (i + 1) := by
              rw [List.getElem?_eq_some_iff] at hd
              obtain ⟨hlt, hd⟩ := hd
              rw [← hd]; exact List.drop_eq_getElem_cons hlt
            rw [hxs] at el
            unfold lcL2 at el
            have hH'D : H' D = some (.lst av) := eh _ _ hav
            have hF2D : F2 D = none := (kF D (by rw [hav]; simp)).trans hFD
            have S2 := R2.start
            have keep : ∀ {F4 H4 : Hp} {σ4 : St} {env4 : Env'}, RelB K ct (here z.L z.W F2 H' (wipe σ vs) (wipeE envc vs)) F4 H4 σ4 env4 → H4 D = some (.lst av) ∧ F4 D = none ∧ ¬ foot σ4 env4 D := fun {F4 H4 σ4 env4} R4 => by
              refine ⟨R4.n.keep D _ hH'D hfD, (R4.n.nofz D (by show H' D ≠ none; rw [hH'D]; simp) hfD).trans hF2D, fun f => ?_⟩
              rcases R4.n.fo D f with w | w
              · exact hfD w
              · have w' : H' D = none := w
                rw [hH'D] at w'; cases w'
            cases q3 : putTg t d (wipeE envc vs) with
            | none => rw [q3] at el; cases el
            | some env3 =>
              rw [q3] at el
              simp only at el
              have hw2 : ∀ σ2, SameOff (tgIx t) (wipe σ vs) σ2 → wipe σ2 vs = wipe σ vs := fun σ2 so => by
                rw [wipe_eq (σ := wipe σ vs) so.1 fun j hj => so.2 j fun hm => hj (ht j hm)]
                exact wipe_wipe
              refine ⟨_, F2, wipeE envc vs, d, env3, S2, rp.up hb, q3, fun σ2 so R3 => ⟨hw2 σ2 so, ?_⟩⟩
              have hw := hw2 σ2 so
              cases q4 : mc env3 with
              | none => rw [q4] at el; cases el
              | some p4 =>
                obtain ⟨b, env4⟩ := p4
                refine ⟨_, F2, env3, R3, b, env4, q4, fun F4 H4 e4 R4 => ?_⟩
                rw [q4] at el
                cases b with
                | false =>
                  simp only at el
                  simp only [Bool.false_eq_true, if_false]
                  obtain ⟨k1, k2, k3⟩ := keep R4
                  have RZ := (R2.outer R4).wiped vs
                  rw [hw] at RZ
                  exact ⟨F4, env4, acc, av, (e1.trans e2).trans e4, RZ, el, k1, rav.mono (e2.trans e4), k2, fun f => k3 (foot_wipe (hw ▸ f)), hzD⟩
                | true =>
                  simp only at el
                  simp only [if_true]
                  cases q5 : mi1 env4 with
                  | none => rw [q5] at el; cases el
                  | some p5 =>
                    obtain ⟨ys, env5⟩ := p5
                    rw [q5] at el
                    simp only at el
                    cases q6 : lcL t1 vs1 mc1 me ys acc env5 with
                    | none => rw [q6] at el; cases el
                    | some p6 =>
                      obtain ⟨acc6, env6⟩ := p6
                      rw [q6] at el
                      simp only at el
                      refine ⟨_, F4, env4, R4, ys, env5, q5, fun J1 F5 H5 ex5 R5 wk1 => ?_⟩
                      obtain ⟨d1, d2, d3⟩ := keep R5
                      have RO := R2.outer R5
                      let Pw : Nat → Hp → Prop := fun j Hd => ∃ Fd envd accd avd, Ex F5 Fd ∧ RelB K ct z Fd Hd (wipe σ2 vs1) (wipeE envd vs1) ∧ lcL t1 vs1 mc1 me (ys.drop j) accd envd = some (acc6, env6) ∧ Hd D = some (.lst avd) ∧ RpA K ct Fd avd accd ∧ Fd D = none ∧ ¬ foot (wipe σ2 vs1) (wipeE envd vs1) D
                      refine ⟨fun j m Hd => m = ys.length - j ∧ j ≤ ys.length ∧ Pw j Hd, ⟨ys.length, by simp, Nat.zero_le _, ?_⟩, ?_⟩
                      · exact ⟨F5, env5, acc, av, Ex.refl _, RO.wiped vs1, q6, d1, rav.mono ((e2.trans e4).trans ex5), d2, fun f => d3 (foot_wipe f)⟩
                      · rintro j m Hd ⟨rfl, hj, Fd, envd, accd, avd, f1, Rd, ed, hd1, rd, hFd, hfd⟩
                        have eG1 : Ex F5 Hd := fun a o h => Rd.r.sub a o (f1 a o h)
                        by_cases hlt1 : j < ys.length
                        · refine .inr ⟨wk1.goes j Hd hlt1 eG1, fun H' => Pw (j + 1) H', fun H' p' => ⟨ys.length - (j + 1), by omega, rfl, hlt1, p'⟩, fun x1 H1' y1 => ?_⟩
                          have y := wk1.yields j Hd x1 H1' hlt1 eG1 y1
                          obtain ⟨dd, F7, hdd, e7, R7, rp7, eh7, kF7⟩ := Rd.item f1 y
                          have hys : ys.drop j = dd :: ys.drop (j + 1) := by
                            rw [List.getElem?_eq_some_iff] at hdd
                            obtain ⟨hlt, hd⟩ := hdd
                            rw [← hd]; exact List.drop_eq_getElem_cons hlt
                          rw [hys] at ed
                          unfold lcL at ed
                          have hHD : H1' D = some (.lst avd) := eh7 _ _ hd1
                          have hF7D : F7 D = none := (kF7 D (by rw [hd1]; simp)).trans hFd
                          have S7 := R7.start
                          have keep1 : ∀ {F8 H8 : Hp} {σ8 : St} {env8 : Env'}, RelB K ct (here z.L z.W F7 H1' (wipe σ2 vs1) (wipeE envd vs1)) F8 H8 σ8 env8 → H8 D = some (.lst avd) ∧ F8 D = none ∧ ¬ foot σ8 env8 D := fun {F8 H8 σ8 env8} R8 => by
                            refine ⟨R8.n.keep D _ hHD hfd, (R8.n.nofz D (by show H1' D ≠ none; rw [hHD]; simp) hfd).trans hF7D, fun f => ?_⟩
                            rcases R8.n.fo D f with w | w
                            · exact hfd w
                            · have w' : H1' D = none := w
                              rw [hHD] at w'; cases w'
                          cases q8 : putTg t1 dd (wipeE envd vs1) with
                          | none => rw [q8] at ed; cases ed
                          | some env8 =>
                            rw [q8] at ed
                            simp only at ed
                            have hw3 : ∀ σ3, SameOff (tgIx t1) (wipe σ2 vs1) σ3 → wipe σ3 vs1 = wipe σ2 vs1 := fun σ3 so => by
                              rw [wipe_eq (σ := wipe σ2 vs1) so.1 fun j hj => so.2 j fun hm => hj (ht1 j hm)]
                              exact wipe_wipe
                            refine ⟨_, F7, wipeE envd vs1, dd, env8, S7, rp7.up hb1, q8, fun σ3 so3 R9 => ⟨hw3 σ3 so3, ?_⟩⟩
                            have hw9 := hw3 σ3 so3
                            cases q9 : mc1 env8 with
                            | none => rw [q9] at ed; cases ed
                            | some p9 =>
                              obtain ⟨b9, env9⟩ := p9
                              refine ⟨_, F7, env8, R9, b9, env9, q9, fun Fa Ha ea Ra => ?_⟩
                              rw [q9] at ed
                              cases b9 with
                              | false =>
                                simp only at ed
                                simp only [Bool.false_eq_true, if_false]
                                obtain ⟨k1, k2, k3⟩ := keep1 Ra
                                have RZ := (R7.outer Ra).wiped vs1
                                rw [hw9] at RZ
                                exact ⟨Fa, env9, accd, avd, (f1.trans e7).trans ea, RZ, ed, k1, rd.mono (e7.trans ea), k2, fun f => k3 (foot_wipe (hw9 ▸ f))⟩
                              | true =>
                                simp only at ed
                                simp only [if_true]
                                cases qa : frzM me env9 with
                                | none => rw [qa] at ed; cases ed
                                | some pa =>
                                  obtain ⟨ra, enva⟩ := pa
                                  rw [qa] at ed
                                  cases ra with
                                  | dt da =>
                                    simp only at ed
                                    split at ed
                                    · rename_i hlen
                                      refine ⟨_, Fa, env9, Ra, _, _, qa, fun v Fb Hb eb Rb rpb => ?_⟩
                                      obtain ⟨k1, k2, k3⟩ := keep1 Rb
                                      refine ⟨avd, k1, by rw [rd.length]; exact hlen, ?_⟩
                                      have RZ := ((R7.outer Rb).side (H' := upd Hb D (.lst (avd ++ [v]))) (fun c hc => upd_ne hc) upd_same k2 k3 hzD).wiped vs1
                                      rw [hw9] at RZ
                                      exact ⟨Fb, enva, accd ++ [da], avd ++ [v], ((f1.trans e7).trans ea).trans eb, RZ, ed, upd_same, (rd.mono ((e7.trans ea).trans eb)).append (.cons rpb .nil), k2, fun f => k3 (foot_wipe (hw9 ▸ f))⟩
                                    · cases ed
                                  | nw da => cases ed
                                  | sl ia => cases ed
                        · have e' : j = ys.length := by omega
                          subst e'
                          refine .inl ⟨wk1.stops Hd eG1, ?_⟩
                          rw [List.drop_length] at ed
                          unfold lcL at ed
                          cases ed
                          have RZ := Rd.wiped vs
                          rw [wipe_sub hv, wipeE_sub hv, hw] at RZ
                          refine ⟨Fd, env6, acc6, avd, (((e1.trans e2).trans e4).trans ex5).trans f1, RZ, el, hd1, rd, hFd, fun f => hfd ?_, hzD⟩
                          have f' : foot (wipe (wipe σ2 vs1) vs) (wipeE (wipeE env6 vs1) vs) D := by rw [wipe_sub hv, wipeE_sub hv, hw]; exact f
                          exact foot_wipe f'
          · have e' : i = xs.length := by omega
            subst e'
            refine .inl ⟨wk.stops Hc eG, ?_⟩
            rw [List.drop_length] at el
            unfold lcL2 at el
            cases el
            obtain ⟨Rb, fb⟩ := Rc.back R1 e1 hp
            exact k _ Fc Hc (ex1.trans e1) Rb ⟨D, rfl, hFD, ⟨av, hav, rav⟩, fun f => hfD (fb D f), hzD⟩
    · cases eq
end
end VI
namespace VI
open PySem L2
section
variable {X : Cx} {K : PySem.W.Frag} {ct : Nat → Addr} {e : Expr} {m : Env' → Option (R × Env')} {pos : Pos}
theorem putSl_rel {z : Fm} {F H : Hp} {σ : St} {env env' : Env'} {i : Nat} {v : V} {r : R} (R0 : RelB K ct z F H σ env) (h : Res K ct z F H σ env v r) (e : putSl i r env = some env') : RelB K ct z F H (σ.set i (some v)) env' := by
  unfold putSl at e
  split at e
  · rename_i hf
    cases r with
    | dt d => cases e; exact R0.putVa hf h
    | nw d => cases e; exact R0.putOw hf h
    | sl j => cases e
  · cases e
theorem t_asg {i : Nat} {D : Ends} {σ : St} {H : Hp} (w : tS K ct (asgM i m) D σ H) : tAsg (tV K ct (keepM m)) (gName i) D σ H := by
  obtain ⟨z, F, env, rel, fl, env', eq, k⟩ := w
  unfold asgM at eq
  cases q : keepM m env with
  | none => rw [q] at eq; cases eq
  | some p =>
    obtain ⟨r, env1⟩ := p
    rw [q] at eq
    simp only at eq
    cases q2 : putSl i r env1 with
    | none => rw [q2] at eq; cases eq
    | some env2 =>
      rw [q2] at eq
      cases eq
      exact ⟨z, F, env, rel, r, env1, q, fun v F' H' ex R1 rp => k _ F' H' ex (putSl_rel R1 rp q2)⟩
theorem ps_asgV {i : Nat} {x : Str} {pos' : Pos} (hN : X.N.Nodup) (hi : X.N[i]? = some x) (hx : Loc X.env.scope x) (hf : X.fn x = true ∨ X.env.scope.names.lookup x = some .local) (h : PE X e (tV X.K ct m)) (hs : swapsWith e (some (.Name x pos')) pos.line X.env = pure false) :
    PS X (.Assign [.Name x pos'] e pos) (tS X.K ct (asgM i m)) := (ps_set hN hi hx h.vkeep hs hf).vimp fun D σ H w => t_asg w
theorem keep_lc {vs : List Nat} {t : Tg} {mi : Env' → Option (List D × Env')} {mc : Env' → Option (Bool × Env')} : keepM (lcM vs t mi mc m) = lcM vs t mi mc m := by
  funext env
  unfold keepM
  cases q : lcM vs t mi mc m env with
  | none => rfl
  | some p =>
    obtain ⟨r, env1⟩ := p
    unfold lcM at q
    split at q
    · split at q
      · split at q
        · cases q; rfl
        · cases q
      · cases q
    · cases q
theorem pts_noV : PTs X [] (VI.tB X.K ct trueM) := ⟨fun pins s σ H Q I ⟨z, F, env, rel, b, env', eq, k⟩ => by
  cases eq
  exact pts_nil.run pins s σ H Q I (k F H (Ex.refl F) rel)⟩
theorem pts_soV {c : Expr} {mc : Env' → Option (Bool × Env')} (h : PT X c (VI.tB X.K ct mc)) : PTs X [c] (VI.tB X.K ct mc) := pts_one h
section
variable {elt tg iter : Expr} {ifs : List Expr} {scope : Scope} {own : List (Str × Nat)} {t : Tg} {mi : Env' → Option (List D × Env')} {mc : Env' → Option (Bool × Env')} {b0 : Bool}
theorem pe_lcV (hb0 : b0 = true → isTu t = true) (hc : X.calm = true) (hN : X.N.Nodup) (hi : PI X tg iter (tI X.K ct b0 mi)) (ok : BlkOk X.N X.env.scope scope own)
    (hg : ∀ (s : Shared) (H : Hp) (C : Addr) (cl : List (Str × Addr)) (fp : List Addr), PG (X.blk s H scope (compEnvC scope cl C X.env) fp) tg (gD X.K ct t)) (ht : ∀ (s : Shared) (H : Hp) (C : Addr) (cl : List (Str × Addr)) (fp : List Addr), PTs (X.blk s H scope (compEnvC scope cl C X.env) fp) ifs (VI.tB X.K ct mc))
    (he : ∀ (s : Shared) (H : Hp) (C : Addr) (cl : List (Str × Addr)) (fp : List Addr), PE (X.blk s H scope (compEnvC scope cl C X.env) fp) elt (tV X.K ct m)) (hs : isSetE iter = false) (hv : ∀ j ∈ tgIx t, j ∈ own.map (·.2)) :
    PE X (.ListComp elt [⟨tg, iter, ifs, 0⟩] scope pos) (tV X.K ct (lcM (own.map (·.2)) t mi mc m)) :=
  (pe_lc hc hN hi ok hg ht (fun s H C cl fp => (he s H C cl fp).vfrz) (folded_of hs)).vimp fun σ H Q w => t_lc hb0 hv w
theorem ps_lcV {i : Nat} {y : Str} {py spos : Pos} (hb0 : b0 = true → isTu t = true) (hc : X.calm = true) (hN : X.N.Nodup) (hy : X.N[i]? = some y) (hyl : X.env.scope.names.lookup y = some .local) (hk : X.env.scope.kind = .function) (hl : (py.line == pos.line) = true)
    (ha : (scope.names.any fun (n, k) => n == y && (k == .local || k == .cell)) = false) (hi : PI X tg iter (tI X.K ct b0 mi)) (ok : BlkOk X.N X.env.scope scope own)
    (hg : ∀ (s : Shared) (H : Hp) (C : Addr) (cl : List (Str × Addr)) (fp : List Addr), PG (X.blk s H scope (compEnvC scope cl C X.env) fp) tg (gD X.K ct t)) (ht : ∀ (s : Shared) (H : Hp) (C : Addr) (cl : List (Str × Addr)) (fp : List Addr), PTs (X.blk s H scope (compEnvC scope cl C X.env) fp) ifs (VI.tB X.K ct mc))
    (he : ∀ (s : Shared) (H : Hp) (C : Addr) (cl : List (Str × Addr)) (fp : List Addr), PE (X.blk s H scope (compEnvC scope cl C X.env) fp) elt (tV X.K ct m)) (hs : isSetE iter = false) (hv : ∀ j ∈ tgIx t, j ∈ own.map (·.2)) :
    PS X (.Assign [.Name y py] (.ListComp elt [⟨tg, iter, ifs, 0⟩] scope pos) spos) (tS X.K ct (asgM i (lcM (own.map (·.2)) t mi mc m))) :=
  (ps_setLc hc hN hy hyl (sw_true hk hyl hl ha) hi ok hg ht (fun s H C cl fp => (he s H C cl fp).vfrz) (folded_of hs)).vimp fun D σ H w => t_lc hb0 hv (keep_lc ▸ t_asg w)
end
theorem keep_lc2 {vs vs1 : List Nat} {t t1 : Tg} {mi mi1 : Env' → Option (List D × Env')} {mc mc1 : Env' → Option (Bool × Env')} : keepM (lcM2 vs vs1 t mi mc t1 mi1 mc1 m) = lcM2 vs vs1 t mi mc t1 mi1 mc1 m := by
  funext env
  unfold keepM
  cases q : lcM2 vs vs1 t mi mc t1 mi1 mc1 m env with
  | none => rfl
  | some p =>
    obtain ⟨r, env1⟩ := p
    unfold lcM2 at q
    split at q
    · split at q
      · split at q
        · cases q; rfl
        · cases q
      · cases q
    · cases q
section
variable {elt tg iter tg1 iter1 : Expr} {ifs ifs1 : List Expr} {scope : Scope} {own : List (Str × Nat)} {vs1 : List Nat} {t t1 : Tg} {mi mi1 : Env' → Option (List D × Env')} {mc mc1 : Env' → Option (Bool × Env')} {b0 b1 : Bool}
theorem folded_any {e : Expr} (h : isSetE e = false) : ∀ env x, foldedSetIterable e env x = pure x := fun env x => by
  cases e <;> first | rfl | cases h
theorem pe_lc2V (hb0 : b0 = true → isTu t = true) (hb1 : b1 = true → isTu t1 = true) (hc : X.calm = true) (hN : X.N.Nodup) (hi : PI X tg iter (tI X.K ct b0 mi)) (ok : BlkOk X.N X.env.scope scope own) (hv1 : ∀ i ∈ vs1, i ∈ own.map (·.2))
    (hg : ∀ (s : Shared) (H : Hp) (C : Addr) (cl : List (Str × Addr)) (fp : List Addr), PG (X.blk s H scope (compEnvC scope cl C X.env) fp) tg (gD X.K ct t)) (ht : ∀ (s : Shared) (H : Hp) (C : Addr) (cl : List (Str × Addr)) (fp : List Addr), PTs (X.blk s H scope (compEnvC scope cl C X.env) fp) ifs (VI.tB X.K ct mc))
    (hi1 : ∀ (s : Shared) (H : Hp) (C : Addr) (cl : List (Str × Addr)) (fp : List Addr), PI (X.blk s H scope (compEnvC scope cl C X.env) fp) tg1 iter1 (tI X.K ct b1 mi1))
    (hg1 : ∀ (s : Shared) (H : Hp) (C : Addr) (cl : List (Str × Addr)) (fp : List Addr), PG (X.blk s H scope (compEnvC scope cl C X.env) fp) tg1 (gD X.K ct t1)) (ht1 : ∀ (s : Shared) (H : Hp) (C : Addr) (cl : List (Str × Addr)) (fp : List Addr), PTs (X.blk s H scope (compEnvC scope cl C X.env) fp) ifs1 (VI.tB X.K ct mc1))
    (he : ∀ (s : Shared) (H : Hp) (C : Addr) (cl : List (Str × Addr)) (fp : List Addr), PE (X.blk s H scope (compEnvC scope cl C X.env) fp) elt (tV X.K ct m)) (hs : isSetE iter = false) (hs1 : isSetE iter1 = false) (hv : ∀ j ∈ tgIx t, j ∈ own.map (·.2)) (hvv : ∀ j ∈ tgIx t1, j ∈ vs1) :
    PE X (.ListComp elt [⟨tg, iter, ifs, 0⟩, ⟨tg1, iter1, ifs1, 0⟩] scope pos) (tV X.K ct (lcM2 (own.map (·.2)) vs1 t mi mc t1 mi1 mc1 m)) :=
  (pe_lc2 hc hN hi ok hv1 hg ht hi1 hg1 ht1 (fun s H C cl fp => (he s H C cl fp).vfrz) (folded_of hs) (folded_any hs1)).vimp fun σ H Q w => t_lc2 hb0 hb1 hv hvv hv1 w
theorem ps_lc2V {i : Nat} {y : Str} {py spos : Pos} (hb0 : b0 = true → isTu t = true) (hb1 : b1 = true → isTu t1 = true) (hc : X.calm = true) (hN : X.N.Nodup) (hy : X.N[i]? = some y) (hyl : X.env.scope.names.lookup y = some .local) (hk : X.env.scope.kind = .function) (hl : (py.line == pos.line) = true)
    (ha : (scope.names.any fun (n, k) => n == y && (k == .local || k == .cell)) = false) (hi : PI X tg iter (tI X.K ct b0 mi)) (ok : BlkOk X.N X.env.scope scope own) (hv1 : ∀ i ∈ vs1, i ∈ own.map (·.2))
    (hg : ∀ (s : Shared) (H : Hp) (C : Addr) (cl : List (Str × Addr)) (fp : List Addr), PG (X.blk s H scope (compEnvC scope cl C X.env) fp) tg (gD X.K ct t)) (ht : ∀ (s : Shared) (H : Hp) (C : Addr) (cl : List (Str × Addr)) (fp : List Addr), PTs (X.blk s H scope (compEnvC scope cl C X.env) fp) ifs (VI.tB X.K ct mc))
    (hi1 : ∀ (s : Shared) (H : Hp) (C : Addr) (cl : List (Str × Addr)) (fp : List Addr), PI (X.blk s H scope (compEnvC scope cl C X.env) fp) tg1 iter1 (tI X.K ct b1 mi1))
    (hg1 : ∀ (s : Shared) (H : Hp) (C : Addr) (cl : List (Str × Addr)) (fp : List Addr), PG (X.blk s H scope (compEnvC scope cl C X.env) fp) tg1 (gD X.K ct t1)) (ht1 : ∀ (s : Shared) (H : Hp) (C : Addr) (cl : List (Str × Addr)) (fp : List Addr), PTs (X.blk s H scope (compEnvC scope cl C X.env) fp) ifs1 (VI.tB X.K ct mc1))
    (he : ∀ (s : Shared) (H : Hp) (C : Addr) (cl : List (Str × Addr)) (fp : List Addr), PE (X.blk s H scope (compEnvC scope cl C X.env) fp) elt (tV X.K ct m)) (hs : isSetE iter = false) (hs1 : isSetE iter1 = false) (hv : ∀ j ∈ tgIx t, j ∈ own.map (·.2)) (hvv : ∀ j ∈ tgIx t1, j ∈ vs1) :
    PS X (.Assign [.Name y py] (.ListComp elt [⟨tg, iter, ifs, 0⟩, ⟨tg1, iter1, ifs1, 0⟩] scope pos) spos) (tS X.K ct (asgM i (lcM2 (own.map (·.2)) vs1 t mi mc t1 mi1 mc1 m))) :=
  (ps_setLc2 hc hN hy hyl (sw_true hk hyl hl ha) hi ok hv1 hg ht hi1 hg1 ht1 (fun s H C cl fp => (he s H C cl fp).vfrz) (folded_of hs) (folded_any hs1)).vimp fun D σ H w => t_lc2 hb0 hb1 hv hvv hv1 (keep_lc2 ▸ t_asg w)
end
/-- the other assignments of a comprehension to a name -/
theorem swaps_lc {elt : Expr} {gs : List Comprehension} {scope : Scope} {y : Str} {py : Pos} {l : Nat} {env : Env} (hk : env.scope.kind = .function) (h : ((env.scope.names.lookup y == some .local) && py.line == pos.line && !(scope.names.any fun (n, k) => n == y && (k == .local || k == .cell))) = false) :
    swapsWith (.ListComp elt gs scope pos) (some (.Name y py)) l env = pure false := by
  have hb : env.blockKind = .function := by unfold Env.blockKind; rw [hk]; rfl
  unfold swapsWith
  simp only [hb, Expr.pos]
  show (pure _ : Sem Bool) = _
  congr 1
/-! ### several names at once -/
def isTupE : Expr → Bool
  | .Tuple .. => true
  | _ => false
theorem swapped_no {ts : List Expr} {k : Nat} {p : Pos} {env : Env} (h : isTupE e = false) : swappedStores [.Tuple ts k p] e env = pure none := by
  cases e <;> first | rfl | cases h
theorem swapped_sub {o i : Expr} {p : Pos} {env : Env} : swappedStores [.Subscript o i p] e env = pure none := by
  cases e <;> rfl
theorem swapped_nm {x : Str} {p : Pos} {env : Env} : swappedStores [.Name x p] e env = pure none := by
  cases e <;> rfl
/-- which names are stored from the right -/
def nmOf (sc : Scope) (line : Nat) : Expr → Option Str
  | .Name id pos => if sc.names.lookup id == some .local && pos.line == line then some id else none
  | _ => none
def swapO (sc : Scope) (ts vs : List Expr) : Option (Option (List Str)) :=
  if !(ts.length == 2 || ts.length == 3) || vs.length != ts.length then some none
  else if vs.any isStar then some none
  else
    let names := ts.filterMap (nmOf sc ((ts.head?.map (·.pos.line)).getD 0))
    if names.length != ts.length || names.eraseDups.length != names.length then some none
    else if vs.all (foldedForSure 8) then some none
    else if vs.all (constantsAlone 8) then none
    else some (some names)
theorem filt_of {g : Expr → Option Str} {sc : Scope} {line : Nat} {ts : List Expr} (h : ∀ t, g t = nmOf sc line t) : ts.filterMap g = ts.filterMap (nmOf sc line) := by
  rw [show g = nmOf sc line from funext h]
theorem any_of {g : Expr → Bool} {vs : List Expr} (h : ∀ t, g t = isStar t) : vs.any g = vs.any isStar := by
  rw [show g = isStar from funext h]
theorem swapped_eq {ts vs : List Expr} {k k2 : Nat} {p p2 : Pos} {env : Env} {r : Option (List Str)} (hk : env.scope.kind = .function) (h : swapO env.scope ts vs = some r) : swappedStores [.Tuple ts k p] (.Tuple vs k2 p2) env = pure r := by
  have hb : env.blockKind = .function := by unfold Env.blockKind; rw [hk]; rfl
  have hbb : (env.blockKind != .function) = false := by rw [hb]; rfl
  unfold swappedStores
  simp only [hbb, Bool.or_false]
  rw [any_of (g := _) (vs := vs) (fun t => by cases t <;> rfl)]
  rw [filt_of (g := _) (sc := env.scope) (line := (Option.map (fun x => x.pos.line) ts.head?).getD 0) (ts := ts) (fun t => by cases t <;> rfl)]
  unfold swapO at h
  simp only at h
  split at h
  · rename_i h1
    cases h
    rw [if_pos h1]
  · rename_i h1
    rw [if_neg h1]
    split at h
    · rename_i h2
      cases h
      rw [if_pos h2]
    · rename_i h2
      rw [if_neg h2]
      split at h
      · rename_i h3
        cases h
        rw [if_pos h3]
      · rename_i h3
        rw [if_neg h3]
        split at h
        · rename_i h4
          cases h
          rw [if_pos h4]
        · rename_i h4
          rw [if_neg h4]
          split at h
          · cases h
          · rename_i h5
            cases h
            rw [if_neg h5]
end
end VI
namespace VI
open PySem L2
/-! ### stores from the right -/
def setAll : St → List Nat → List V → St
  | σ, i :: is, v :: vs => setAll (σ.set i (some v)) is vs
  | σ, _, _ => σ
theorem setAll_comm {i : Nat} {x : Option V} : ∀ {is : List Nat} {vs : List V} {σ : St}, i ∉ is → setAll (σ.set i x) is vs = (setAll σ is vs).set i x
  | [], _, _, _ => by unfold setAll; rfl
  | _ :: _, [], _, _ => by unfold setAll; rfl
  | j :: is, v :: vs, σ, h => by
    have hne : i ≠ j := fun e => h (by simp [e])
    show setAll ((σ.set i x).set j (some v)) is vs = (setAll (σ.set j (some v)) is vs).set i x
    rw [List.set_comm _ _ hne]
    exact setAll_comm fun m => h (List.mem_cons_of_mem _ m)
theorem setAll_last {i : Nat} {v : V} : ∀ {is : List Nat} {vs : List V} {σ : St}, is.length = vs.length → setAll σ (is ++ [i]) (vs ++ [v]) = (setAll σ is vs).set i (some v)
  | [], [], _, _ => rfl
  | _ :: _, [], _, h => nomatch h
  | [], _ :: _, _, h => nomatch h
  | j :: is, w :: vs, σ, h => by
    show setAll (σ.set j (some w)) (is ++ [i]) (vs ++ [v]) = (setAll (σ.set j (some w)) is vs).set i (some v)
    exact setAll_last (Nat.succ.inj h)
theorem setAll_rev : ∀ {is : List Nat} {vs : List V} {σ : St}, is.length = vs.length → is.Nodup → setAll σ is.reverse vs.reverse = setAll σ is vs
  | [], [], _, _, _ => rfl
  | _ :: _, [], _, h, _ => nomatch h
  | [], _ :: _, _, h, _ => nomatch h
  | i :: is, v :: vs, σ, h, nd => by
    obtain ⟨n1, n2⟩ := List.nodup_cons.mp nd
    have hl : is.length = vs.length := Nat.succ.inj h
    rw [List.reverse_cons, List.reverse_cons, setAll_last (by simp [hl]), setAll_rev hl n2]
    show (setAll σ is vs).set i (some v) = setAll (σ.set i (some v)) is vs
    rw [setAll_comm n1]
theorem vals_rev : ∀ {vs : List V} {us : List Value}, Vals vs us → Vals vs.reverse us.reverse
  | _, _, .nil => .nil
  | _, _, .cons r t => by
    rw [List.reverse_cons, List.reverse_cons]
    exact Vals.append (vals_rev t) (.cons r .nil)
section
variable {X : Cx} {K : PySem.W.Frag} {ct : Nat → Addr} {e : Expr} {m : Env' → Option (R × Env')} {pos : Pos}
theorem stores_ok {pins : List (Addr × Obj)} {H : Hp} {Q : Unit → Shared → Prop} (hN : X.N.Nodup) (is : List Nat) : ∀ {xs : List Str} {vs : List V} {us : List Value} {σ : St} {s : Shared}, is.length = xs.length → is.length = vs.length →
    (∀ (j i : Nat) (x : Str), is[j]? = some i → xs[j]? = some x → X.N[i]? = some x ∧ X.env.scope.names.lookup x = some .local) → Vals vs us → Inv X pins σ H s → (∀ s', Inv X pins (setAll σ is vs) H s' → Q () s') →
    wpAny (model X.prog X.w) X.A (assignInOrder (xs.map fun n v => bindName X.env n v) us) Q X.xe s := by
  induction is with
  | nil =>
    intro xs vs us σ s h1 h2 h3 r I h
    cases xs with
    | nil =>
      cases r with
      | nil => exact PyProof.Rows.assignInOrder_nil (h s I)
      | cons _ _ => cases h2
    | cons _ _ => cases h1
  | cons i is ih =>
    intro xs vs us σ s h1 h2 h3 r I h
    cases xs with
    | nil => cases h1
    | cons x xs =>
      cases r with
      | nil => cases h2
      | cons r t =>
        obtain ⟨a1, a2⟩ := h3 0 i x rfl rfl
        refine PyProof.Rows.assignInOrder_cons (wpAny_bindName (store_ok I hN a1 (.inl a2) r (fun s2 I2 => ?_) (.inr a2)))
        exact ih (Nat.succ.inj h1) (Nat.succ.inj h2) (fun j i' x' e1 e2 => h3 (j + 1) i' x' e1 e2) t I2 h
def tParN (is : List Nat) (ta : TA) : TS := fun D σ H => ta σ H fun vs H1 => vs.length = is.length ∧ D.nx (setAll σ is vs) H1
theorem ps_parN {is : List Nat} {xs : List Str} {ts es : List Expr} {ta : TA} {kt k2 : Nat} {pt pt2 : Pos} (hc : X.calm = true) (hN : X.N.Nodup) (hnd : is.Nodup) (hl : is.length = xs.length) (hz : is.length ≤ sizeLine) (h0 : is ≠ [])
    (hx : ∀ (j i : Nat) (x : Str), is[j]? = some i → xs[j]? = some x → X.N[i]? = some x ∧ X.env.scope.names.lookup x = some .local) (ha : PA X es ta)
    (hw : swappedStores [.Tuple ts kt pt] (.Tuple es k2 pt2) X.env = pure (some xs)) :
    PS X (.Assign [.Tuple ts kt pt] (.Tuple es k2 pt2) pos) (tParN is ta) := by
  refine ⟨fun pins s σ H D I h => ?_⟩
  rw [exec_Assign_arm]
  refine wpAny_bind (wpAny_standAt ?_)
  rw [show swapsWithSole [.Tuple ts kt pt] (.Tuple es k2 pt2) pos.line X.env = pure false from rfl]
  refine wpAny_bind (wpAny_pure ?_)
  rw [if_neg (by decide)]
  refine wpAny_bind (PyProof.Rows.Tuple_ (thn (ha.run _ pins s σ H _ I h) fun us s1 ⟨vs, H1, I1, r1, q0, q1⟩ => ?_))
  have hus : us.length = is.length := by rw [← r1.length, q0]
  cases us with
  | nil => exact (h0 (List.length_eq_zero_iff.mp hus.symm)).elim
  | cons u us =>
    refine wpAny_newObj_type ?_ (by show (u :: us).length ≤ sizeLine; rw [hus]; exact hz)
    have I2 : Inv X pins σ H1 { s1 with heap := s1.heap.push { cls := .type "tuple", data := .seq (u :: us).toArray } } := I1.kept (t' := s1.toks) fun b o e => Heap.get?_push_of_some _ e
    rw [hw]
    refine wpAny_bind (wpAny_pure ?_)
    show wpAny (model X.prog X.w) X.A (do rule "assign.swapped-stores"; let items ← unpackItems (.ref s1.heap.objs.size) xs.length none; assignInOrder (xs.reverse.map fun n => bindName X.env n) items.reverse; pure Flow.next) _ _ _
    rw [show xs.length = (u :: us).toArray.size by rw [List.size_toArray, hus, hl]]
    refine wpAny_bind (wpAny_rule (wpAny_bind (PyProof.Rows.unpackItems_tuple (items := (u :: us).toArray) (I.ok.hd hc) (PyProof.Rows.IsTup.new s1.heap _) fun h' hx' => ?_)))
    have I3 := I2.kept (h' := h') (t' := s1.toks) fun b o e => hx' b o (Nat.ne_of_lt (Heap.lt_size e)) e
    refine wpAny_bind (stores_ok hN is.reverse (vs := vs.reverse) (by simp [hl]) (by simp [q0]) (fun j i x e1 e2 => ?_) (vals_rev r1) I3 fun s3 I4 => wpAny_pure ?_)
    · have hj : j < is.length := by
        have := (List.getElem?_eq_some_iff.mp e1).1
        simpa using this
      rw [List.getElem?_reverse hj] at e1
      rw [List.getElem?_reverse (by rw [← hl]; exact hj), ← hl] at e2
      exact hx _ i x e1 e2
    · rw [setAll_rev q0.symm hnd] at I4
      exact ⟨_, H1, I4, q1⟩
theorem ResA.put {z : Fm} {F H : Hp} {σ : St} {env env' : Env'} {i : Nat} {v0 : V} {r0 : R} (h0 : Res K ct z F H σ env v0 r0) (e : putSl i r0 env = some env') : ∀ {vs : List V} {rs : List R}, ResA K ct z F H σ env vs rs → (∀ a, v0 = .ref a → (∃ d, r0 = .nw d) → a ∉ tmps vs rs) → (∀ r ∈ rs, ∀ j, r ≠ .sl j) →
    ResA K ct z F H (σ.set i (some v0)) env' vs rs
  | _, _, .nil, _, _ => .nil
  | _, _, .cons (v := v) (vs := vs) (r := r) (rs := rs) h t, hn, hs => by
    refine .cons ?_ (ResA.put h0 e t (fun a e1 e2 hm => hn a e1 e2 ?_) (fun r' hr => hs r' (List.mem_cons_of_mem _ hr)))
    · cases r with
      | dt d => exact h
      | sl j => exact (hs _ (List.mem_cons_self) j rfl).elim
      | nw d =>
        obtain ⟨a, rfl, g2, g3, g4, g5⟩ := h
        refine ⟨a, rfl, g2, g3, fun f => ?_, g5⟩
        obtain ⟨j, b, d', q, q'⟩ := f
        unfold putSl at e
        split at e
        · rename_i hf
          cases r0 with
          | dt d0 =>
            cases e
            rcases set_at q with ⟨rfl, w⟩ | ⟨hne, q⟩
            · cases w
            · rw [set_ne hne] at q'
              exact g4 ⟨j, b, d', q, q'⟩
          | nw d0 =>
            cases e
            rcases set_at q with ⟨rfl, w⟩ | ⟨hne, q⟩
            · obtain ⟨a0, rfl, _⟩ := h0
              rcases set_at q' with ⟨_, w'⟩ | ⟨w', _⟩
              · cases w'
                exact hn a rfl ⟨d0, rfl⟩ (by show a ∈ a :: tmps vs rs; exact List.mem_cons_self)
              · exact w' rfl
            · rw [set_ne hne] at q'
              exact g4 ⟨j, b, d', q, q'⟩
          | sl _ => cases e
        · cases e
    · cases v <;> cases r <;> first | exact hm | exact List.mem_cons_of_mem _ hm
theorem par_rel {z : Fm} {F H : Hp} : ∀ {is : List Nat} {vs : List V} {rs : List R} {σ : St} {env env' : Env'}, RelB K ct z F H σ env → ResA K ct z F H σ env vs rs → (tmps vs rs).Nodup → (∀ r ∈ rs, ∀ j, r ≠ .sl j) → parPut is rs env = some env' →
    RelB K ct z F H (setAll σ is vs) env' ∧ vs.length = is.length
  | [], _, _, σ, env, env', R0, .nil, _, _, e => by cases e; exact ⟨R0, rfl⟩
  | [], _, _, σ, env, env', R0, .cons _ _, _, _, e => by cases e
  | _ :: _, _, _, σ, env, env', R0, .nil, _, _, e => by cases e
  | i :: is, _, _, σ, env, env', R0, .cons (v := v) (vs := vs) (r := r) (rs := rs) h t, nd, hs, e => by
    unfold parPut at e
    cases q : putSl i r env with
    | none => rw [q] at e; cases e
    | some env1 =>
      rw [q] at e
      have R1 := putSl_rel R0 h q
      have nd' : (tmps vs rs).Nodup := by
        cases v <;> cases r <;> first | exact nd | exact (List.nodup_cons.mp nd).2
      have t' := t.put h q (fun a e1 ⟨d, e2⟩ hm => by
        subst e1 e2
        exact (List.nodup_cons.mp nd).1 hm) (fun r' hr => hs r' (List.mem_cons_of_mem _ hr))
      obtain ⟨h1, h2⟩ := par_rel (is := is) R1 t' nd' (fun r' hr => hs r' (List.mem_cons_of_mem _ hr)) e
      exact ⟨h1, congrArg (· + 1) h2⟩
theorem parPut_nosl : ∀ {is : List Nat} {rs : List R} {env env' : Env'}, parPut is rs env = some env' → ∀ r ∈ rs, ∀ j, r ≠ .sl j
  | [], [], _, _, _, r, hr, _ => nomatch hr
  | [], _ :: _, _, _, e, _, _, _ => nomatch e
  | _ :: _, [], _, _, e, _, _, _ => nomatch e
  | i :: is, r0 :: rs, env, env', e, r, hr, j => by
    unfold parPut at e
    cases q : putSl i r0 env with
    | none => rw [q] at e; cases e
    | some env1 =>
      rw [q] at e
      rcases List.mem_cons.mp hr with w | w
      · subst w
        intro hj
        subst hj
        unfold putSl at q
        split at q <;> cases q
      · exact parPut_nosl e r w j
theorem ps_parV {is : List Nat} {xs : List Str} {ts es : List Expr} {ms : Env' → Option (List R × Env')} {kt k2 : Nat} {pt pt2 : Pos} (hc : X.calm = true) (hN : X.N.Nodup) (hnd : is.Nodup) (hl : is.length = xs.length) (hz : is.length ≤ sizeLine) (h0 : is ≠ [])
    (hx : ∀ (j i : Nat) (x : Str), is[j]? = some i → xs[j]? = some x → X.N[i]? = some x ∧ X.env.scope.names.lookup x = some .local) (ha : PA X es (tRB X.K ct ms))
    (hw : swappedStores [.Tuple ts kt pt] (.Tuple es k2 pt2) X.env = pure (some xs)) :
    PS X (.Assign [.Tuple ts kt pt] (.Tuple es k2 pt2) pos) (tS X.K ct (parM is ms)) := by
  refine (ps_parN hc hN hnd hl hz h0 hx ha hw).vimp fun D σ H ⟨z, F, env, rel, fl, env', eq, k⟩ => ?_
  unfold parM at eq
  cases q : ms env with
  | none => rw [q] at eq; cases eq
  | some p =>
    obtain ⟨rs, env1⟩ := p
    rw [q] at eq
    simp only at eq
    cases q2 : parPut is rs env1 with
    | none => rw [q2] at eq; cases eq
    | some env2 =>
      rw [q2] at eq
      cases eq
      refine ⟨z, F, env, rel, rs, env1, q, fun vs F' H' ex R1 rb hn => ?_⟩
      obtain ⟨h1, h2⟩ := par_rel R1 rb.all rb.nd (parPut_nosl q2) q2
      exact ⟨h2, k _ F' H' ex h1⟩
def gSet (is : List Nat) : TGs := fun vs σ H Q => vs.length = is.length ∧ Q (setAll σ is vs) H
theorem pgs_set0 : PGs X [] (gSet []) := pgs_nil.vimp fun vs σ H Q ⟨h1, h2⟩ => by
  have e : vs = [] := List.length_eq_zero_iff.mp h1
  subst e
  exact ⟨rfl, h2⟩
theorem pgs_set1 {e : Expr} {es : List Expr} {i : Nat} {is : List Nat} (h1 : PG X e (gName i)) (h2 : PGs X es (gSet is)) (hs : (assignEach (e :: es) X.env).map (·.2) = assign e X.env :: (assignEach es X.env).map (·.2)) : PGs X (e :: es) (gSet (i :: is)) := by
  refine (pgs_cons h1 h2 hs).vimp fun vs σ H Q ⟨h1, h2⟩ => ?_
  cases vs with
  | nil => cases h1
  | cons v vs => exact ⟨v, vs, rfl, Nat.succ.inj h1, h2⟩
theorem ps_parT {is : List Nat} {ts es : List Expr} {ms : Env' → Option (List R × Env')} {kt k2 : Nat} {pt pt2 : Pos} (hc : X.calm = true) (hz : is.length ≤ sizeLine) (hg : PGs X ts (gSet is)) (hn : (assignEach ts X.env).length = is.length) (hst : (assignEach ts X.env).findIdx? (·.1) = none) (ha : PA X es (tRB X.K ct ms))
    (hw : swappedStores [.Tuple ts kt pt] (.Tuple es k2 pt2) X.env = pure none) :
    PS X (.Assign [.Tuple ts kt pt] (.Tuple es k2 pt2) pos) (tS X.K ct (parM is ms)) := by
  refine (ps_asg (pe_tup ha) (pg_tup hc hg hn hst) rfl hw rfl).vimp fun D σ H ⟨z, F, env, rel, fl, env', eq, k⟩ => ?_
  unfold parM at eq
  cases q : ms env with
  | none => rw [q] at eq; cases eq
  | some p =>
    obtain ⟨rs, env1⟩ := p
    rw [q] at eq
    simp only at eq
    cases q2 : parPut is rs env1 with
    | none => rw [q2] at eq; cases eq
    | some env2 =>
      rw [q2] at eq
      cases eq
      refine ⟨z, F, env, rel, rs, env1, q, fun vs F' H' ex R1 rb hn => ?_⟩
      obtain ⟨h1, h2⟩ := par_rel R1 rb.all rb.nd (parPut_nosl q2) q2
      refine ⟨by rw [h2]; exact hz, fun p np => ⟨p, vs, rfl, .inl (.inl upd_same), h2, h2, k _ F' _ ex (h1.heap (Ex.new np))⟩⟩
theorem swapsL_of {t : Expr} {l : Nat} {env : Env} (h : isComp e = false) : swapsWithSole [t] e l env = pure false := swaps_of h
/-! ### a tuple taken apart -/
theorem ps_tuV {is : List Nat} {ts : List Expr} {kt : Nat} {pt : Pos} (h : PE X e (tV X.K ct m)) (hg : PG X (.Tuple ts kt pt) (gD X.K ct (.tu is))) (hs : isComp e = false) (hw : swappedStores [.Tuple ts kt pt] e X.env = pure none) :
    PS X (.Assign [.Tuple ts kt pt] e pos) (tS X.K ct (asgTuM is m)) := by
  refine (ps_asg h.vfrz hg (swapsL_of hs) hw rfl).vimp fun D σ H ⟨z, F, env, rel, fl, env', eq, k⟩ => ?_
  unfold asgTuM at eq
  split at eq
  · rename_i ds env1 q
    cases q2 : putAll is ds env1 with
    | none => rw [q2] at eq; cases eq
    | some env2 =>
      rw [q2] at eq
      cases eq
      exact ⟨z, F, env, rel, _, _, q, fun v F' H' ex R1 rp => ⟨z, F', env1, .tup ds, _, R1, .inl rp, q2, fun σ' _ R2 => k σ' F' H' ex R2⟩⟩
  · cases eq
/-! ### places of lists -/
theorem setAt_rel {z : Fm} {F H : Hp} {σ : St} {env env' : Env'} {i : Nat} {k : Int} {v : V} {d : D} (R0 : RelB K ct z F H σ env) (rp : Rp K ct F v d) (e : setAt i k d env = some env') :
    ∃ a xs j, σ[i]? = some (some (.ref a)) ∧ H a = some (.lst xs) ∧ ixN xs.length k = some j ∧ RelB K ct z F (upd H a (.lst (xs.set j v))) σ env' := by
  unfold setAt at e
  split at e
  · rename_i b l q
    obtain ⟨a, xs, h1, h2, h3, h4⟩ := slot_lst R0 q
    split at e
    · rename_i j hj
      cases e
      exact ⟨a, xs, j, h1, h3, by rw [h4.length]; exact hj, R0.write q h1 (fun c hc => upd_ne hc) ⟨_, upd_same, h4.set rp j⟩⟩
    · cases e
  · cases e
theorem t_setIx {i : Nat} {mix : Env' → Option (R × Env')} {v : V} {σ : St} {H : Hp} {Q : St → Hp → Prop} {z : Fm} {F : Hp} {env env1 env2 : Env'} {kk : Int} {d : D} (rel : RelB K ct z F H σ env) (rp : Rp K ct F v d) (ho : isOw env i = true) (q : pz (mix env) = some (.dt (.int kk), env1)) (q2 : setAt i kk d env1 = some env2)
    (k : ∀ F' H', Ex F F' → RelB K ct z F' H' σ env2 → Q σ H') : gSub (tV K ct (varM i)) (tV K ct fun env => pz (mix env)) rSetL v σ H Q := by
  obtain ⟨b0, l0, q0⟩ := isOw_at ho
  refine ⟨z, F, env, rel, _, _, var_own (z := z) (F := F) (H := H) (σ := σ) q0, fun v1 F1 H1 e1 R1 p1 => ⟨z, F1, env, R1, _, _, q, fun v2 F2 H2 e2 R2 p2 => ?_⟩⟩
  cases p2
  obtain ⟨a, xs, j, h1, h2, h3, h4⟩ := setAt_rel R2 (rp.mono (e1.trans e2)) q2
  have p1' : σ[i]? = some (some v1) := p1
  rw [h1] at p1'; cases p1'
  exact ⟨a, xs, kk, j, rfl, rfl, h2, h3, k F2 _ (e1.trans e2) h4⟩
theorem assign_sub {o i : Expr} {p : Pos} (h : isSlice i = false) (env : Env) (v : Value) : assign (.Subscript o i p) env v = (do
      let ov ← holding [v] (eval o env)
      let iv ← holding [v, ov] (eval i env)
      standAt p
      holding [v, ov, iv] (setItem ov iv v)
      release [v, ov, iv] []) := by
  cases i <;> first | rfl | cases h
theorem ps_setIxV {i : Nat} {x : Str} {ie : Expr} {mix : Env' → Option (R × Env')} {p p' : Pos} (hv : PE X (.Name x p) (tV X.K ct (varM i))) (hx : PE X ie (tV X.K ct mix)) (h : PE X e (tV X.K ct m)) (hi : isSlice ie = false) (hs : isComp e = false) :
    PS X (.Assign [.Subscript (.Name x p) ie p'] e pos) (tS X.K ct (setIxM i mix m)) := by
  refine (ps_asg h.vfrz (pg_sub hv hx.vpz set_list (assign_sub hi X.env)) (swapsL_of hs) swapped_sub rfl).vimp fun D σ H ⟨z, F, env, rel, fl, env', eq, k⟩ => ?_
  unfold setIxM at eq
  split at eq
  · rename_i d env1 q
    split at eq
    · rename_i ho
      split at eq
      · rename_i kk env2 q2
        cases q3 : setAt i kk d env2 with
        | none => rw [q3] at eq; cases eq
        | some env3 =>
          rw [q3] at eq
          cases eq
          exact ⟨z, F, env, rel, _, _, q, fun v F' H' ex R1 rp => t_setIx R1 rp ho q2 q3 fun F2 H2 e2 R2 => k σ F2 H2 (ex.trans e2) R2⟩
      · cases eq
    · cases eq
  · cases eq
/-- several targets -/
def gT (K : PySem.W.Frag) (ct : Nat → Addr) (kt : List D → Env' → Option Env') : TGs := fun vs σ H Q => ∃ z F env ds env', RelB K ct z F H σ env ∧ RpA K ct F vs ds ∧ kt ds env = some env' ∧ ∀ σ' F' H', Ex F F' → RelB K ct z F' H' σ' env' → Q σ' H'
theorem pgs_nilT : PGs X [] (gT X.K ct tNilM) := by
  refine pgs_nil.vimp fun vs σ H Q ⟨z, F, env, ds, env', rel, rp, eq, k⟩ => ?_
  cases rp with
  | nil => cases eq; exact ⟨rfl, k σ F H (Ex.refl F) rel⟩
  | cons _ _ => cases eq
theorem pgs_nmT {es : List Expr} {i : Nat} {kt : List D → Env' → Option Env'} (h1 : PG X e (gD X.K ct (.nm i))) (h2 : PGs X es (gT X.K ct kt))
    (hs : (assignEach (e :: es) X.env).map (·.2) = assign e X.env :: (assignEach es X.env).map (·.2)) : PGs X (e :: es) (gT X.K ct (tNmM i kt)) := by
  refine (pgs_cons h1 h2 hs).vimp fun vs σ H Q ⟨z, F, env, ds, env', rel, rp, eq, k⟩ => ?_
  cases rp with
  | nil => cases eq
  | @cons v vs d ds h r =>
    unfold tNmM at eq
    simp only at eq
    cases q : putSl i (.dt d) env with
    | none => rw [q] at eq; cases eq
    | some env1 =>
      rw [q] at eq
      exact ⟨v, vs, rfl, z, F, env, d, env1, rel, .inl h, q, fun σ1 s1 R1 => ⟨z, F, env1, ds, env', R1, r, eq, k⟩⟩
theorem pgs_ixT {es : List Expr} {i : Nat} {x : Str} {ie : Expr} {mix : Env' → Option (R × Env')} {p p' : Pos} {kt : List D → Env' → Option Env'} (hv : PE X (.Name x p) (tV X.K ct (varM i))) (hx : PE X ie (tV X.K ct mix)) (hi : isSlice ie = false) (h2 : PGs X es (gT X.K ct kt))
    (hs : (assignEach (.Subscript (.Name x p) ie p' :: es) X.env).map (·.2) = assign (.Subscript (.Name x p) ie p') X.env :: (assignEach es X.env).map (·.2)) : PGs X (.Subscript (.Name x p) ie p' :: es) (gT X.K ct (tIxM i mix kt)) := by
  refine (pgs_cons (pg_sub hv hx.vpz set_list (assign_sub hi X.env)) h2 hs).vimp fun vs σ H Q ⟨z, F, env, ds, env', rel, rp, eq, k⟩ => ?_
  cases rp with
  | nil => cases eq
  | @cons v vs d ds h r =>
    unfold tIxM at eq
    simp only at eq
    split at eq
    · rename_i ho
      split at eq
      · rename_i kk env1 q
        cases q3 : setAt i kk d env1 with
        | none => rw [q3] at eq; cases eq
        | some env2 =>
          rw [q3] at eq
          exact ⟨v, vs, rfl, t_setIx rel h ho q q3 fun F2 H2 e2 R2 => ⟨z, F2, env2, ds, env', R2, r.mono e2, eq, fun σ' F' H' ex R' => k σ' F' H' (e2.trans ex) R'⟩⟩
      · cases eq
    · cases eq
theorem gT_len {ts : Ts} {P : Pg} {cf : Nat → List Sl → Option (R × List Sl)} : ∀ {ds : List D} {env env' : Env'}, True := trivial
theorem ps_asgTV {ts : List Expr} {n : Nat} {kt : Nat} {pt : Pos} {kk : List D → Env' → Option Env'} (hc : X.calm = true) (h : PE X e (tV X.K ct m)) (hg : PGs X ts (gT X.K ct kk)) (hn : (assignEach ts X.env).length = n) (hst : (assignEach ts X.env).findIdx? (·.1) = none) (hl : ∀ ds env env', kk ds env = some env' → ds.length = n)
    (hs : isComp e = false) (hw : swappedStores [.Tuple ts kt pt] e X.env = pure none) :
    PS X (.Assign [.Tuple ts kt pt] e pos) (tS X.K ct (asgTM kk m)) := by
  refine (ps_asg h.vfrz (pg_tup hc hg hn hst) (swapsL_of hs) hw rfl).vimp fun D σ H ⟨z, F, env, rel, fl, env', eq, k⟩ => ?_
  unfold asgTM at eq
  split at eq
  · rename_i ds env1 q
    cases q2 : kk ds env1 with
    | none => rw [q2] at eq; cases eq
    | some env2 =>
      rw [q2] at eq
      cases eq
      refine ⟨z, F, env, rel, _, _, q, fun v F' H' ex R1 rp => ?_⟩
      cases rp with
      | @tup a xs _ hq r => exact ⟨a, xs, rfl, (R1.r.sub.tpT hq).sq, by rw [r.length]; exact hl _ _ _ q2, z, F', env1, ds, _, R1, r, q2, fun σ' F2 H2 e2 R2 => k σ' F2 H2 (ex.trans e2) R2⟩
  · cases eq
/-! ### attributes -/
theorem ps_setFV {i : Nat} {x : Str} {f : Str} {p p' : Pos} (hcl : ∀ c, Cls X.K (ct c)) (hna : ∀ c, NoAttr X.K (ct c) f) (hv : PE X (.Name x p) (tV X.K ct (varM i))) (h : PE X e (tV X.K ct m)) (hs : isComp e = false) :
    PS X (.Assign [.Attribute (.Name x p) f p'] e pos) (tS X.K ct (setFM i f m)) := by
  refine (ps_fld hv h.vfrz (swaps_of hs)).vimp fun D σ H ⟨z, F, env, rel, fl, env', eq, k⟩ => ?_
  unfold setFM at eq
  split at eq
  · rename_i d env1 q
    split at eq
    · rename_i b c fs q0
      split at eq
      · rename_i hf
        cases eq
        refine ⟨z, F, env, rel, _, _, q, fun v F' H' ex R1 rp => ?_⟩
        have hvm : varM i env1 = some (.sl i, env1) := by unfold varM; rw [q0]
        refine ⟨z, F', env1, R1, _, _, hvm, fun v2 F2 H2 e2 R2 p2 => ?_⟩
        obtain ⟨a, h1, h2, dx, gs, h3, h4, h5⟩ := R2.r.ow i b _ q0
        have p2' : σ[i]? = some (some v2) := p2
        rw [h1] at p2'; cases p2'
        refine ⟨a, ct c, dx, gs, rfl, h3, hcl c, hna c, by rw [h5.length]; exact hf.1, ?_⟩
        exact k σ F2 _ (ex.trans e2) (R2.write (H' := upd H2 a (.ins (ct c) dx (putF f v gs))) q0 h1 (fun c hc => upd_ne hc) ⟨dx, _, upd_same, h4, h5.putNew (rp.mono e2) hf.2⟩)
      · cases eq
    · cases eq
  · cases eq
end
end VI
namespace VI
open PySem L2
section
variable {P : Program} {w : World} {K : PySem.W.Frag} {mg : Str → Option Value} {base : Heap}
/-- a def by its body -/
theorem fn_ofG {k : Nat} {f : Addr} {name qual : Str} {params : Arguments} {body : List Stmt} {scope : Scope} {dV kV doc pm cdv ctv oc : Value} {an od : Option Addr}
    {osl : Array (Option Value)} {N ps : List Str} {sp : List V → Hp → VK → Prop} (lk : K.lookup f = some ⟨oc, od, .func (PySem.W.fnOf name qual params body scope dV kV doc pm an cdv ctv), osl⟩) (hcd : PySem.W.codeIn K cdv qual = true) (S : FnScope N ps scope)
    (len : ∀ vs H Q, sp vs H Q → vs.length = ps.length)
    (hbody : ∀ (A : Around) (outer : List Env) (s : Shared) (H : Hp) (vs : List V) (Q : VK), Room k (A.deeper (PyProof.Rows.envOfC qual scope s.heap.objs.size f cdv)) → A.guards = some [] → sp vs H Q →
      ∃ t, PSs (cxOf CX0 P w K mg base N qual scope f cdv A outer s H E0).nox body t ∧ t { nx := fun _ H' => Q .non H', rt := Q } (start N vs) H) :
    FnG P w K mg base (k + 1) f (PySem.W.fnOf name qual params body scope dV kV doc pm an cdv ctv) ps sp := by
  refine ⟨len, fun A outer s H args us vs Q hr hgd e0 hb r hsp => ?_⟩
  have hl := len _ _ _ hsp
  have KX : K.In s.heap := e0.mod.kin.keeps fun b o e => (e0.bs b o e).1
  have lim : s.heap.NoLimit := e0.mod.nolimit.keeps fun b o e => (e0.bs b o e).1
  have hkind : ∀ y ∈ ps.zip us, scope.names.lookup y.1 = some .local ∨ (scope.names.lookup y.1 = some .cell ∧ ((cellsFrom (s.heap.objs.size + 1) scope.names []).lookup y.1).isSome = true) := fun ⟨n, v⟩ hy => by
    rcases S.par n (List.of_mem_zip hy).1 with q | q
    · exact .inl q
    · exact .inr ⟨q, PySem.W.cellsFrom_some _ _ _ (.inl q)⟩
  refine codeAny_call_function hr.depth (KX _ _ lk) rfl S.co S.gen rfl (PySem.W.codeRec_of KX hcd) (hb _ _ _ _ ?_)
  refine wpAny_newFunctionEnv_cells S.kind hkind fun env he s1 x => ?_
  subst he
  refine ⟨lim.keeps x.toInCall.keep, codeAny_func ?_⟩
  obtain ⟨t, ht, hq⟩ := hbody A outer s H vs Q (hr.deeper _) hgd hsp
  have I : L2.Inv (cxOf CX0 P w K mg base N qual scope f cdv A outer s H E0) [] (start N vs) H s1 := inv_start S hr.hd e0 hl r x
  refine wpAny_mono (ht.nox.run [] s1 (start N vs) H _ I hq) (fun fl s' hs => ?_) fun e s' hs => hs
  have fin : ∀ {σ' : St} {H' : Hp} {v : V} {u : Value}, L2.Inv (cxOf CX0 P w K mg base N qual scope f cdv A outer s H E0) [] σ' H' s' → RelV v u → Q v H' → CE outer P w H s Q u s' :=
    fun {σ' H' v u} J rv q => ⟨v, H', J.os, J.bare, J.base, J.hok, rv, q⟩
  cases fl with
  | ret u =>
    obtain ⟨v, σ', H', J, rv, q⟩ := hs
    exact fin J rv q
  | next =>
    obtain ⟨σ', H', J, q⟩ := hs
    exact fin (v := V.non) (u := Value.none) J rfl q
  | brk =>
    obtain ⟨_, _, _, q⟩ := hs
    exact False.elim q
  | cont =>
    obtain ⟨_, _, _, q⟩ := hs
    exact False.elim q
end
section
variable {K : PySem.W.Frag} {ct : Nat → Addr}
theorem app_at {α : Type} {l m : List α} {i : Nat} {x : α} (h : (l ++ m)[i]? = some x) : l[i]? = some x ∨ x ∈ m := by
  by_cases hi : i < l.length
  · rw [List.getElem?_append_left hi] at h; exact .inl h
  · rw [List.getElem?_append_right (by omega)] at h
    exact .inr (List.mem_of_getElem? h)
theorem startE_at {n : Nat} {ss : List Sl} {i : Nat} {s : Sl} (h : (startE n ss)[i]? = some s) : ss[i]? = some s ∨ s = .no := by
  rcases app_at h with w | w
  · exact .inl w
  · exact .inr (List.eq_of_mem_replicate w)
theorem start_at {N : List Str} {vs : List V} {i : Nat} (h : i < vs.length) : (start N vs)[i]? = (vs.map some)[i]? := by
  unfold L2.start
  rw [List.getElem?_append_left (by simpa using h)]
/-- the state at a def's entry -/
theorem rel_start {F H : Hp} {N : List Str} {vs : List V} {ss : List Sl} (R0 : Rel K ct F H (vs.map some) ss) (hf : ∀ (j : Nat) (d : D), ss[j]? ≠ some (.ow false d)) (hl : vs.length ≤ N.length) :
    RelB K ct (here (vs.map some) (fun a => H a ≠ none) F H (vs.map some) ss) F H (start N vs) (startE N.length ss) := by
  have len : ss.length = vs.length := by rw [← R0.len, List.length_map]
  have key : ∀ (i : Nat) (s : Sl), (startE N.length ss)[i]? = some s → s ≠ .no → ss[i]? = some s ∧ (start N vs)[i]? = (vs.map some)[i]? := fun (i : Nat) (s : Sl) h hn => by
    rcases startE_at h with w | w
    · have : i < ss.length := (List.getElem?_eq_some_iff.mp w).1
      exact ⟨w, start_at (by omega)⟩
    · exact (hn w).elim
  have ft : ∀ a, foot (start N vs) (startE N.length ss) a → foot (vs.map some) ss a := fun a ⟨i, b, d, q, q'⟩ => by
    obtain ⟨h1, h2⟩ := key i _ q (by simp)
    exact ⟨i, b, d, h1, h2 ▸ q'⟩
  refine ⟨⟨R0.sub, ?_, fun i d q => ?_, fun i b d q => ?_, fun i j b b' d d' a q1 q2 q3 q4 => ?_⟩, ⟨Ex.refl F, fun _ _ h _ => h, fun _ _ _ => rfl, fun _ h => h, fun a f => .inl (ft a f), fun i d q => (key i _ q (by simp)).2, fun a h => h, fun i d a q _ => (hf i d (key i _ q (by simp)).1).elim⟩⟩
  · unfold L2.start startE
    simp only [List.length_append, List.length_map, List.length_replicate]
    omega
  · obtain ⟨h1, h2⟩ := key i _ q (by simp)
    rw [h2]; exact R0.va i d h1
  · obtain ⟨h1, h2⟩ := key i _ q (by simp)
    rw [h2]; exact R0.ow i b d h1
  · obtain ⟨h1, h2⟩ := key i _ q1 (by simp)
    obtain ⟨h3, h4⟩ := key j _ q2 (by simp)
    exact R0.dj i j b b' d d' a h1 h3 (h2 ▸ q3) (h4 ▸ q4)
theorem clean_at {n i : Nat} {env : Env'} {s : Sl} (h : (cleanE n env)[i]? = some s) (hn : s ≠ .no) : i < n ∧ ∃ d, s = .ow true d ∧ env[i]? = some (.ow true d) := by
  unfold cleanE at h
  rw [List.getElem?_map] at h
  cases q : (List.range n)[i]? with
  | none => rw [q] at h; cases h
  | some j =>
    rw [q] at h
    have hj := List.getElem?_eq_some_iff.mp q
    obtain ⟨h1, h2⟩ := hj
    rw [List.getElem_range] at h2
    subst h2
    have h' : lentAt env i = s := by simpa using h
    unfold lentAt at h'
    split at h'
    · rename_i d q2
      exact ⟨by simpa using h1, d, h'.symm, q2⟩
    · exact (hn h'.symm).elim
/-- .. and at its end -/
theorem rel_end {z : Fm} {F H : Hp} {σ : St} {env : Env'} {L : St} (R0 : RelB K ct z F H σ env) (hL : z.L = L) : RelB K ct z F H L (cleanE L.length env) ∧ ∀ a, foot L (cleanE L.length env) a → foot σ env a := by
  have key : ∀ (i : Nat) (s : Sl), (cleanE L.length env)[i]? = some s → s ≠ .no → ∃ d, s = .ow true d ∧ env[i]? = some (.ow true d) ∧ L[i]? = σ[i]? := fun (i : Nat) (s : Sl) h hn => by
    obtain ⟨h1, d, h2, h3⟩ := clean_at h hn
    exact ⟨d, h2, h3, by rw [R0.n.lent i d h3, hL]⟩
  have ft : ∀ a, foot L (cleanE L.length env) a → foot σ env a := fun a ⟨i, b, d, q, q'⟩ => by
    obtain ⟨d', e1, e2, e3⟩ := key i _ q (by simp)
    cases e1
    exact ⟨i, true, d, e2, e3 ▸ q'⟩
  refine ⟨⟨⟨R0.r.sub, by simp [cleanE], fun i d q => ?_, fun i b d q => ?_, fun i j b b' d d' a q1 q2 q3 q4 => ?_⟩, ⟨R0.n.ex, R0.n.keep, R0.n.nofz, R0.n.th, fun a f => R0.n.fo a (ft a f), fun i d q => by rw [hL], R0.n.tz, fun i d a q q' => ?_⟩⟩, ft⟩
  · obtain ⟨d', e1, _⟩ := key i _ q (by simp); cases e1
  · obtain ⟨d', e1, e2, e3⟩ := key i _ q (by simp)
    cases e1
    rw [e3]; exact R0.r.ow i true d e2
  · obtain ⟨_, e1, e2, e3⟩ := key i _ q1 (by simp)
    obtain ⟨_, g1, g2, g3⟩ := key j _ q2 (by simp)
    cases e1; cases g1
    exact R0.r.dj i j true true d d' a e2 g2 (e3 ▸ q3) (g3 ▸ q4)
  · obtain ⟨d', e1, _⟩ := key i _ q (by simp); cases e1
/-- the promise of a def, read as its body's -/
theorem spF_body {P : Pg} {k f : Nat} {fn : Fn} {N : List Str} {vs : List V} {H : Hp} {Q : VK} (hf : P.fns[f]? = some fn) (hN : N.length = fn.n) (hle : fn.ps.length ≤ fn.n) (w : spF K ct (runN P (k + 1) f) fn.ps.length vs H Q) :
    tS K ct (exSs P (runN P k) fn.body) { nx := fun _ H' => Q .non H', rt := Q } (start N vs) H := by
  obtain ⟨hl, F, ss, R0, hno, r, ss', eq, k⟩ := w
  unfold runN at eq
  rw [hf] at eq
  simp only at eq
  split at eq
  · rename_i hs
    rw [← hN] at eq
    refine ⟨_, F, startE N.length ss, rel_start R0 hno (by omega), ?_⟩
    have hvl : (vs.map some).length = fn.ps.length := by rw [List.length_map]; exact hl
    cases q : exSs P (runN P _) fn.body (startE N.length ss) with
    | none => rw [q] at eq; cases eq
    | some p =>
      obtain ⟨fl, env'⟩ := p
      refine ⟨fl, env', rfl, ?_⟩
      rw [q] at eq
      cases fl with
      | next =>
        cases eq
        intro σ' F' H' ex R1
        obtain ⟨R2, ft⟩ := rel_end (L := vs.map some) R1 rfl
        rw [hvl] at R2
        exact k .non F' H' R2 .non
      | brk => cases eq
      | cnt => cases eq
      | ret r =>
        cases eq
        intro v σ' F' H' ex R1 rr
        obtain ⟨R2, ft⟩ := rel_end (L := vs.map some) R1 rfl
        rw [hvl] at R2 ft
        refine k v F' H' R2 ?_
        cases r with
        | dt d => exact rr
        | nw d =>
          obtain ⟨a, h1, h2, h3, h4, h5⟩ := rr
          exact ⟨a, h1, h2, h3, fun f => h4 (ft a f), Classical.not_not.mp h5⟩
        | sl i => exact rr.elim
  · cases eq
theorem spF_len {cf : List Sl → Option (R × List Sl)} {n : Nat} {vs : List V} {H : Hp} {Q : VK} (w : spF K ct cf n vs H Q) : vs.length = n := w.1
end
end VI
namespace VI
open PySem L2
/-- n turns, each with a new tuple; G: what is walked stands -/
def ItS (G : Hp → Prop) (n : Nat) (row : Nat → List V) : L2.It :=
  ⟨fun i H => G H ∧ i < n, fun i H v H' => ∃ T, v = .ref T ∧ H T = none ∧ H' = upd H T (.tup (row i)), fun i H => G H ∧ i = n⟩
section
variable {tg : Expr} {it : Addr} {fp fq wr : List Addr} {n : Nat}
theorem item_of {X : Cx} {pins : List (Addr × Obj)} {s : Shared} {σ : St} {H : Hp} {E : Value → Shared → Prop} {Y : Nat → Heap → Value → Heap → Prop} {St : Nat → Heap → Prop} {tn : Nat → Heap → Prop} {i : Nat} {xs : List V} (I : L2.Inv X pins σ H s) (hf : ∀ b ∈ fp, FpOk X pins H b) (hl : ∀ b ∈ fp, b < s.heap.objs.size)
    (hw : ∀ b ∈ wr, b ∈ fp) (W : GoesN X.prog X.w X.A tg it fq wr n Y St) (hst : St i s.heap) (hi : i < n) (hz : xs.length ≤ sizeLine)
    (hY : ∀ h v h', Y i h v h' → ∃ T vals, v = .ref T ∧ h.objs.size ≤ T ∧ Vals xs vals ∧ h'.IsTuple T vals.toArray) (ht : ∀ h, St (i + 1) h → tn (i + 1) h) :
    wpAny (model X.prog X.w) X.A (pyNext (.ref it)) (fun r s1 => ∃ u, r = some u ∧
      wpAny (model X.prog X.w) X.A (letOwnedTupleGo tg (.ref it) u) (fun _ s2 => ∃ x H', L2.Inv X pins σ H' s2 ∧ RelV x u ∧ (∃ T, x = .ref T ∧ H T = none ∧ H' = upd H T (.tup xs)) ∧ tn (i + 1) s2.heap ∧ ∀ b ∈ fp, H' b = none) E s1) E s := by
  refine W.goes i s (fun u s2 => ∃ x H', L2.Inv X pins σ H' s2 ∧ RelV x u ∧ (∃ T, x = .ref T ∧ H T = none ∧ H' = upd H T (.tup xs)) ∧ tn (i + 1) s2.heap ∧ ∀ b ∈ fp, H' b = none) E hi hst fun v h' tk y st' kp _ => ?_
  obtain ⟨T, vals, rfl, hT, rv, hI⟩ := hY _ _ _ y
  have hn : H T = none := I.hok.fresh hT
  have I1 : L2.Inv X pins σ (upd H T (.tup xs)) { s with heap := h', toks := tk } := I.turnedNew (ch := wr) kp (fun b hb => hf b (hw b hb)) hT ⟨hz, vals, rv, hI⟩
  refine ⟨.ref T, _, I1, rfl, ⟨T, rfl, hn, rfl⟩, ht _ st', fun b hb => ?_⟩
  rw [upd_ne (Nat.ne_of_lt (Nat.lt_of_lt_of_le (hl b hb) hT))]
  exact (hf b hb).1
theorem done_of {X : Cx} {pins : List (Addr × Obj)} {s : Shared} {σ : St} {H : Hp} {E : Value → Shared → Prop} {Y : Nat → Heap → Value → Heap → Prop} {St : Nat → Heap → Prop} (I : L2.Inv X pins σ H s) (hf : ∀ b ∈ fp, FpOk X pins H b)
    (hw : ∀ b ∈ wr, b ∈ fp) (W : GoesN X.prog X.w X.A tg it fq wr n Y St) (hst : St n s.heap) :
    wpAny (model X.prog X.w) X.A (pyNext (.ref it)) (fun r s1 => r = none ∧ L2.Inv X pins σ H s1) E s :=
  W.stops s _ E hst fun h' tk kp _ => I.turnedL (ch := wr) kp fun b hb => hf b (hw b hb)
end
theorem turn_enmT {P : Program} {w : World} {K : PySem.W.Frag} {elts : List Expr} {kk : Nat} {tpos : Pos} {xs : List V} (a e it : Addr) :
    Turn P w K (.Tuple elts kk tpos) (ItS (fun H => SqT K H a xs) xs.length (fun i => [.int (0 + (i : Int)), xs.getD i .non])) [e, it] e (fun i h => (∃ old, IsEnum h e it (0 + (i : Int)) old) ∧ h.IsTupleIter it a i ∧ e ≠ it ∧ a ≠ it ∧ a ≠ e) where
  mem := by simp
  obj := fun i h st b hb => by
    obtain ⟨⟨old, he⟩, ⟨o, ho, hc, hd⟩, _⟩ := st
    have e' : b = e ∨ b = it := by simpa using hb
    rcases e' with z | z
    · rw [z]; exact ⟨_, he, fun v q => nomatch q⟩
    · rw [z]; exact ⟨o, ho, fun v q => by rw [hd] at q; cases q⟩
  keep := fun i h h' st k => let ⟨⟨old, he⟩, hi, hne⟩ := st; ⟨⟨old, k e (by simp) _ he⟩, hi.at fun o q => k it (by simp) o q, hne⟩
  item := by
    intro X hP hw hK hc i pins s σ H E I hf st hg
    subst hP hw hK
    obtain ⟨hE, hit, hne, ha1, ha2⟩ := id st
    obtain ⟨hq, hi⟩ := hg
    obtain ⟨its, rv, p, hz⟩ := I.tuple hq
    have hlen : its.toArray.size = xs.length := by rw [List.size_toArray]; exact rv.length.symm
    have W := GoesN.enumFrom (elts := elts) (x1 := kk) (pos := tpos) (prog := X.prog) (w := X.w) (A := X.A) 0 (Draws.tuple (A := X.A.in1) (I.ok.hd hc) it a ha1 its.toArray) e hne (by simp [hne, Ne.symm ha2]) (by simp)
    have hel : e < s.heap.objs.size := by obtain ⟨_, q⟩ := hE; exact Heap.lt_size q
    have hil : it < s.heap.objs.size := by obtain ⟨_, q, _⟩ := hit; exact Heap.lt_size q
    refine item_of (fp := [e, it]) (wr := [e, it]) (tn := fun i h => (∃ old, IsEnum h e it (0 + (i : Int)) old) ∧ h.IsTupleIter it a i ∧ e ≠ it ∧ a ≠ it ∧ a ≠ e) (xs := [.int (0 + (i : Int)), xs.getD i .non]) I hf (fun b hb => ?_) (fun b hb => hb) W ⟨hE, hit, p⟩ (by rw [hlen]; exact hi) (by show 2 ≤ sizeLine; decide) (fun h v h' y => ?_) fun h q => ⟨q.1, q.2.1, hne, ha1, ha2⟩
    · have e' : b = e ∨ b = it := by simpa using hb
      rcases e' with z | z
      · rw [z]; exact hel
      · rw [z]; exact hil
    · obtain ⟨T, t, x, rfl, hT, hx, hI⟩ := y
      obtain ⟨u, hu, ru⟩ := rv.get (List.getElem?_eq_getElem hi)
      have hx' : its[i]? = some x := by simpa using hx
      rw [hu] at hx'; cases hx'
      refine ⟨T, [.int (0 + (i : Int)) t, x], rfl, hT, .cons (show RelV (.int _) (.int _ _) from ⟨_, rfl⟩) (.cons ?_ .nil), hI⟩
      rw [List.getD_eq_getElem?_getD, List.getElem?_eq_getElem hi]
      exact ru
  done := by
    intro X hP hw hK hc i pins s σ H E I hf st hg
    subst hP hw hK
    obtain ⟨hE, hit, hne, ha1, ha2⟩ := id st
    obtain ⟨hq, hi⟩ := hg
    obtain ⟨its, rv, p, hz⟩ := I.tuple hq
    have hlen : its.toArray.size = xs.length := by rw [List.size_toArray]; exact rv.length.symm
    have W := GoesN.enumFrom (elts := elts) (x1 := kk) (pos := tpos) (prog := X.prog) (w := X.w) (A := X.A) 0 (Draws.tuple (A := X.A.in1) (I.ok.hd hc) it a ha1 its.toArray) e hne (by simp [hne, Ne.symm ha2]) (by simp)
    subst hi
    rw [hlen] at W
    exact done_of (fp := [e, it]) (wr := [e, it]) I hf (fun b hb => hb) W ⟨hE, hit, p⟩
  self := fun A i s Q E st h => let ⟨⟨_, he⟩, _⟩ := st; wpAny_pyIter_enum he h
theorem turn_enmL {P : Program} {w : World} {K : PySem.W.Frag} {elts : List Expr} {kk : Nat} {tpos : Pos} {xs : List V} (a e it : Addr) :
    Turn P w K (.Tuple elts kk tpos) (ItS (fun H => SqL K H a xs) xs.length (fun i => [.int (0 + (i : Int)), xs.getD i .non])) [e, it] e (fun i h => (∃ old, IsEnum h e it (0 + (i : Int)) old) ∧ h.IsListIter it a i ∧ e ≠ it ∧ a ≠ it ∧ a ≠ e) where
  mem := by simp
  obj := fun i h st b hb => by
    obtain ⟨⟨old, he⟩, ⟨o, ho, hc, hd⟩, _⟩ := st
    have e' : b = e ∨ b = it := by simpa using hb
    rcases e' with z | z
    · rw [z]; exact ⟨_, he, fun v q => nomatch q⟩
    · rw [z]; exact ⟨o, ho, fun v q => by rw [hd] at q; cases q⟩
  keep := fun i h h' st k => let ⟨⟨old, he⟩, hi, hne⟩ := st; ⟨⟨old, k e (by simp) _ he⟩, hi.at fun o q => k it (by simp) o q, hne⟩
  item := by
    intro X hP hw hK hc i pins s σ H E I hf st hg
    subst hP hw hK
    obtain ⟨hE, hit, hne, ha1, ha2⟩ := id st
    obtain ⟨hq, hi⟩ := hg
    obtain ⟨its, rv, p, hz⟩ := I.list hq
    have hlen : its.toArray.size = xs.length := by rw [List.size_toArray]; exact rv.length.symm
    have W := GoesN.enumFrom (elts := elts) (x1 := kk) (pos := tpos) (prog := X.prog) (w := X.w) (A := X.A) 0 (Draws.list (A := X.A.in1) (I.ok.hd hc) it a ha1 its.toArray) e hne (by simp [hne, Ne.symm ha2]) (by simp)
    have hel : e < s.heap.objs.size := by obtain ⟨_, q⟩ := hE; exact Heap.lt_size q
    have hil : it < s.heap.objs.size := by obtain ⟨_, q, _⟩ := hit; exact Heap.lt_size q
    refine item_of (fp := [e, it]) (wr := [e, it]) (tn := fun i h => (∃ old, IsEnum h e it (0 + (i : Int)) old) ∧ h.IsListIter it a i ∧ e ≠ it ∧ a ≠ it ∧ a ≠ e) (xs := [.int (0 + (i : Int)), xs.getD i .non]) I hf (fun b hb => ?_) (fun b hb => hb) W ⟨hE, hit, p.isList⟩ (by rw [hlen]; exact hi) (by show 2 ≤ sizeLine; decide) (fun h v h' y => ?_) fun h q => ⟨q.1, q.2.1, hne, ha1, ha2⟩
    · have e' : b = e ∨ b = it := by simpa using hb
      rcases e' with z | z
      · rw [z]; exact hel
      · rw [z]; exact hil
    · obtain ⟨T, t, x, rfl, hT, hx, hI⟩ := y
      obtain ⟨u, hu, ru⟩ := rv.get (List.getElem?_eq_getElem hi)
      have hx' : its[i]? = some x := by simpa using hx
      rw [hu] at hx'; cases hx'
      refine ⟨T, [.int (0 + (i : Int)) t, x], rfl, hT, .cons (show RelV (.int _) (.int _ _) from ⟨_, rfl⟩) (.cons ?_ .nil), hI⟩
      rw [List.getD_eq_getElem?_getD, List.getElem?_eq_getElem hi]
      exact ru
  done := by
    intro X hP hw hK hc i pins s σ H E I hf st hg
    subst hP hw hK
    obtain ⟨hE, hit, hne, ha1, ha2⟩ := id st
    obtain ⟨hq, hi⟩ := hg
    obtain ⟨its, rv, p, hz⟩ := I.list hq
    have hlen : its.toArray.size = xs.length := by rw [List.size_toArray]; exact rv.length.symm
    have W := GoesN.enumFrom (elts := elts) (x1 := kk) (pos := tpos) (prog := X.prog) (w := X.w) (A := X.A) 0 (Draws.list (A := X.A.in1) (I.ok.hd hc) it a ha1 its.toArray) e hne (by simp [hne, Ne.symm ha2]) (by simp)
    subst hi
    rw [hlen] at W
    exact done_of (fp := [e, it]) (wr := [e, it]) I hf (fun b hb => hb) W ⟨hE, hit, p.isList⟩
  self := fun A i s Q E st h => let ⟨⟨_, he⟩, _⟩ := st; wpAny_pyIter_enum he h
theorem meets_enum1 {v : Value} {o : Obj} {H : Heap → Prop} (B : Begins v o H) :
    Meets (Builtin.«enumerate.__new__» ⟨[.type "enumerate", v], []⟩) (fun _ R s => H s.heap ∧
      R (.ok (.ret (.ref (s.heap.push o).objs.size))) { s with heap := (s.heap.push o).push { cls := .type "enumerate", data := .fields #[.none, .bool false, .ref s.heap.objs.size, rawInt 0, .none, .none] } }) :=
  .of_wp fun prog w A R s h => by
    obtain ⟨hp, g, d, tk, os⟩ := s; obtain ⟨h1, h⟩ := h
    have hsub := sub_enumerate
    have q1 : ∀ {A' : Around} {E : Value → Shared → Prop} {Q : Value → Shared → Prop}, Q (.ref hp.objs.size) ⟨hp.push o, g, d, tk, os⟩ → wpAny (model prog w) A' (pyIter v) Q E ⟨hp, g, d, tk, os⟩ :=
      fun q => B.iter prog w _ _ ⟨hp, g, d, tk, os⟩ _ h1 q
    wp_walk using q1
    refine wpAny_stack_any fun st => wpAny_pure ?_
    split
    · rename_i c _ _ _ _ _
      cases (c == Value.type "enumerate")
      · wp_walk using q1
        exact ⟨_, rfl, h⟩
      · wp_walk using q1
        exact ⟨_, rfl, h⟩
    · wp_walk using q1
      exact ⟨_, rfl, h⟩
theorem enum_begins1 {prog : Program} {w : World} {A : Around} {E : Value → Shared → Prop} {s : Shared} {v : Value} {o : Obj} {H : Heap → Prop} {Q : Value → Shared → Prop} (B : Begins v o H) (h1 : H s.heap)
    (h : ∀ h', IsEnum h' (s.heap.objs.size + 1) s.heap.objs.size 0 .none → h'.get? s.heap.objs.size = some o → h'.objs.size = s.heap.objs.size + 2 →
      (∀ b o, s.heap.get? b = some o → h'.get? b = some o) → Q (.ref (s.heap.objs.size + 1)) { s with heap := h' }) :
    wpAny (model prog w) A (call (.type "enumerate") [v]) Q E s := by
  refine callType_new F.called_enumerate (by decide) (F.typeCall_enumerate_1 _) (F.newCall_enumerate_1 _) (fun obj => F.args_object_init_2 obj _) F.entry_enumerate_new
    (meets_enum1 B) ⟨h1, ?_⟩
  have hz : (s.heap.push o).objs.size = s.heap.objs.size + 1 := Heap.size_push ..
  show _ ∧ _
  rw [hz]
  have he : IsEnum ((s.heap.push o).push { cls := .type "enumerate", data := .fields #[.none, .bool false, .ref s.heap.objs.size, rawInt 0, .none, .none] }) (s.heap.objs.size + 1) s.heap.objs.size 0 .none := by
    have := Heap.get?_push_size (s.heap.push o) (o := { cls := .type "enumerate", data := .fields #[.none, .bool false, .ref s.heap.objs.size, rawInt 0, .none, .none] }) rfl
    rw [hz] at this; exact this
  refine ⟨⟨_, he, rfl⟩, h _ he (Heap.get?_push_of_some _ (Heap.get?_push_size _ B.free)) (by rw [Heap.size_push, hz]) fun b o x => Heap.get?_push_of_some _ (Heap.get?_push_of_some _ x)⟩
section
variable {X : Cx} {K : PySem.W.Frag} {ct : Nat → Addr}
theorem walk_enm {F : Hp} {G : Hp → Prop} {xs : List V} {ds : List D} (hG : ∀ H, Ex F H → G H) (r : RpA K ct F xs ds) :
    Walk (ItS G xs.length (fun i => [.int (0 + (i : Int)), xs.getD i .non])) (ds.zipIdx.map fun p => D.tup [.int (p.2 : Nat), p.1]).length (Ex F) (Yl K ct true F (ds.zipIdx.map fun p => D.tup [.int (p.2 : Nat), p.1])) := by
  have hl : (ds.zipIdx.map fun p => D.tup [.int (p.2 : Nat), p.1]).length = xs.length := by rw [List.length_map, List.length_zipIdx, r.length]
  rw [hl]
  refine ⟨fun i H hi e => ⟨hG H e, hi⟩, fun H e => ⟨hG H e, rfl⟩, fun i H v H' hi e y => ?_⟩
  obtain ⟨T, rfl, hT, rfl⟩ := y
  obtain ⟨d, hd, rp⟩ := r.get' (List.getElem?_eq_getElem hi)
  refine ⟨.tup [.int (i : Nat), d], ?_, .inr ⟨T, _, hT, rfl, fun F2 e2 n2 => .inr ⟨rfl, T, _, _, rfl, rfl, .inl (.inl upd_same), ?_⟩⟩⟩
  · rw [List.getElem?_map, List.getElem?_zipIdx, hd]
    simp
  · have e0 : (0 + (i : Int)) = (i : Int) := by omega
    have e1 : xs.getD i .non = xs[i] := by rw [List.getD_eq_getElem?_getD, List.getElem?_eq_getElem hi] <;> rfl
    simp only [e0, e1]
    exact .cons (.int _) (.cons (rp.mono (e2.trans (Ex.new n2))) .nil)
theorem pi_enmV {e : Expr} {m : Env' → Option (R × Env')} {p pos tpos : Pos} {elts : List Expr} {kk : Nat} (hg : Gl X "enumerate") (hm : X.mg "enumerate" = none) (h : PE X e (tV X.K ct m)) (hs : isStar e = false) :
    PI X (.Tuple elts kk tpos) (.Call (.Name "enumerate" p) [e] [] pos) (tI X.K ct true (enmM m)) := by
  refine ⟨fun pins s σ H R I w => ?_⟩
  obtain ⟨z, F, env, rel, xs, env', eq, k⟩ := w
  unfold enmM at eq
  have pa := pa_cons h.vfrz (pa_nil (X := X)) (star_of hs)
  split at eq
  · rename_i d env1 q
    cases d with
    | tup l =>
      cases eq
      refine PyProof.Rows.Call_ (ld_blt I hg hm PyProof.Rows.boot_enumerate (PyProof.Rows.callWith_type1 (thn (pa.run pos pins s σ H (fun vs H1 => ∃ a xs F', vs = [.ref a] ∧ TpT F' a xs ∧ RpA X.K ct F' xs l ∧ Ex F' H1 ∧ R (ItS (fun H => SqT X.K H a xs) xs.length (fun i => [.int (0 + (i : Int)), xs.getD i .non])) H1) I ⟨z, F, env, rel, _, _, q, fun v F' H' ex rl rp => ?_⟩) fun us s1 ⟨vs, H1, I1, r1, q1⟩ => ?_) (star_of hs) rfl))
      · cases rp with
        | @tup a ys _ hq r => exact ⟨a, ys, F', rfl, hq, r, rl.r.sub, k _ F' H' ex rl (walk_enm (fun H2 e2 => (e2.tpT hq).sq) r)⟩
      · obtain ⟨a, ys, F', rfl, hq, r, sub, q1⟩ := q1
        cases r1 with
        | cons r2 rr =>
          cases rr
          cases r2
          obtain ⟨its, rv, p', hz⟩ := I1.tuple (sub.tpT hq).sq
          have hal : a < s1.heap.objs.size := by obtain ⟨o, ho, _⟩ := id p'; exact Heap.lt_size ho
          refine enum_begins1 (begins_tuple a its.toArray) p' fun h' he hit hsz hk => wpAny_pyIter_enum he ?_
          have I2 : L2.Inv X pins σ H1 { s1 with heap := h' } := I1.kept (t' := s1.toks) hk
          refine ⟨s1.heap.objs.size + 1, [s1.heap.objs.size + 1, s1.heap.objs.size], _, _, H1, rfl, I2, turn_enmT a (s1.heap.objs.size + 1) s1.heap.objs.size, ⟨⟨.none, by simpa using he⟩, ⟨_, hit, rfl, rfl⟩, Nat.succ_ne_self _, Nat.ne_of_lt hal, Nat.ne_of_lt (Nat.lt_succ_of_lt hal)⟩, fun b hb => ?_, q1⟩
          have e' : b = s1.heap.objs.size + 1 ∨ b = s1.heap.objs.size := by simpa using hb
          have hle : s1.heap.objs.size ≤ b := by
            rcases e' with z | z
            · rw [z]; exact Nat.le_add_right _ _
            · rw [z]; exact Nat.le_refl _
          exact I1.fpOk hle (I1.hok.fresh hle)
    | lst l =>
      cases eq
      refine PyProof.Rows.Call_ (ld_blt I hg hm PyProof.Rows.boot_enumerate (PyProof.Rows.callWith_type1 (thn (pa.run pos pins s σ H (fun vs H1 => ∃ a xs F', vs = [.ref a] ∧ F' a = some (.lst xs) ∧ RpA X.K ct F' xs l ∧ Ex F' H1 ∧ R (ItS (fun H => SqL X.K H a xs) xs.length (fun i => [.int (0 + (i : Int)), xs.getD i .non])) H1) I ⟨z, F, env, rel, _, _, q, fun v F' H' ex rl rp => ?_⟩) fun us s1 ⟨vs, H1, I1, r1, q1⟩ => ?_) (star_of hs) rfl))
      · cases rp with
        | @lst a ys _ hq r => exact ⟨a, ys, F', rfl, hq, r, rl.r.sub, k _ F' H' ex rl (walk_enm (fun H2 e2 => SqL.of (e2 _ _ hq)) r)⟩
      · obtain ⟨a, ys, F', rfl, hq, r, sub, q1⟩ := q1
        cases r1 with
        | cons r2 rr =>
          cases rr
          cases r2
          obtain ⟨its, rv, p', hz⟩ := I1.list (SqL.of (sub _ _ hq))
          have hal : a < s1.heap.objs.size := p'.lt
          refine enum_begins1 (begins_list a its.toArray) p'.isList fun h' he hit hsz hk => wpAny_pyIter_enum he ?_
          have I2 : L2.Inv X pins σ H1 { s1 with heap := h' } := I1.kept (t' := s1.toks) hk
          refine ⟨s1.heap.objs.size + 1, [s1.heap.objs.size + 1, s1.heap.objs.size], _, _, H1, rfl, I2, turn_enmL a (s1.heap.objs.size + 1) s1.heap.objs.size, ⟨⟨.none, by simpa using he⟩, ⟨_, hit, rfl, rfl⟩, Nat.succ_ne_self _, Nat.ne_of_lt hal, Nat.ne_of_lt (Nat.lt_succ_of_lt hal)⟩, fun b hb => ?_, q1⟩
          have e' : b = s1.heap.objs.size + 1 ∨ b = s1.heap.objs.size := by simpa using hb
          have hle : s1.heap.objs.size ≤ b := by
            rcases e' with z | z
            · rw [z]; exact Nat.le_add_right _ _
            · rw [z]; exact Nat.le_refl _
          exact I1.fpOk hle (I1.hok.fresh hle)
    | _ => cases eq
  · cases eq
end
end VI
/-! a zip of two tuples that goes into dict(..) -/
namespace VI
open PySem L2
section
variable {prog : Program} {w : World} {A : Around} {E : Value → Shared → Prop} {s : Shared}
/-- the next pair while the one before is still about -/
theorem zt_item {zz ti to T a1 a2 t1 t2 : Addr} {fl : Bool} {ob : Obj} {m1 m2 : Nat} {us vs : Array Value} {u v : Value} {Q : Value → Shared → Prop} (D : ZipApart zz ti to a1 a2 t1 t2)
    (gz : IsZipHeld s.heap zz ti to T fl) (gT : s.heap.get? T = some ob) (gi : IsPair s.heap ti (.ref a1) (.ref a2))
    (g1 : s.heap.IsTupleIter a1 t1 m1) (g2 : s.heap.IsTupleIter a2 t2 m2) (p1 : s.heap.IsTuple t1 us) (p2 : s.heap.IsTuple t2 vs) (e1 : us[m1]? = some u) (e2 : vs[m2]? = some v)
    (fin : ∀ h', IsZipHeld h' zz ti to T true → h'.IsTupleIter a1 t1 (m1 + 1) → h'.IsTupleIter a2 t2 (m2 + 1) → IsPair h' s.heap.objs.size u v → h'.objs.size = s.heap.objs.size + 1 →
      (∀ c o, c ≠ zz → c ≠ a1 → c ≠ a2 → s.heap.get? c = some o → h'.get? c = some o) → Q (.ref s.heap.objs.size) { s with heap := h' }) :
    wpAny (model prog w) A (Builtin.«zip.__next__» ⟨[.ref zz], []⟩) (fun f s' => ∃ r, f = .done (.ret r) ∧ Q r s') E s := by
  show wpAny _ _ (field (.ref zz) 2 >>= _) _ _ _
  refine wpAny_bind (wpAny_field gz rfl (x := .bool false) rfl ?_)
  show wpAny _ _ (field (.ref zz) 3 >>= _) _ _ _
  refine wpAny_bind (wpAny_field gz rfl (x := .ref ti) rfl ?_)
  refine wpAny_bind (wpAny_seqItems gi rfl ?_)
  show wpAny _ _ (Builtin.SmallTypes.ownedTupleIsFree (.ref zz) >>= _) _ _ _
  refine wpAny_bind (wpAny_tupleHeld_zip gz gT fun b₁ gz₁ sb₁ => ?_)
  simp only [Bool.false_eq_true, if_false]
  refine wpAny_bind ?_
  rw [← Array.forIn_toList]
  simp only [List.forIn_cons, List.forIn_nil]
  refine wpAny_bind (wpAny_bind (wpAny_holding ?_))
  show wpAny _ _ (Builtin.SmallTypes.nextOf (.ref a1) >>= _) _ _ _
  refine wpAny_bind (RZ.nextOf_tuple_item (s := { s with heap := b₁ }) (g1.extBut sb₁.extBut D.i1z) (p1.extBut sb₁.extBut D.l1z) e1 fun b₂ g1₂ sb₂ => wpAny_pure ?_)
  refine wpAny_pure ?_
  refine wpAny_bind (wpAny_bind (wpAny_holding ?_))
  show wpAny _ _ (Builtin.SmallTypes.nextOf (.ref a2) >>= _) _ _ _
  refine wpAny_bind (RZ.nextOf_tuple_item (s := { s with heap := b₂ }) ((g2.extBut sb₁.extBut D.i2z).extBut sb₂.extBut D.i12.symm) ((p2.extBut sb₁.extBut D.l2z).extBut sb₂.extBut D.l2i1) e2 fun b₃ g2₃ sb₃ => wpAny_pure ?_)
  refine wpAny_pure (wpAny_pure ?_)
  show wpAny _ _ (newTuple [u, v] >>= _) _ _ _
  refine wpAny_bind (wpAny_newTuple ?_)
  have zsz : b₃.objs.size = s.heap.objs.size := by rw [sb₃.1, sb₂.1, sb₁.1]
  have gz₃ : IsZipHeld b₃ zz ti to T true := sb₃.extBut _ _ D.i2z.symm (sb₂.extBut _ _ D.i1z.symm gz₁)
  have kk : ∀ c o, c ≠ zz → c ≠ a1 → c ≠ a2 → s.heap.get? c = some o → b₃.get? c = some o := fun c o c1 c2 c3 e => sb₃.extBut _ _ c3 (sb₂.extBut _ _ c2 (sb₁.extBut _ _ c1 e))
  have g1₃ : b₃.IsTupleIter a1 t1 (m1 + 1) := g1₂.extBut sb₃.extBut D.i12
  refine wpAny_pure ⟨_, rfl, ?_⟩
  show Q (.ref b₃.objs.size) _
  have gp : IsPair (b₃.push { cls := .type "tuple", data := .seq #[u, v] }) b₃.objs.size u v := Heap.get?_push_size _ rfl
  have z4 : (b₃.push { cls := .type "tuple", data := .seq #[u, v] }).objs.size = b₃.objs.size + 1 := Heap.size_push ..
  rw [zsz] at gp z4 ⊢
  exact fin _ (Heap.get?_push_of_some _ gz₃) (g1₃.at fun o e => Heap.get?_push_of_some _ e) (g2₃.at fun o e => Heap.get?_push_of_some _ e) gp z4 fun c o c1 c2 c3 e => Heap.get?_push_of_some _ (kk c o c1 c2 c3 e)
theorem zt_end {zz ti to T a1 a2 t1 t2 : Addr} {fl : Bool} {ob : Obj} {m1 m2 : Nat} {us vs : Array Value} {Q : Fin → Shared → Prop} (hh : A.handled = none) (D : ZipApart zz ti to a1 a2 t1 t2)
    (gz : IsZipHeld s.heap zz ti to T fl) (gT : s.heap.get? T = some ob) (gi : IsPair s.heap ti (.ref a1) (.ref a2))
    (g1 : s.heap.IsTupleIter a1 t1 m1) (g2 : s.heap.IsTupleIter a2 t2 m2) (p1 : s.heap.IsTuple t1 us) (p2 : s.heap.IsTuple t2 vs) (en : us[m1]? = none ∨ vs[m2]? = none)
    (out : ∀ h' e, (∀ c o, c ≠ zz → c ≠ a1 → c ≠ a2 → s.heap.get? c = some o → h'.get? c = some o) → (∃ o, h'.get? e = some o ∧ o.cls = .type "StopIteration") → E (.ref e) { s with heap := h' }) :
    wpAny (model prog w) A (Builtin.«zip.__next__» ⟨[.ref zz], []⟩) Q E s := by
  show wpAny _ _ (field (.ref zz) 2 >>= _) _ _ _
  refine wpAny_bind (wpAny_field gz rfl (x := .bool false) rfl ?_)
  show wpAny _ _ (field (.ref zz) 3 >>= _) _ _ _
  refine wpAny_bind (wpAny_field gz rfl (x := .ref ti) rfl ?_)
  refine wpAny_bind (wpAny_seqItems gi rfl ?_)
  show wpAny _ _ (Builtin.SmallTypes.ownedTupleIsFree (.ref zz) >>= _) _ _ _
  refine wpAny_bind (wpAny_tupleHeld_zip gz gT fun b₁ gz₁ sb₁ => ?_)
  simp only [Bool.false_eq_true, if_false]
  refine wpAny_bind ?_
  rw [← Array.forIn_toList]
  simp only [List.forIn_cons, List.forIn_nil]
  refine wpAny_bind (wpAny_bind (wpAny_holding ?_))
  show wpAny _ _ (Builtin.SmallTypes.nextOf (.ref a1) >>= _) _ _ _
  cases e1 : us[m1]? with
  | none =>
    refine wpAny_bind (RZ.nextOf_tuple_end (s := { s with heap := b₁ }) hh (g1.extBut sb₁.extBut D.i1z) (p1.extBut sb₁.extBut D.l1z) e1 fun b₂ e sb₂ he => ?_)
    exact out b₂ e (fun c o c1 c2 _ q => sb₂ _ _ c2 (sb₁.extBut _ _ c1 q)) he
  | some u =>
    have e2 : vs[m2]? = none := by rcases en with q | q; rw [e1] at q; cases q; exact q
    refine wpAny_bind (RZ.nextOf_tuple_item (s := { s with heap := b₁ }) (g1.extBut sb₁.extBut D.i1z) (p1.extBut sb₁.extBut D.l1z) e1 fun b₂ g1₂ sb₂ => wpAny_pure ?_)
    refine wpAny_pure ?_
    refine wpAny_bind (wpAny_bind (wpAny_holding ?_))
    show wpAny _ _ (Builtin.SmallTypes.nextOf (.ref a2) >>= _) _ _ _
    refine wpAny_bind (RZ.nextOf_tuple_end (s := { s with heap := b₂ }) hh ((g2.extBut sb₁.extBut D.i2z).extBut sb₂.extBut D.i12.symm) ((p2.extBut sb₁.extBut D.l2z).extBut sb₂.extBut D.l2i1) e2 fun b₃ e sb₃ he => ?_)
    exact out b₃ e (fun c o c1 c2 c3 q => sb₃ _ _ c3 (sb₂.extBut _ _ c2 (sb₁.extBut _ _ c1 q))) he
theorem zt_nextI {zz ti to T a1 a2 t1 t2 : Addr} {fl : Bool} {ob : Obj} {m1 m2 : Nat} {us vs : Array Value} {u v : Value} {Q : Option Value → Shared → Prop} (D : ZipApart zz ti to a1 a2 t1 t2)
    (gz : IsZipHeld s.heap zz ti to T fl) (gT : s.heap.get? T = some ob) (gi : IsPair s.heap ti (.ref a1) (.ref a2))
    (g1 : s.heap.IsTupleIter a1 t1 m1) (g2 : s.heap.IsTupleIter a2 t2 m2) (p1 : s.heap.IsTuple t1 us) (p2 : s.heap.IsTuple t2 vs) (e1 : us[m1]? = some u) (e2 : vs[m2]? = some v)
    (fin : ∀ h', IsZipHeld h' zz ti to T true → h'.IsTupleIter a1 t1 (m1 + 1) → h'.IsTupleIter a2 t2 (m2 + 1) → IsPair h' s.heap.objs.size u v → h'.objs.size = s.heap.objs.size + 1 →
      (∀ c o, c ≠ zz → c ≠ a1 → c ≠ a2 → s.heap.get? c = some o → h'.get? c = some o) → Q (some (.ref s.heap.objs.size)) { s with heap := h' }) :
    wpAny (model prog w) A (pyNext (.ref zz)) Q E s := by
  have ty : s.TypeIs (.ref zz) "zip" := ⟨_, gz, rfl⟩
  unfold pyNext
  exact wpAny_bind (wpAny_attempt (wpAny_callSpecial?_slot (name := Str.ofString "__next__") ty F.slot_zip_next (wpAny_call_entry F.slot_zip_next ty F.entry_zip_next (zt_item D gz gT gi g1 g2 p1 p2 e1 e2 fun h' q1 q2 q3 q4 q5 q6 => wpAny_pure (fin h' q1 q2 q3 q4 q5 q6)) (F.args_zip_next_1 _))))
theorem zt_nextE {zz ti to T a1 a2 t1 t2 : Addr} {fl : Bool} {ob : Obj} {m1 m2 : Nat} {us vs : Array Value} {Q : Option Value → Shared → Prop} (hh : A.handled = none) (D : ZipApart zz ti to a1 a2 t1 t2)
    (gz : IsZipHeld s.heap zz ti to T fl) (gT : s.heap.get? T = some ob) (gi : IsPair s.heap ti (.ref a1) (.ref a2))
    (g1 : s.heap.IsTupleIter a1 t1 m1) (g2 : s.heap.IsTupleIter a2 t2 m2) (p1 : s.heap.IsTuple t1 us) (p2 : s.heap.IsTuple t2 vs) (en : us[m1]? = none ∨ vs[m2]? = none)
    (fin : ∀ h', (∀ c o, c ≠ zz → c ≠ a1 → c ≠ a2 → s.heap.get? c = some o → h'.get? c = some o) → Q none { s with heap := h' }) : wpAny (model prog w) A (pyNext (.ref zz)) Q E s := by
  have ty : s.TypeIs (.ref zz) "zip" := ⟨_, gz, rfl⟩
  unfold pyNext
  refine wpAny_bind (wpAny_attempt (wpAny_callSpecial?_slot (name := Str.ofString "__next__") ty F.slot_zip_next (wpAny_call_entry F.slot_zip_next ty F.entry_zip_next (zt_end hh D gz gT gi g1 g2 p1 p2 en fun h' e kk he => ?_) (F.args_zip_next_1 _))))
  obtain ⟨o, ho, hc⟩ := he
  exact wpAny_bind (wpAny_isInstance (T := "StopIteration") (b := true) ⟨o, ho, hc⟩ isSubtype_stop (wpAny_pure (fin _ kk)))
end
def ZtOk (zz ti to a1 a2 t1 t2 : Addr) (us vs : Array Value) (h : Heap) : Prop :=
  IsZip h zz ti to .none ∧ IsPair h ti (.ref a1) (.ref a2) ∧ (∃ p q, IsPair h to p q) ∧ h.IsTupleIter a1 t1 0 ∧ h.IsTupleIter a2 t2 0 ∧ h.IsTuple t1 us ∧ h.IsTuple t2 vs
theorem isTuple_at {h h' : Heap} {a : Addr} {us : Array Value} (x : h.IsTuple a us) (e : ∀ o, h.get? a = some o → h'.get? a = some o) : h'.IsTuple a us := let ⟨o, ho, r⟩ := x; ⟨o, e o ho, r⟩
theorem pair_zt {prog : Program} {w : World} (zz ti to a1 a2 t1 t2 : Addr) (D : ZipApart zz ti to a1 a2 t1 t2) (us vs : Array Value) :
    PairArg prog w "zip" zz [zz, ti, to, a1, a2, t1, t2] [zz, to, a1, a2] (min us.size vs.size) (fun i k v => us[i]? = some k ∧ vs[i]? = some v) (ZtOk zz ti to a1 a2 t1 t2 us vs) where
  type := fun s ok => ⟨_, ok.1, rfl⟩
  notDict := by decide
  keep := fun h h' ok kk => by
    obtain ⟨gz, gi, ⟨p, q, go⟩, g1, g2, p1, p2⟩ := ok
    exact ⟨kk _ _ gz, kk _ _ gi, ⟨p, q, kk _ _ go⟩, g1.at fun o e => kk _ o e, g2.at fun o e => kk _ o e, isTuple_at p1 fun o e => kk _ o e, isTuple_at p2 fun o e => kk _ o e⟩
  there := fun h ok b hb => by
    obtain ⟨gz, gi, ⟨p, q, go⟩, ⟨o1, g1, _⟩, ⟨o2, g2, _⟩, ⟨o3, p1, _⟩, ⟨o4, p2, _⟩⟩ := ok
    have hb' : b = zz ∨ b = ti ∨ b = to ∨ b = a1 ∨ b = a2 ∨ b = t1 ∨ b = t2 := by simpa using hb
    rcases hb' with rfl | rfl | rfl | rfl | rfl | rfl | rfl
    · exact ⟨_, gz⟩
    · exact ⟨_, gi⟩
    · exact ⟨_, go⟩
    · exact ⟨_, g1⟩
    · exact ⟨_, g2⟩
    · exact ⟨_, p1⟩
    · exact ⟨_, p2⟩
  sub := fun b hb => by
    have hb' : b = zz ∨ b = to ∨ b = a1 ∨ b = a2 := by simpa using hb
    rcases hb' with rfl | rfl | rfl | rfl <;> simp
  noKeys := fun A s Q E hA ok q => getAttrOr_miss_zip ok.1 rfl rfl rfl zip_no_keys (by decide +kernel) hA q
  iter := fun A s d Q E hA ok hd hdf q => by
    obtain ⟨gz, gi, ⟨p0, q0, go⟩, g1, g2, p1, p2⟩ := ok
    simp only [List.mem_cons, List.not_mem_nil, or_false, not_or] at hdf
    obtain ⟨dz, dti, dto, da1, da2, dt1, dt2⟩ := hdf
    refine wpAny_pyIter_zip gz (q zz [zz, to, a1, a2] (fun i h => IsPair h ti (.ref a1) (.ref a2) ∧ h.IsTupleIter a1 t1 i ∧ h.IsTupleIter a2 t2 i ∧ h.IsTuple t1 us ∧ h.IsTuple t2 vs ∧
      ((IsZip h zz ti to .none ∧ ∃ a b, IsPair h to a b) ∨ ∃ T f oT, IsZipHeld h zz ti to T f ∧ h.get? T = some oT ∧ T ≠ zz ∧ T ≠ a1 ∧ T ≠ a2 ∧ T ≠ d)) s.heap s.toks ?_ ⟨gi, g1, g2, p1, p2, .inl ⟨gz, p0, q0, go⟩⟩ (fun _ _ e => e) fun b hb => .inl hb)
    exact {
      off := fun hm => by
        have hm' : d = zz ∨ d = to ∨ d = a1 ∨ d = a2 := by simpa using hm
        rcases hm' with e | e | e | e
        · exact dz e
        · exact dto e
        · exact da1 e
        · exact da2 e
      frame := fun i h₁ h₂ st kk => by
        obtain ⟨gi, g1, g2, p1, p2, zc⟩ := st
        refine ⟨kk _ _ (Ne.symm dti) gi, g1.at fun o e => kk _ o (Ne.symm da1) e, g2.at fun o e => kk _ o (Ne.symm da2) e, isTuple_at p1 fun o e => kk _ o (Ne.symm dt1) e, isTuple_at p2 fun o e => kk _ o (Ne.symm dt2) e, ?_⟩
        rcases zc with ⟨gz, a, b, go⟩ | ⟨T, f, oT, gz, gT, r1, r2, r3, r4⟩
        · exact .inl ⟨kk _ _ (Ne.symm dz) gz, a, b, kk _ _ (Ne.symm dto) go⟩
        · exact .inr ⟨T, f, oT, kk _ _ (Ne.symm dz) gz, kk _ _ r4 gT, r1, r2, r3, r4⟩
      item := fun i s₁ Q₁ E₁ hi st hds fin => by
        obtain ⟨gi, g1, g2, p1, p2, zc⟩ := st
        have lx : i < us.size := Nat.lt_of_lt_of_le hi (Nat.min_le_left ..)
        have ly : i < vs.size := Nat.lt_of_lt_of_le hi (Nat.min_le_right ..)
        have ex := Array.getElem?_eq_getElem lx
        have ey := Array.getElem?_eq_getElem ly
        have lt : ∀ {c o}, s₁.heap.get? c = some o → s₁.heap.objs.size ≠ c := fun e => Nat.ne_of_gt (Heap.lt_size e)
        have n1 : s₁.heap.objs.size ≠ a1 := let ⟨_, e, _⟩ := g1; lt e
        have n2 : s₁.heap.objs.size ≠ a2 := let ⟨_, e, _⟩ := g2; lt e
        rcases zc with ⟨gz, a, b, go⟩ | ⟨T, f, oT, gz, gT, r1, r2, r3, r4⟩
        · refine RZ.pyNext_zipT_item D gz gi go g1 g2 p1 p2 ex ey fun h' q1 q2 q3 q4 q5 q6 kk => ?_
          refine fin s₁.heap.objs.size _ _ h' s₁.toks ⟨ex, ey⟩ (.inl ⟨_, q5, rfl, _, rfl⟩) ⟨kk _ _ D.TIz D.TITO D.TIi1 D.TIi2 gi, q3, q4, isTuple_at p1 fun o e => kk _ o D.l1z D.l1TO D.l1i1 D.l1i2 e, isTuple_at p2 fun o e => kk _ o D.l2z D.l2TO D.l2i1 D.l2i2 e, .inr ⟨s₁.heap.objs.size, false, _, q1, q5, lt gz, n1, n2, Nat.ne_of_gt hds⟩⟩ fun c o hc e => ?_
          exact kk c o (fun x => hc (by simp [x])) (fun x => hc (by simp [x])) (fun x => hc (by simp [x])) (fun x => hc (by simp [x])) e
        · refine zt_nextI D gz gT gi g1 g2 p1 p2 ex ey fun h' q1 q3 q4 q5 q6 kk => ?_
          refine fin s₁.heap.objs.size _ _ h' s₁.toks ⟨ex, ey⟩ (.inl ⟨_, q5, rfl, _, rfl⟩) ⟨kk _ _ D.TIz D.TIi1 D.TIi2 gi, q3, q4, isTuple_at p1 fun o e => kk _ o D.l1z D.l1i1 D.l1i2 e, isTuple_at p2 fun o e => kk _ o D.l2z D.l2i1 D.l2i2 e, .inr ⟨T, true, oT, q1, kk _ _ r1 r2 r3 gT, r1, r2, r3, r4⟩⟩ fun c o hc e => ?_
          exact kk c o (fun x => hc (by simp [x])) (fun x => hc (by simp [x])) (fun x => hc (by simp [x])) e
      done := fun s₁ Q₁ E₁ st fin => by
        obtain ⟨gi, g1, g2, p1, p2, zc⟩ := st
        have en : us[min us.size vs.size]? = none ∨ vs[min us.size vs.size]? = none := by
          rcases Nat.le_total us.size vs.size with q | q
          · exact .inl (Array.getElem?_eq_none (by rw [Nat.min_eq_left q]; exact Nat.le_refl _))
          · exact .inr (Array.getElem?_eq_none (by rw [Nat.min_eq_right q]; exact Nat.le_refl _))
        rcases zc with ⟨gz, a, b, go⟩ | ⟨T, f, oT, gz, gT, r1, r2, r3, r4⟩
        · exact RZ.pyNext_zipT_end hA D gz gi go g1 g2 p1 p2 en fun h' kk => fin h' s₁.toks fun c o hc e => kk c o (fun x => hc (by simp [x])) (fun x => hc (by simp [x])) (fun x => hc (by simp [x])) (fun x => hc (by simp [x])) e
        · exact zt_nextE hA D gz gT gi g1 g2 p1 p2 en fun h' kk => fin h' s₁.toks fun c o hc e => kk c o (fun x => hc (by simp [x])) (fun x => hc (by simp [x])) (fun x => hc (by simp [x])) e }
end VI
namespace VI
open PySem L2
section
variable {X : Cx} {K : PySem.W.Frag} {ct : Nat → Addr}
/-! ### zip of two -/
theorem zip_get {l m : List D} {i : Nat} {x y : D} (h1 : l[i]? = some x) (h2 : m[i]? = some y) : ((l.zip m).map fun p => D.tup [p.1, p.2])[i]? = some (.tup [x, y]) := by
  rw [List.getElem?_map, (List.getElem?_zip_eq_some (z := (x, y))).mpr ⟨h1, h2⟩] <;> rfl
theorem walk_zipG {J : L2.It} {F : Hp} {xs ys : List V} {l m : List D} (r1 : RpA K ct F xs l) (r2 : RpA K ct F ys m)
    (go : ∀ i H, Ex F H → i < min xs.length ys.length → J.go i H) (st : ∀ H, Ex F H → J.stop (min xs.length ys.length) H)
    (yl : ∀ i H v H', Ex F H → J.yld i H v H' → ∃ T x y, v = .ref T ∧ H T = none ∧ H' = upd H T (.tup [x, y]) ∧ xs[i]? = some x ∧ ys[i]? = some y) :
    Walk J ((l.zip m).map fun p => D.tup [p.1, p.2]).length (Ex F) (Yl K ct true F ((l.zip m).map fun p => D.tup [p.1, p.2])) := by
  have hl : ((l.zip m).map fun p => D.tup [p.1, p.2]).length = min xs.length ys.length := by rw [List.length_map, List.length_zip, r1.length, r2.length]
  rw [hl]
  refine ⟨fun i H hi e => go i H e hi, fun H e => st H e, fun i H v H' hi e y => ?_⟩
  obtain ⟨T, x, y, rfl, hT, rfl, h1, h2⟩ := yl i H v H' e y
  obtain ⟨d1, g1, p1⟩ := r1.get' h1
  obtain ⟨d2, g2, p2⟩ := r2.get' h2
  exact ⟨.tup [d1, d2], zip_get g1 g2, .inr ⟨T, _, hT, rfl, fun F2 e2 n2 => .inr ⟨rfl, T, _, _, rfl, rfl, .inl (.inl upd_same), .cons (p1.mono (e2.trans (Ex.new n2))) (.cons (p2.mono (e2.trans (Ex.new n2))) .nil)⟩⟩⟩
theorem two_of {vs : List V} {F : Hp} {x y : D} (r : RpA K ct F vs [x, y]) : ∃ v w, vs = [v, w] ∧ Rp K ct F v x ∧ Rp K ct F w y := by
  cases r with
  | cons h r =>
    cases r with
    | cons h2 r => cases r; exact ⟨_, _, rfl, h, h2⟩
theorem pi_zipV {e e2 : Expr} {m m2 : Env' → Option (R × Env')} {p pos tpos : Pos} {elts : List Expr} {kk : Nat} (hg : Gl X "zip") (hm : X.mg "zip" = none) (h : PE X e (tV X.K ct m)) (h2 : PE X e2 (tV X.K ct m2)) (hs : isStar e = false) (hs2 : isStar e2 = false) :
    PI X (.Tuple elts kk tpos) (.Call (.Name "zip" p) [e, e2] [] pos) (tI X.K ct true (zipM (consV m (consV m2 nilD)))) := by
  refine ⟨fun pins s σ H R I w => ?_⟩
  obtain ⟨z, F, env, rel, xs, env', eq, k⟩ := w
  have ha : PA X [e, e2] (tA X.K ct (consV m (consV m2 nilD))) := pa_consV h (pa_consV h2 pa_nilV (star_of hs2)) (star_of hs)
  unfold zipM at eq
  split at eq
  · rename_i x y env1 q
    refine (RZ.pi_zipA hg hm ha (star_of hs) (nostar_any (by simp [hs2]))).run pins s σ H R I ⟨z, F, env, rel, _, _, q, fun vs F' H' ex rl rp => ?_⟩
    obtain ⟨v, u, rfl, p1, p2⟩ := two_of rp
    cases x with
    | tup l =>
      cases y with
      | tup l2 =>
        cases eq
        cases p1 with
        | @tup a ys _ t1 r1 =>
          cases p2 with
          | @tup b zs _ t2 r2 =>
            refine ⟨a, b, ys, zs, rfl, .inr ⟨(rl.r.sub.tpT t1).sq, (rl.r.sub.tpT t2).sq, k _ F' H' ex rl (walk_zipG r1 r2 (fun i H e hi => ?_) (fun H e => ?_) fun i H v H' e y => ?_)⟩⟩
            · have h1 : i < ys.length := by omega
              have h2 : i < zs.length := by omega
              exact ⟨ys, zs, ys[i], zs[i], (e.tpT t1).sq, (e.tpT t2).sq, by simp [h1], by simp [h2]⟩
            · exact ⟨ys, zs, (e.tpT t1).sq, (e.tpT t2).sq, by omega⟩
            · obtain ⟨T, x, y, rfl, hT, rfl, f1, f2⟩ := y
              exact ⟨T, x, y, rfl, hT, rfl, f1 _ (e.tpT t1).sq, f2 _ (e.tpT t2).sq⟩
      | _ => cases eq
    | lst l =>
      cases y with
      | lst l2 =>
        cases eq
        cases p1 with
        | @lst a ys _ t1 r1 =>
          cases p2 with
          | @lst b zs _ t2 r2 =>
            refine ⟨a, b, ys, zs, rfl, .inl ⟨SqL.of (rl.r.sub _ _ t1), SqL.of (rl.r.sub _ _ t2), k _ F' H' ex rl (walk_zipG r1 r2 (fun i H e hi => ?_) (fun H e => ?_) fun i H v H' e y => ?_)⟩⟩
            · have h1 : i < ys.length := by omega
              have h2 : i < zs.length := by omega
              exact ⟨ys, zs, ys[i], zs[i], SqL.of (e _ _ t1), SqL.of (e _ _ t2), by simp [h1], by simp [h2]⟩
            · exact ⟨ys, zs, SqL.of (e _ _ t1), SqL.of (e _ _ t2), by omega⟩
            · obtain ⟨T, x, y, rfl, hT, rfl, f1, f2⟩ := y
              exact ⟨T, x, y, rfl, hT, rfl, f1 _ (SqL.of (e _ _ t1)), f2 _ (SqL.of (e _ _ t2))⟩
      | _ => cases eq
    | _ => cases eq
  · cases eq
/-! ### dict(zip(..)) -/
theorem keyIs_str (x : Str) (t : Tok) : (mixKind X.prog X.w).is (Sum.inr x) (.str x t) = true := by simp [mixKind, keyIs, Value.isStrOf]
theorem merge_nodup : ∀ (more kvs : List (Key × V)), (kvs ++ more).map (·.1) |>.Nodup → mergeK kvs more = kvs ++ more
  | [], kvs, _ => by simp [mergeK]
  | (k, v) :: more, kvs, h => by
    have hn : (kvs.any fun kv => decide (kv.1 = k)) = false := by
      rw [List.any_eq_false]
      intro p hp
      simp only [decide_eq_true_eq]
      intro e
      rw [List.map_append, List.nodup_append] at h
      exact h.2.2 p.1 (List.mem_map_of_mem hp) k (by simp) e
    have e1 : putK kvs k v = kvs ++ [(k, v)] := by unfold putK; rw [hn]; rfl
    show mergeK (putK kvs k v) more = _
    rw [e1, merge_nodup more (kvs ++ [(k, v)]) (by simpa using h)]
    simp
theorem zipK : ∀ {F : Hp} {ys : List Str} {ws : List V} {m : List D}, RpA K ct F ws m → RpK K ct F ((ys.zip ws).map fun p => ((Sum.inr p.1 : Key), p.2)) ((ys.zip m).map fun p => (D.str p.1, p.2))
  | _, [], _, _, _ => .nil
  | _, _ :: _, _, _, .nil => .nil
  | _, y :: ys, _, _, .cons h r => .cons (k := Sum.inr y) h (zipK r)
theorem zipKV {ys : List Str} : ∀ {ws : List V} {us : List Value}, Vals ws us → KV ((ys.zip ws).map fun p => ((Sum.inr p.1 : Key), p.2)) ((ys.zip us).map fun p => ((Sum.inr p.1 : Key), p.2)) := by
  induction ys with
  | nil => intro ws us _; exact .nil
  | cons y ys ih =>
    intro ws us r
    cases r with
    | nil => exact .nil
    | cons h r => exact .cons ⟨rfl, h⟩ (ih r)
theorem zip_keys {α : Type} : ∀ (ys : List Str) (ws : List α), ∃ n, ((ys.zip ws).map fun p => ((Sum.inr p.1 : Key), p.2)).map (·.1) = (ys.take n).map Sum.inr
  | [], _ => ⟨0, rfl⟩
  | _ :: _, [] => ⟨0, rfl⟩
  | y :: ys, w :: ws => by
    obtain ⟨n, e⟩ := zip_keys ys ws
    refine ⟨n + 1, ?_⟩
    rw [List.zip_cons_cons, List.map_cons, List.map_cons, e]
    rfl
theorem strs_vals : ∀ {ys : List Str} {us : List Value}, Vals (ys.map V.str) us → ∀ (i : Nat) (k : Value), us[i]? = some k → ∃ y t, ys[i]? = some y ∧ k = .str y t := by
  intro ys
  induction ys with
  | nil => intro us r i k e; cases r; simp at e
  | cons y ys ih =>
    intro us r i k e
    cases r with
    | cons h r =>
      cases i with
      | zero =>
        simp at e
        obtain ⟨t, rfl⟩ := (show ∃ t, _ = Value.str y t from h)
        exact ⟨y, t, rfl, e.symm⟩
      | succ i =>
        obtain ⟨y', t, h1, h2⟩ := ih r i k (by simpa using e)
        exact ⟨y', t, by simpa using h1, h2⟩
theorem pe_dzV {e e2 : Expr} {m m2 : Env' → Option (R × Env')} {p p2 pos q : Pos} (hc : X.calm = true) (hg : Gl X "dict") (hm : X.mg "dict" = none) (hg2 : Gl X "zip") (hm2 : X.mg "zip" = none) (h : PE X e (tV X.K ct m)) (h2 : PE X e2 (tV X.K ct m2)) (hs : isStar e = false) (hs2 : isStar e2 = false) :
    PE X (.Call (.Name "dict" p) [.Call (.Name "zip" p2) [e, e2] [] q] [] pos) (tV X.K ct (dzM (consV m (consV m2 nilD)))) := by
  refine ⟨fun pins s σ H Q I w => ?_⟩
  obtain ⟨z, F, env, rel, r, env', eq, k⟩ := w
  have ha : PA X [e, e2] (tA X.K ct (consV m (consV m2 nilD))) := pa_consV h (pa_consV h2 pa_nilV (star_of hs2)) (star_of hs)
  unfold dzM at eq
  split at eq
  · rename_i l l2 env1 q0
    split at eq
    · rename_i ys ey
      split at eq
      · rename_i hnd
        cases eq
        refine PyProof.Rows.Call_ (ld_blt I hg hm PyProof.Rows.boot_dict ?_)
        refine PyProof.Rows.callWith_type1 (PyProof.Rows.args_cons ?_ rfl) rfl rfl
        refine PyProof.Rows.Call_ (ld_blt I hg2 hm2 PyProof.Rows.boot_zip (PyProof.Rows.callWith_type1 (thn (ha.run q pins s σ H (fun vs H1 => ∃ a b ws F', vs = [.ref a, .ref b] ∧ TpT F' a (ys.map V.str) ∧ TpT F' b ws ∧ RpA X.K ct F' ws l2 ∧ Ex F F' ∧ RelB X.K ct z F' H1 σ env') I ⟨z, F, env, rel, _, _, q0, fun vs F' H' ex rl rp => ?_⟩) fun us s1 ⟨vs, H1, I1, r1, q1⟩ => ?_) (star_of hs) (nostar_any (by simp [hs2]))))
        · obtain ⟨v, u, rfl, p1, p2⟩ := two_of rp
          cases p1 with
          | @tup a xs _ t1 r1 =>
            cases p2 with
            | @tup b ws _ t2 r2 =>
              have e1 := r1.txts ey
              subst e1
              exact ⟨a, b, ws, F', rfl, t1, t2, r2, ex, rl⟩
        · obtain ⟨a, b, ws, F', rfl, t1, t2, r2, ex, rl⟩ := q1
          cases r1 with
          | cons ra rr =>
            cases rr with
            | cons rb rr =>
              cases rr
              cases ra
              cases rb
              obtain ⟨its, rv, p1, hz1⟩ := I1.tuple (rl.r.sub.tpT t1).sq
              obtain ⟨its2, rv2, p2, hz2⟩ := I1.tuple (rl.r.sub.tpT t2).sq
              obtain ⟨o1, ho1, _⟩ := id p1
              obtain ⟨o2, ho2, _⟩ := id p2
              refine RZ.call_zipT (show s1.heap.IsTuple a its.toArray from p1) (show s1.heap.IsTuple b its2.toArray from p2) fun h' hz hTI hTO g1 g2 hsz hk => ?_
              refine PyProof.Rows.args_nil ?_
              have I2 : L2.Inv X pins σ H1 { s1 with heap := h' } := I1.kept (t' := s1.toks) hk
              have ok : ZtOk (s1.heap.objs.size + 4) (s1.heap.objs.size + 2) (s1.heap.objs.size + 3) s1.heap.objs.size (s1.heap.objs.size + 1) a b its.toArray its2.toArray h' :=
                ⟨hz, hTI, ⟨_, _, hTO⟩, g1, g2, isTuple_at p1 fun o e => hk _ o e, isTuple_at p2 fun o e => hk _ o e⟩
              have len1 : its.length = ys.length := by rw [← rv.length, List.length_map]
              have len2 : its2.length = ws.length := rv2.length.symm
              refine PySem.call_dict_pairs (knd := mixKind X.prog X.w) (kvs := (ys.zip its2).map fun p => ((Sum.inr p.1 : Key), p.2)) (s := { s1 with heap := h' }) (pair_zt _ _ _ _ _ _ _ (PySem.W.ktu_apart s1.heap.objs.size a b (Heap.lt_size ho1) (Heap.lt_size ho2)) its.toArray its2.toArray) (I.ok.hd hc) ok ⟨?_, fun i key v hr => ?_⟩ ?_ fun h'' tk hd' hkeep => ?_
              · rw [List.length_map, List.length_zip]; simp only [List.size_toArray]; rw [len1]
              · obtain ⟨e1, e2⟩ := hr
                have e1' : its[i]? = some key := by simpa using e1
                have e2' : its2[i]? = some v := by simpa using e2
                obtain ⟨y, t, hy, rfl⟩ := strs_vals rv i key e1'
                refine ⟨Sum.inr y, ?_, keyIs_str y t⟩
                rw [List.getElem?_map, (List.getElem?_zip_eq_some (z := (y, v))).mpr ⟨hy, e2'⟩] <;> rfl
              · simp only [List.size_toArray]
                have := hnd.2
                omega
              · have fresh : ∀ c, s1.heap.objs.size ≤ c → FpOk X pins H1 c := fun c hle => I1.fpOk hle (I1.hok.fresh hle)
                have big : s1.heap.objs.size ≤ h'.objs.size := by rw [hsz]; omega
                have nT : H1 h'.objs.size = none := I1.hok.fresh big
                have hm : (h'.objs.size == sysModules) = false := beq_eq_false_iff_ne.mpr (Nat.ne_of_gt I2.big)
                have nd : (([] : List (Key × V)) ++ ((ys.zip ws).map fun p => ((Sum.inr p.1 : Key), p.2))).map (·.1) |>.Nodup := by
                  obtain ⟨n, en⟩ := zip_keys ys ws
                  rw [List.nil_append, en]
                  exact List.pairwise_map.mpr ((List.Nodup.sublist (List.take_sublist n ys) hnd.1).imp fun hne e => hne (Sum.inr.inj e))
                have em := merge_nodup _ _ nd
                rw [List.nil_append] at em
                have hlen : ((ys.zip ws).map fun p => ((Sum.inr p.1 : Key), p.2)).length ≤ sizeLine := by
                  rw [List.length_map, List.length_zip]; have := hnd.2; omega
                have kv : KV (mergeK [] ((ys.zip ws).map fun p => ((Sum.inr p.1 : Key), p.2))) (merged [] ((ys.zip its2).map fun p => ((Sum.inr p.1 : Key), p.2))) := KV.merge (zipKV rv2) .nil
                rw [em] at kv
                have I3 : L2.Inv X pins σ (upd H1 h'.objs.size (.dK ((ys.zip ws).map fun p => ((Sum.inr p.1 : Key), p.2)))) { s1 with heap := h'', toks := tk } :=
                  I2.turnedNew (t' := tk) (ch := [s1.heap.objs.size + 4, s1.heap.objs.size + 3, s1.heap.objs.size, s1.heap.objs.size + 1]) (fun b o hb e => hkeep b o hb e) (fun b hb => by
                    have e' : b = s1.heap.objs.size + 4 ∨ b = s1.heap.objs.size + 3 ∨ b = s1.heap.objs.size ∨ b = s1.heap.objs.size + 1 := by simpa using hb
                    rcases e' with q | q | q | q <;> (rw [q]; first | exact fresh _ (Nat.le_add_right _ _) | exact fresh _ (Nat.le_refl _))) (Nat.le_refl _) (show ObjOk X.prog X.w _ _ _ (.dK _) from ⟨hlen, hm, _, kv, hd'⟩)
                exact ⟨.ref h'.objs.size, _, I3, rfl, k _ F' _ ex (rl.heap (Ex.new nT)) ⟨_, rfl, noneF rl.r.sub nT, ⟨_, upd_same, zipK r2⟩, rl.noFoot nT, rl.noZ nT⟩⟩
      · cases eq
    · cases eq
  · cases eq
end
end VI
namespace VI
open PySem L2
/-! ### isinstance -/
def tyNs : List String := ["str", "tuple", "int", "bool"]
def btNs : List String := ["NoneType", "bool", "int", "str", "tuple", "list", "dict"]
structure KitF (K : PySem.W.Frag) (ct : Nat → Addr) (n : Nat) : Prop where
  own : ∀ c, c < n → Cls K (ct c) ∧ PySem.W.findIn K (.ref (ct c)) "__class__" = some (some (.builtin "object.__class__")) ∧ PySem.W.specialIn K (.builtin "object.__class__") "__get__" = some (some (.builtin "getset_descriptor.__get__")) ∧
    PySem.W.takesIn K (.builtin "object.__class__") = some true ∧ PySem.W.mroIn K (ct c) (.type "object") = some true
  ty : ∀ c, c < n → ∀ T ∈ tyNs, PySem.W.kitOne K (.ref (ct c)) (.type T) = some false
  cls : ∀ c, c < n → ∀ k, k < n → PySem.W.kitOne K (.ref (ct c)) (.ref (ct k)) = some (c == k)
  bt : ∀ k, k < n → ∀ T ∈ btNs, PySem.W.kitOne K (.type T) (.ref (ct k)) = some false
def isNm : Bi → String
  | .isStr => "str"
  | .isTuple => "tuple"
  | .isInt => "int"
  | .isBool => "bool"
  | _ => ""
def isTyB : Bi → Bool
  | .isStr => true
  | .isTuple => true
  | .isInt => true
  | .isBool => true
  | _ => false
section
variable {X : Cx} {K : PySem.W.Frag} {ct : Nat → Addr} {n : Nat}
def dTy : D → String
  | .non => "NoneType"
  | .bl _ => "bool"
  | .int _ => "int"
  | .str _ => "str"
  | .tup _ => "tuple"
  | .lst _ => "list"
  | .scr _ => "list"
  | .dic _ => "dict"
  | .ins _ _ => ""
theorem dTy_bt {d : D} (h : ∀ c l, d ≠ .ins c l) : dTy d ∈ btNs := by
  cases d <;> first | (exact (h _ _ rfl).elim) | (simp [dTy, btNs])
theorem tyx_of {F H : Hp} {v : V} {d : D} (hd : ∀ c l, d ≠ .ins c l) (h : OpAt K ct F H v d) (s : Ex F H) : TyX K H v (.type (dTy d)) := by
  cases d with
  | non => rw [h.non]; exact .base .non
  | bl b => rw [h.bl]; exact .base (.bl b)
  | int i => rw [h.int]; exact .base (.int i)
  | str x => rw [h.str]; exact .base (.str x)
  | tup l =>
    have := h.tupR
    cases this with
    | tup t r => obtain ⟨o, e, _⟩ := t; exact .fTuple (s _ _ e)
  | lst l => obtain ⟨a, xs, rfl, e, _⟩ := h.lst s; exact .base (.lst e)
  | dic l => obtain ⟨a, kvs, rfl, e, _⟩ := h.dic s; exact .base (.dK e)
  | ins c l => exact (hd c l rfl).elim
  | scr l =>
    obtain ⟨a, rfl, q⟩ := h.scr s
    rcases q with (q | ⟨o, q⟩) | ⟨o, its, m, q, hc, _⟩
    · exact .base (.lst q)
    · exact .base (.frz q)
    · exact .kList q hc
def clsV (ct : Nat → Addr) : Bi → V
  | .isCls c => .ref (ct c)
  | b => .ty (isNm b)
def clsU (ct : Nat → Addr) : Bi → Value
  | .isCls c => .ref (ct c)
  | b => .type (isNm b)
theorem isi_ok {F H : Hp} {v : V} {d : D} {b : Bi} {r : Bool} (Kf : KitF K ct n) (h : OpAt K ct F H v d) (s : Ex F H) (e : isI n b d = some r) : ∃ t, ClsV (clsV ct b) (clsU ct b) ∧ TyX K H v t ∧ PySem.W.kitOne K t (clsU ct b) = some r := by
  have cv : ClsV (clsV ct b) (clsU ct b) := by cases b <;> first | exact .own _ | exact .ty _
  cases d with
  | ins c l =>
    have key : c < n → PySem.W.kitOne K (.ref (ct c)) (clsU ct b) = some r → ∃ t, ClsV (clsV ct b) (clsU ct b) ∧ TyX K H v t ∧ PySem.W.kitOne K t (clsU ct b) = some r := fun hc q0 => by
      obtain ⟨k1, k2, k3, k4, k5⟩ := Kf.own c hc
      obtain ⟨a, dx, fs, rfl, q, _⟩ := h.ins s
      exact ⟨.ref (ct c), cv, .base (.ins q k1 k2 k3 k4 k5), q0⟩
    unfold isI at e
    cases b with
    | isCls k =>
      simp only at e
      split at e
      · rename_i hk
        cases e
        exact key hk.1 (Kf.cls c hk.1 k hk.2)
      · cases e
    | isStr =>
      simp only at e
      split at e
      · rename_i hc; cases e; exact key hc (Kf.ty c hc _ (by decide))
      · cases e
    | isTuple =>
      simp only at e
      split at e
      · rename_i hc; cases e; exact key hc (Kf.ty c hc _ (by decide))
      · cases e
    | isInt =>
      simp only at e
      split at e
      · rename_i hc; cases e; exact key hc (Kf.ty c hc _ (by decide))
      · cases e
    | isBool =>
      simp only at e
      split at e
      · rename_i hc; cases e; exact key hc (Kf.ty c hc _ (by decide))
      · cases e
    | _ => cases e
  | _ =>
    refine ⟨_, cv, tyx_of (fun c l q => by cases q) h s, ?_⟩
    cases b with
    | isCls k =>
      unfold isI at e
      simp only at e
      split at e
      · rename_i hk
        cases e
        exact Kf.bt k hk _ (dTy_bt fun c l q => by cases q)
      · cases e
    | isStr => cases e; exact kit_ty (by simp only [dTy, tyD, isNm]; decide +kernel)
    | isTuple => cases e; exact kit_ty (by simp only [dTy, tyD, isNm]; decide +kernel)
    | isInt => cases e; exact kit_ty (by simp only [dTy, tyD, isNm]; decide +kernel)
    | isBool => cases e; exact kit_ty (by simp only [dTy, tyD, isNm]; decide +kernel)
    | _ => cases e
def tC1 (v : V) : TE := fun σ H Q => Q v H
theorem pe_isiV {e c : Expr} {m : Env' → Option (R × Env')} {b : Bi} {p pos : Pos} (Kf : KitF X.K ct n) (hg : Gl X "isinstance") (hm : X.mg "isinstance" = none) (h : PE X e (tV X.K ct m)) (hc : PE X c (tC (clsV ct b))) (hs : isStar e = false) (hs2 : isStar c = false) :
    PE X (.Call (.Name "isinstance" p) [e, c] [] pos) (tV X.K ct (isM n b m)) := by
  refine (pe_callB call_isi hg hm (by decide +kernel) (pa_cons h.vpz (pa_cons hc pa_nil (star_of hs2)) (star_of hs)) (by decide) (by decide) (star_of hs) (nostar_any (by simp [hs2]))).vimp fun σ H Q w => ?_
  obtain ⟨z, F, env, rel, r, env', eq, k⟩ := w
  unfold isM at eq
  split at eq
  · rename_i r0 env1 q
    split at eq
    · rename_i d q1
      cases q2 : isI n b d with
      | none => rw [q2] at eq; cases eq
      | some b1 =>
        rw [q2] at eq
        cases eq
        refine ⟨z, F, env, rel, r0, env', q, fun v F' H' ex rl res => ?_⟩
        obtain ⟨t, c1, c2, c3⟩ := isi_ok Kf (OpAt.of rl res q1) rl.r.sub q2
        exact ⟨v, clsV ct b, t, _, b1, rfl, c1, c2, c3, k _ F' H' ex rl (.bl _)⟩
    · cases eq
  · cases eq
/-! ### is True -/
theorem pe_isTV {a : Expr} {m : Env' → Option (R × Env')} {j : Nat} {p pos : Pos} (h : PE X a (tV X.K ct m)) : PE X (.Compare a [.Is] [.Constant (.bool true) j p] pos) (tV X.K ct (isTM m)) := by
  refine (pe_cmpR op_isBl h pe_bl (nomark _)).vimp fun σ H Q w => ?_
  obtain ⟨z, F, env, rel, r, env', eq, k⟩ := w
  unfold isTM at eq
  split at eq
  · rename_i b env1 q
    cases eq
    refine ⟨z, F, env, rel, _, _, q, fun v F' H' ex rl res => ?_⟩
    cases res
    refine ⟨b, true, rfl, rfl, ?_⟩
    have e : decide (b = true) = b := by cases b <;> rfl
    rw [e]
    exact k _ F' H' ex rl (.bl _)
  · cases eq
theorem pe_notTV {a : Expr} {m : Env' → Option (R × Env')} {j : Nat} {p pos : Pos} (h : PE X a (tV X.K ct m)) : PE X (.Compare a [.IsNot] [.Constant (.bool true) j p] pos) (tV X.K ct (notTM m)) := by
  refine (pe_cmpR op_notBl h pe_bl (nomark _)).vimp fun σ H Q w => ?_
  obtain ⟨z, F, env, rel, r, env', eq, k⟩ := w
  unfold notTM at eq
  split at eq
  · rename_i b env1 q
    cases eq
    refine ⟨z, F, env, rel, _, _, q, fun v F' H' ex rl res => ?_⟩
    cases res
    refine ⟨b, true, rfl, rfl, ?_⟩
    have e : (!decide (b = true)) = !b := by cases b <;> rfl
    rw [e]
    exact k _ F' H' ex rl (.bl _)
  · cases eq
theorem pt_isTV {a : Expr} {m : Env' → Option (R × Env')} {j : Nat} {p pos : Pos} (h : PE X a (tV X.K ct m)) : PT X (.Compare a [.Is] [.Constant (.bool true) j p] pos) (VI.tB X.K ct (boolM (isTM m))) := by
  refine (pt_cmpR op_isBl h pe_bl (nomark _)).vimp fun σ H Q w => ?_
  obtain ⟨z, F, env, rel, r, env', eq, k⟩ := w
  unfold boolM isTM at eq
  cases q : m env with
  | none => rw [q] at eq; cases eq
  | some pr =>
    obtain ⟨r0, env1⟩ := pr
    rw [q] at eq
    cases r0 with
    | dt d =>
      cases d with
      | bl b =>
        cases eq
        refine ⟨z, F, env, rel, _, _, q, fun v F' H' ex rl res => ?_⟩
        cases res
        refine ⟨r, true, rfl, rfl, _, ?_, k F' H' ex rl⟩
        cases r <;> rfl
      | _ => cases eq
    | _ => cases eq
theorem pt_notTV {a : Expr} {m : Env' → Option (R × Env')} {j : Nat} {p pos : Pos} (h : PE X a (tV X.K ct m)) : PT X (.Compare a [.IsNot] [.Constant (.bool true) j p] pos) (VI.tB X.K ct (boolM (notTM m))) := by
  refine (pt_cmpR op_notBl h pe_bl (nomark _)).vimp fun σ H Q w => ?_
  obtain ⟨z, F, env, rel, r, env', eq, k⟩ := w
  unfold boolM notTM at eq
  cases q : m env with
  | none => rw [q] at eq; cases eq
  | some pr =>
    obtain ⟨r0, env1⟩ := pr
    rw [q] at eq
    cases r0 with
    | dt d =>
      cases d with
      | bl b =>
        cases eq
        refine ⟨z, F, env, rel, _, _, q, fun v F' H' ex rl res => ?_⟩
        cases res
        refine ⟨b, true, rfl, rfl, _, ?_, k F' H' ex rl⟩
        cases b <;> rfl
      | _ => cases eq
    | _ => cases eq
/-! ### dict comprehensions -/
theorem t_dc {vs : List Nat} {t : Tg} {mi : Env' → Option (List D × Env')} {mc : Env' → Option (Bool × Env')} {mk me : Env' → Option (R × Env')} {Q : VK} {b0 : Bool} {σ : St} {H : Hp} (hb : b0 = true → isTu t = true) (ht : ∀ j ∈ tgIx t, j ∈ vs) (w : tV K ct (dcM vs t mi mc mk me) σ H Q) :
    tDc (tI K ct b0 mi) (gD K ct t) (VI.tB K ct mc) (tV K ct (frzM mk)) (tV K ct (frzM me)) vs σ H Q := by
  obtain ⟨z, F, env, rel, r, env', eq, k⟩ := w
  unfold dcM at eq
  cases q : mi env with
  | none => rw [q] at eq; cases eq
  | some p =>
    obtain ⟨xs, env1⟩ := p
    rw [q] at eq
    simp only at eq
    split at eq
    · rename_i hp
      cases q2 : dcL t vs mc mk me xs [] env1 with
      | none => rw [q2] at eq; cases eq
      | some p2 =>
        obtain ⟨ds, env2⟩ := p2
        rw [q2] at eq
        cases eq
        refine ⟨z, F, env, rel, xs, env1, q, fun J F1 H1 ex1 R1 wk D hD => ?_⟩
        let Pv : Nat → Hp → Prop := fun i Hc => ∃ Fc envc acc av, Ex F1 Fc ∧ RelB K ct z Fc Hc (wipe σ vs) (wipeE envc vs) ∧ dcL t vs mc mk me (xs.drop i) acc envc = some (ds, env2) ∧ Hc D = some (.dK av) ∧ RpK K ct Fc av acc ∧ Fc D = none ∧ ¬ foot (wipe σ vs) (wipeE envc vs) D ∧ z.H D = none
        refine ⟨fun i m Hc => m = xs.length - i ∧ i ≤ xs.length ∧ Pv i Hc, ⟨xs.length, by simp, Nat.zero_le _, ?_⟩, ?_⟩
        · have nF := noneF R1.r.sub hD
          have R2 := (R1.heap (H' := upd H1 D (.dK [])) (Ex.new hD)).wiped vs
          exact ⟨F1, env1, [], [], Ex.refl _, R2, q2, upd_same, .nil, nF, fun f => R1.noFoot hD (foot_wipe f), R1.noZ hD⟩
        · rintro i m Hc ⟨rfl, hi, Fc, envc, acc, av, e1, Rc, el, hav, rav, hFD, hfD, hzD⟩
          have eG : Ex F1 Hc := fun a o h => Rc.r.sub a o (e1 a o h)
          by_cases hlt : i < xs.length
          · refine .inr ⟨wk.goes i Hc hlt eG, fun H' => Pv (i + 1) H', fun H' p' => ⟨xs.length - (i + 1), by omega, rfl, hlt, p'⟩, fun x H' y0 => ?_⟩
            have y := wk.yields i Hc x H' hlt eG y0
            obtain ⟨d, F2, hd, e2, R2, rp, eh, kF⟩ := Rc.item e1 y
            have hxs : xs.drop i = d :: xs.drop (i + 1) := by
              rw [List.getElem?_eq_some_iff] at hd
              obtain ⟨hlt, hd⟩ := hd
              rw [← hd]; exact List.drop_eq_getElem_cons hlt
            rw [hxs] at el
            unfold dcL at el
            have hH'D : H' D = some (.dK av) := eh _ _ hav
            have hF2D : F2 D = none := (kF D (by rw [hav]; simp)).trans hFD
            have S2 := R2.start
            have keep : ∀ {F4 H4 : Hp} {σ4 : St} {env4 : Env'}, RelB K ct (here z.L z.W F2 H' (wipe σ vs) (wipeE envc vs)) F4 H4 σ4 env4 → H4 D = some (.dK av) ∧ F4 D = none ∧ ¬ foot σ4 env4 D := fun {F4 H4 σ4 env4} R4 => by
              refine ⟨R4.n.keep D _ hH'D hfD, (R4.n.nofz D (by show H' D ≠ none; rw [hH'D]; simp) hfD).trans hF2D, fun f => ?_⟩
              rcases R4.n.fo D f with w | w
              · exact hfD w
              · have w' : H' D = none := w
                rw [hH'D] at w'; cases w'
            cases q3 : putTg t d (wipeE envc vs) with
            | none => rw [q3] at el; cases el
            | some env3 =>
              rw [q3] at el
              simp only at el
              have hw2 : ∀ σ2, SameOff (tgIx t) (wipe σ vs) σ2 → wipe σ2 vs = wipe σ vs := fun σ2 so => by
                rw [wipe_eq (σ := wipe σ vs) so.1 fun j hj => so.2 j fun hm => hj (ht j hm)]
                exact wipe_wipe
              refine ⟨_, F2, wipeE envc vs, d, env3, S2, rp.up hb, q3, fun σ2 so R3 => ⟨hw2 σ2 so, ?_⟩⟩
              have hw := hw2 σ2 so
              cases q4 : mc env3 with
              | none => rw [q4] at el; cases el
              | some p4 =>
                obtain ⟨b, env4⟩ := p4
                refine ⟨_, F2, env3, R3, b, env4, q4, fun F4 H4 e4 R4 => ?_⟩
                rw [q4] at el
                cases b with
                | false =>
                  simp only at el
                  simp only [Bool.false_eq_true, if_false]
                  obtain ⟨k1, k2, k3⟩ := keep R4
                  have RZ := (R2.outer R4).wiped vs
                  rw [hw] at RZ
                  exact ⟨F4, env4, acc, av, (e1.trans e2).trans e4, RZ, el, k1, rav.mono (e2.trans e4), k2, fun f => k3 (foot_wipe (hw ▸ f)), hzD⟩
                | true =>
                  simp only at el
                  simp only [if_true]
                  cases q5 : frzM mk env4 with
                  | none => rw [q5] at el; cases el
                  | some p5 =>
                    obtain ⟨r5, env5⟩ := p5
                    rw [q5] at el
                    cases r5 with
                    | dt d5 =>
                      cases d5 with
                      | str y5 =>
                        simp only at el
                        refine ⟨_, F4, env4, R4, _, _, q5, fun v F5 H5 e5 R5 rp5 => ?_⟩
                        cases q6 : frzM me env5 with
                        | none => rw [q6] at el; cases el
                        | some p6 =>
                          obtain ⟨r6, env6⟩ := p6
                          rw [q6] at el
                          cases r6 with
                          | dt d6 =>
                            simp only at el
                            split at el
                            · rename_i hlen
                              refine ⟨_, F5, env5, R5, _, _, q6, fun v6 F6 H6 e6 R6 rp6 => ?_⟩
                              obtain ⟨k1, k2, k3⟩ := keep R6
                              cases rp5
                              refine ⟨av, Sum.inr y5, rfl, k1, by rw [rav.length]; exact hlen, ?_⟩
                              have RZ := ((R2.outer R6).side (H' := upd H6 D (.dK (putK av (Sum.inr y5) v6))) (fun c hc => upd_ne hc) upd_same k2 k3 hzD).wiped vs
                              rw [hw] at RZ
                              exact ⟨F6, env6, _, _, (((e1.trans e2).trans e4).trans e5).trans e6, RZ, el, upd_same, (rav.mono (((e2.trans e4).trans e5).trans e6)).put rp6, k2, fun f => k3 (foot_wipe (hw ▸ f)), hzD⟩
                            · cases el
                          | nw d6 => cases el
                          | sl i6 => cases el
                      | _ => cases el
                    | nw d5 => cases el
                    | sl i5 => cases el
          · have e' : i = xs.length := by omega
            subst e'
            refine .inl ⟨wk.stops Hc eG, ?_⟩
            rw [List.drop_length] at el
            unfold dcL at el
            cases el
            obtain ⟨Rb, fb⟩ := Rc.back R1 e1 hp
            exact k _ Fc Hc (ex1.trans e1) Rb ⟨D, rfl, hFD, ⟨av, hav, rav⟩, fun f => hfD (fb D f), hzD⟩
    · cases eq
section
variable {kx elt tg iter : Expr} {ifs : List Expr} {scope : Scope} {own : List (Str × Nat)} {t : Tg} {mi : Env' → Option (List D × Env')} {mc : Env' → Option (Bool × Env')} {b0 : Bool} {mk m : Env' → Option (R × Env')} {pos : Pos}
theorem pe_dcV (hb0 : b0 = true → isTu t = true) (hc : X.calm = true) (hN : X.N.Nodup) (hi : PI X tg iter (tI X.K ct b0 mi)) (ok : BlkOk X.N X.env.scope scope own)
    (hg : ∀ (s : Shared) (H : Hp) (C : Addr) (cl : List (Str × Addr)) (fp : List Addr), PG (X.blk s H scope (compEnvC scope cl C X.env) fp) tg (gD X.K ct t)) (ht : ∀ (s : Shared) (H : Hp) (C : Addr) (cl : List (Str × Addr)) (fp : List Addr), PTs (X.blk s H scope (compEnvC scope cl C X.env) fp) ifs (VI.tB X.K ct mc))
    (hk : ∀ (s : Shared) (H : Hp) (C : Addr) (cl : List (Str × Addr)) (fp : List Addr), PE (X.blk s H scope (compEnvC scope cl C X.env) fp) kx (tV X.K ct mk)) (he : ∀ (s : Shared) (H : Hp) (C : Addr) (cl : List (Str × Addr)) (fp : List Addr), PE (X.blk s H scope (compEnvC scope cl C X.env) fp) elt (tV X.K ct m)) (hs : isSetE iter = false) (hv : ∀ j ∈ tgIx t, j ∈ own.map (·.2)) :
    PE X (.DictComp kx elt [⟨tg, iter, ifs, 0⟩] scope pos) (tV X.K ct (dcM (own.map (·.2)) t mi mc mk m)) :=
  (pe_dc hc hN hi ok hg ht (fun s H C cl fp => (hk s H C cl fp).vfrz) (fun s H C cl fp => (he s H C cl fp).vfrz) (folded_of hs)).vimp fun σ H Q w => t_dc hb0 hv w
end
end
end VI
/-! dicts with text keys: displays, stores -/
namespace VI
open PySem L2
section
variable {X : Cx} {K : PySem.W.Frag} {ct : Nat → Addr} {m mk : Env' → Option (R × Env')} {pos : Pos}
theorem pe_dn0V : PE X (.Dict [] [] pos) (tV X.K ct dn0M) := by
  refine pe_dnewK.vimp fun σ H Q ⟨z, F, env, rel, r, env', eq, k⟩ => ?_
  cases eq
  intro p np
  exact k _ F _ (Ex.refl F) (rel.heap (Ex.new np)) ⟨p, rfl, noneF rel.r.sub np, ⟨[], upd_same, .nil⟩, rel.noFoot np, rel.noZ np⟩
theorem pe_dn1V {ke ve : Expr} {mv : Env' → Option (R × Env')} (hk : PE X ke (tV X.K ct mk)) (hv : PE X ve (tV X.K ct mv)) : PE X (.Dict [some ke] [ve] pos) (tV X.K ct (dn1M (consV mk (consV mv nilD)))) := by
  refine (pe_disp (pps_cons hk.vfrz hv.vfrz pps_nil) rfl rfl (by simp) (by simp)).vimp fun σ H Q ⟨z, F, env, rel, r, env', eq, k⟩ => ?_
  unfold dn1M at eq
  split at eq
  · rename_i x d env1 q
    cases eq
    unfold consV at q
    intro p np
    have R0 : RelB X.K ct z F (upd H p (.dK [])) σ env := rel.heap (Ex.new np)
    have nF := noneF rel.r.sub np
    have nf := rel.noFoot np
    have nz := rel.noZ np
    cases q1 : mk env with
    | none => rw [q1] at q; cases q
    | some p1 =>
      obtain ⟨r1, e1⟩ := p1
      rw [q1] at q
      simp only at q
      cases q2 : frz r1 e1 with
      | none => rw [q2] at q; cases q
      | some p2 =>
        obtain ⟨d2, e2⟩ := p2
        rw [q2] at q
        simp only at q
        have f1 : frzM mk env = some (.dt d2, e2) := by unfold frzM; rw [q1]; simp only [q2]
        have S1 := R0.start
        refine ⟨_, F, env, S1, _, _, f1, fun v1 F1 H1 x1 R1 rp1 => ?_⟩
        cases q3 : mv e2 with
        | none => rw [q3] at q; simp only [consV, q3] at q; cases q
        | some p3 =>
          obtain ⟨r3, e3⟩ := p3
          simp only [consV, q3] at q
          cases q4 : frz r3 e3 with
          | none => rw [q4] at q; cases q
          | some p4 =>
            obtain ⟨d4, e4⟩ := p4
            rw [q4] at q
            simp only [nilD] at q
            cases q
            have f2 : frzM mv e2 = some (.dt d, env') := by unfold frzM; rw [q3]; simp only [q4]
            refine ⟨_, F1, e2, R1, _, _, f2, fun v2 F2 H2 x2 R2 rp2 => ?_⟩
            have hD : H2 p = some (.dK []) := R2.n.keep p _ upd_same nf
            have hF : F2 p = none := (R2.n.nofz p (by show (upd H p (.dK [])) p ≠ none; rw [upd_same]; simp) nf).trans nF
            have hf2 : ¬ foot σ env' p := fun f => by
              rcases R2.n.fo p f with w | w
              · exact nf w
              · have w' : (upd H p (.dK [])) p = none := w
                rw [upd_same] at w'; cases w'
            cases rp1
            refine ⟨hD, [(Sum.inr x, v2)], rfl, by simp, ?_⟩
            have em : mergeK [] [((Sum.inr x : Key), v2)] = [(Sum.inr x, v2)] := rfl
            rw [em]
            have RO := R0.outer R2
            exact k _ F2 _ (x1.trans x2) (RO.side (fun c hc => upd_ne hc) upd_same hF hf2 nz) ⟨p, rfl, hF, ⟨_, upd_same, .cons (k := Sum.inr x) rp2 .nil⟩, hf2, nz⟩
  · cases eq
theorem ps_setKV {i : Nat} {x : Str} {ie e : Expr} {p p' : Pos} (hu : X.A.units + 1 < cLine) (hv : PE X (.Name x p) (tV X.K ct (varM i))) (hx : PE X ie (tV X.K ct mk)) (h : PE X e (tV X.K ct m)) (hs : isComp e = false) :
    PS X (.Assign [.Subscript (.Name x p) ie p'] e pos) (tS X.K ct (setKM i mk m)) := by
  refine (ps_dput hu hv hx.vpz h.vfrz (swaps_of hs)).vimp fun D σ H ⟨z, F, env, rel, fl, env', eq, k⟩ => ?_
  unfold setKM at eq
  split at eq
  · rename_i d env1 q
    split at eq
    · rename_i ho
      split at eq
      · rename_i y env2 q2
        split at eq
        · rename_i b l q3
          split at eq
          · rename_i hl
            cases eq
            refine ⟨z, F, env, rel, _, _, q, fun v F1 H1 x1 R1 rp => ?_⟩
            have ov : ∃ b l, env1[i]? = some (.ow b (.dic l)) := by
              unfold isOwD at ho
              split at ho
              · exact ⟨_, _, by assumption⟩
              · cases ho
            obtain ⟨b1, l1, q4⟩ := ov
            obtain ⟨a, s1, _, _⟩ := R1.r.ow i _ _ q4
            refine ⟨z, F1, env1, R1, .sl i, env1, by simp only [varM, q4], fun v1 F2 H2 x2 R2 rs => ?_⟩
            have rs' : σ[i]? = some (some v1) := rs
            refine ⟨z, F2, env1, R2, _, _, q2, fun v2 F3 H3 x3 R3 rp3 => ?_⟩
            obtain ⟨a3, s3, n3, o3⟩ := R3.r.ow i _ _ q3
            rw [s3] at rs'
            cases rs'
            obtain ⟨kvs, hk, rk⟩ := o3
            cases rp3
            refine ⟨a3, upd H3 a3 (.dK (putK kvs (Sum.inr y) v)), rfl, DPut.k (k := Sum.inr y) hk (by rw [rk.length]; exact hl), ?_⟩
            exact k σ F3 _ ((x1.trans x2).trans x3) (R3.write q3 s3 (fun c hc => upd_ne hc) ⟨_, upd_same, rk.put (rp.mono (x2.trans x3))⟩)
          · cases eq
        · cases eq
      · cases eq
    · cases eq
  · cases eq
end
end VI
namespace VI
open PySem L2
/-! ### the text against the small tree -/
def visB (sc : Scope) (x : Str) : Bool := match sc.names.lookup x with
  | some .local => true
  | some .cell => true
  | some .free => true
  | _ => false
def locB (sc : Scope) (x : Str) : Bool := match sc.names.lookup x with
  | some .local => true
  | some .cell => true
  | _ => false
def isLocB (sc : Scope) (x : Str) : Bool := match sc.names.lookup x with
  | some .local => true
  | _ => false
def glB (sc : Scope) (x : Str) : Bool := match sc.names.lookup x with
  | some .globalImplicit => true
  | _ => false
theorem vis_of {sc : Scope} {x : Str} (h : visB sc x = true) : Vis sc x := by
  unfold visB at h
  split at h
  · exact .inl (by assumption)
  · exact .inr (.inl (by assumption))
  · exact .inr (.inr (by assumption))
  · cases h
theorem loc_of {sc : Scope} {x : Str} (h : locB sc x = true) : Loc sc x := by
  unfold locB at h
  split at h
  · exact .inl (by assumption)
  · exact .inr (by assumption)
  · cases h
theorem isLoc_of {sc : Scope} {x : Str} (h : isLocB sc x = true) : sc.names.lookup x = some .local := by
  unfold isLocB at h
  split at h
  · assumption
  · cases h
theorem gl_of {X : Cx} {sc : Scope} {x : Str} (hs : X.env.scope = sc) (h : glB sc x = true) : Gl X x := by
  unfold glB at h
  split at h
  · subst hs; assumption
  · cases h
/-- a block's scope as it is within a def -/
def relS (scope sc : Scope) : Scope :=
  { scope with names := scope.names.map fun (n, k) => if (k == .free && sc.kind == .function && sc.names.lookup n == some .cell) then (n, .cell) else (n, k) }
theorem relS_look {scope sc : Scope} {x : Str} {k : NameKind} (h : scope.names.lookup x = some k) (hk : k ≠ .free) : (relS scope sc).names.lookup x = some k := by
  unfold relS
  simp only
  generalize scope.names = l at h
  induction l with
  | nil => cases h
  | cons p l ih =>
    obtain ⟨n, k'⟩ := p
    rw [List.lookup_cons] at h
    rw [List.map_cons]
    cases q : x == n with
    | true =>
      rw [q] at h
      cases h
      have : (k == NameKind.free) = false := by cases k <;> first | rfl | exact (hk rfl).elim
      simp only [this, Bool.false_and, Bool.false_eq_true, if_false]
      rw [List.lookup_cons, q]
    | false =>
      rw [q] at h
      have e : ∀ p : Str × NameKind, p.1 = n → ((p :: l.map fun (n, k) => if (k == .free && sc.kind == .function && sc.names.lookup n == some .cell) then (n, .cell) else (n, k)).lookup x) = some k := fun p hp => by
        rw [List.lookup_cons, hp, q]
        exact ih h
      apply e
      split <;> rfl
def tstB (x : Expr) : Bool := match x with
  | .IfExp _ _ _ _ => false
  | _ => true
def biName : Bi → String
  | .len => "len"
  | .all => "all"
  | .any => "any"
  | .tuple => "tuple"
  | .list => "list"
  | .int => "int"
  | .abs => "abs"
  | .max2 => "max"
  | .min2 => "min"
  | .divmod => "divmod"
  | .repr => "repr"
  | .sorted => "sorted"
  | _ => "None"
def biKnown : Bi → Bool
  | .len => true
  | .all => true
  | .any => true
  | .tuple => true
  | .list => true
  | .int => true
  | .abs => true
  | .max2 => true
  | .min2 => true
  | .divmod => true
  | .repr => true
  | .sorted => true
  | _ => false
def bmName : Bm → String
  | .join => "join"
  | .split => "split"
  | .partition => "partition"
  | .index => "index"
def bxName : Bx → String
  | .append => "append"
  | .popAt => "pop"
  | .extend => "extend"
def ctB (c : Const) (ctt : Ct) : Bool := match c, ctt with
    | .none, .non => true
    | .bool b, .bl b' => decide (b = b')
    | .int i, .int i' => decide (i = i')
    | .str x, .str x' => decide (x = x')
    | _, _ => false
def boB : BO → Operator → Bool
  | .add, .Add => true
  | .sub, .Sub => true
  | .mul, .Mult => true
  | .mod, .Mod => true
  | .fdiv, .FloorDiv => true
  | .pow, .Pow => true
  | _, _ => false
def coB : CO → CmpOp → Bool
  | .eq, .Eq => true
  | .ne, .NotEq => true
  | .lt, .Lt => true
  | .le, .LtE => true
  | .gt, .Gt => true
  | .ge, .GtE => true
  | .isin, .In => true
  | .notin, .NotIn => true
  | _, _ => false
theorem bo_of {o : BO} {p : Operator} (h : boB o p = true) : p = bop o := by cases o <;> cases p <;> first | rfl | cases h
theorem co_of {o : CO} {p : CmpOp} (h : coB o p = true) : p = cop o := by cases o <;> cases p <;> first | rfl | cases h
def nmB (N : List Str) (i : Nat) (y : Str) : Bool := decide (N[i]? = some y) && !(y == ("__debug__" : Str)) && !(y == ("__classdict__" : Str))
/-- walks whose items are only taken apart -/
def itB : It → Bool
  | .enm _ => true
  | .zip2 _ _ => true
  | .zip3 _ _ _ => true
  | _ => false
section
variable (P : Pg) (N : List Str)
def tgB (sc : Scope) : List Nat → List Expr → Bool
  | [], [] => true
  | i :: is, .Name y _ :: es => nmB N i y && locB sc y && tgB sc is es
  | _, _ => false
def chkTg (sc : Scope) (t : Tg) (x : Expr) : Bool := match t, x with
  | .nm i, .Name y _ => nmB N i y && locB sc y
  | .tu is, .Tuple es _ _ => tgB N sc is es
  | _, _ => false
def ownOf (vs : List Nat) : List (Str × Nat) := vs.map fun v => (N.getD v "", v)
def isiB (sc : Scope) (b : Bi) (t : Str) : Bool := match b with
  | .isCls c => (match P.cls[c]? with
    | some cl => decide (cl.name = t) && glB sc t && !(t == ("__debug__" : Str))
    | none => false)
  | b => isTyB b && decide (t = (isNm b : Str)) && decide (t ∈ P.free) && glB sc t
mutual
def chkE : E → Scope → Expr → Bool
  | .var i => fun sc x => match x with
    | .Name y _ => nmB N i y && visB sc y
    | _ => false
  | .cst c => fun sc x => match x with
    | .Constant k _ _ => ctB k c
    | .Name y _ => glB sc y && decide (P.cs.lookup y = some c) && !(y == ("__debug__" : Str))
    | _ => false
  | .tup es => fun sc x => match x with
    | .Tuple l _ _ => chkEs es sc l
    | _ => false
  | .lst es => fun sc x => match x with
    | .List l _ => chkEs es sc l
    | _ => false
  | .bin o a b => fun sc x => match x with
    | .BinOp l op r _ => boB o op && chkE a sc l && chkE b sc r
    | _ => false
  | .cmp o a b => fun sc x => match x with
    | .Compare l [op] [r] _ => coB o op && chkE a sc l && chkE b sc r && !isSet r
    | _ => false
  | .chain o o' a b c => fun sc x => match x with
    | .Compare l [op, op'] [m, r] _ => coB o op && coB o' op' && chkE a sc l && chkE b sc m && chkE c sc r && !isSet r
    | _ => false
  | .isN a => fun sc x => match x with
    | .Compare l [.Is] [.Constant .none _ _] _ => chkE a sc l
    | _ => false
  | .notN a => fun sc x => match x with
    | .Compare l [.IsNot] [.Constant .none _ _] _ => chkE a sc l
    | _ => false
  | .and a b => fun sc x => match x with
    | .BoolOp .And [y, y2] _ => chkE a sc y && chkE b sc y2 && tstB y && tstB y2
    | .BoolOp .And (y :: y2 :: y3 :: r) p => chkE a sc y && tstB y && chkE b sc (.BoolOp .And (y2 :: y3 :: r) p)
    | _ => false
  | .or a b => fun sc x => match x with
    | .BoolOp .Or [y, y2] _ => chkE a sc y && chkE b sc y2 && tstB y && tstB y2
    | .BoolOp .Or (y :: y2 :: y3 :: r) p => chkE a sc y && tstB y && chkE b sc (.BoolOp .Or (y2 :: y3 :: r) p)
    | _ => false
  | .not a => fun sc x => match x with
    | .UnaryOp .Not y _ => chkE a sc y && tstB y
    | _ => false
  | .neg a => fun sc x => match x with
    | .UnaryOp .USub y _ => chkE a sc y
    | _ => false
  | .ife c a b => fun sc x => match x with
    | .IfExp y l r _ => chkE c sc y && chkE a sc l && chkE b sc r && tstB y
    | _ => false
  | .ix a b => fun sc x => match x with
    | .Subscript l r _ => chkE a sc l && chkE b sc r && !isSlice r
    | _ => false
  | .sli a lo hi => fun sc x => match x with
    | .Subscript l (.Slice u v none _) _ => chkE a sc l && chkO lo sc u && chkO hi sc v
    | _ => false
  | .call f es => fun sc x => match x with
    | .Call (.Name y _) args [] _ => (match P.fns[f]? with
      | some fn => fn.glo && decide (fn.name = y) && glB sc y && !(y == ("__debug__" : Str)) && chkEs es sc args
      | none => false)
    | _ => false
  | .callK f perm es => fun sc x => match x with
    | .Call (.Name y _) [] kws _ => (match P.fns[f]? with
      | some fn => fn.glo && decide (fn.name = y) && glB sc y && !(y == ("__debug__" : Str)) && chkK es sc kws && kwAll kws && decide ((f, kwNames kws, 0, perm) ∈ P.kws)
      | none => false)
    | _ => false
  | .make c es => fun sc x => match x with
    | .Call (.Name y _) (a :: args) [] _ => (match P.cls[c]? with
      | some cl => decide (cl.name = y) && decide (cl.init < P.fns.length) && glB sc y && !(y == ("__debug__" : Str)) && chkEs es sc (a :: args)
      | none => false)
    | _ => false
  | .makeK c perm es => fun sc x => match x with
    | .Call (.Name y _) [] kws _ => (match P.cls[c]? with
      | some cl => decide (cl.name = y) && decide (cl.init < P.fns.length) && glB sc y && !(y == ("__debug__" : Str)) && chkK es sc kws && kwAll kws && decide ((cl.init, kwNames kws, 1, perm) ∈ P.kws)
      | none => false)
    | _ => false
  | .mcall c m f o es => fun sc x => match x with
    | .Call (.Attribute y mm apos) args [] pos => (match P.cls[c]? with
      | some cl => decide (mm = m) && decide (cl.meths.lookup m = some f) && decide (f < P.fns.length) && !isNoArg y && (apos.endLine == pos.line) && decide (args.length < 20) && chkE o sc y && chkEs es sc args
      | none => false)
    | _ => false
  | .mcallL c m f i es => fun sc x => match x with
    | .Call (.Attribute (.Name y _) mm apos) args [] pos => (match P.cls[c]? with
      | some cl => decide (mm = m) && decide (cl.meths.lookup m = some f) && decide (f < P.fns.length) && (apos.endLine == pos.line) && decide (args.length < 20) && nmB N i y && visB sc y && chkEs es sc args
      | none => false)
    | _ => false
  | .mcallK c m f perm o es => fun sc x => match x with
    | .Call (.Attribute y mm apos) [] kws pos => (match P.cls[c]? with
      | some cl => decide (mm = m) && decide (cl.meths.lookup m = some f) && decide (f < P.fns.length) && !isNoArg y && (apos.endLine == pos.line) && decide (kws.length < 20) && chkE o sc y && chkK es sc kws && kwAll kws && decide ((f, kwNames kws, 1, perm) ∈ P.kws)
      | none => false)
    | _ => false
  | .bi b es => fun sc x => match x with
    | .Call (.Name y _) (a :: args) [] _ => biKnown b && decide (y = (biName b : Str)) && decide (y ∈ P.free) && glB sc y && chkEs es sc (a :: args)
    | _ => false
  | .isi b e => fun sc x => match x with
    | .Call (.Name y _) [a, .Name t _] [] _ => decide (y = ("isinstance" : Str)) && decide (("isinstance" : Str) ∈ P.free) && glB sc "isinstance" && chkE e sc a && !isStar a && isiB P sc b t
    | _ => false
  | .frz a => fun sc x => match x with
    | .Name y p => chkE a sc (.Name y p)
    | _ => false
  | .isT a => fun sc x => match x with
    | .Compare l [.Is] [.Constant (.bool true) _ _] _ => chkE a sc l
    | _ => false
  | .notT a => fun sc x => match x with
    | .Compare l [.IsNot] [.Constant (.bool true) _ _] _ => chkE a sc l
    | _ => false
  | .dn0 => fun sc x => match x with
    | .Dict [] [] _ => true
    | _ => false
  | .dn1 k v => fun sc x => match x with
    | .Dict [some l] [r] _ => chkE k sc l && chkE v sc r
    | _ => false
  | .dz a b => fun sc x => match x with
    | .Call (.Name y _) [.Call (.Name y2 _) [l, r] [] _] [] _ => decide (y = ("dict" : Str)) && decide (y2 = ("zip" : Str)) && decide (("dict" : Str) ∈ P.free) && decide (("zip" : Str) ∈ P.free) && glB sc "dict" && glB sc "zip" && chkE a sc l && chkE b sc r && !isStar l && !isStar r
    | _ => false
  | .dc vs t it c k e => fun sc x => match x with
    | .DictComp kx elt [⟨tg, iter, ifs, 0⟩] scope _ => blkC N sc scope (ownOf N vs) && chkTg N scope t tg && (tgIx t).all (fun j => decide (j ∈ vs)) && (!itB it || isTu t) && chkI it sc tg iter && !isSetE iter && chkC c (relS scope sc) ifs && chkE e (relS scope sc) elt && chkE k (relS scope sc) kx
    | _ => false
  | .bm m o es => fun sc x => match x with
    | .Call (.Attribute y mm apos) [a] [] pos => decide (mm = (bmName m : Str)) && !isNoArg y && (apos.endLine == pos.line) && chkE o sc y && chkEs es sc [a]
    | _ => false
  | .bx m i e => fun sc x => match x with
    | .Call (.Attribute (.Name y _) mm apos) [a] [] pos => decide (mm = (bxName m : Str)) && (apos.endLine == pos.line) && nmB N i y && visB sc y && chkE e sc a && !isStar a
    | _ => false
  | .fld o f => fun sc x => match x with
    | .Attribute y g _ => decide (g = f) && decide (f ∈ P.flds) && !isNoArg y && chkE o sc y
    | _ => false
  | .lc vs t it c e => fun sc x => match x with
    | .ListComp elt [⟨tg, iter, ifs, 0⟩] scope _ => blkC N sc scope (ownOf N vs) && chkTg N scope t tg && (tgIx t).all (fun j => decide (j ∈ vs)) && (!itB it || isTu t) && chkI it sc tg iter && !isSetE iter && chkC c (relS scope sc) ifs && chkE e (relS scope sc) elt
    | _ => false
  | .lc2 vs vs1 t it c t1 it1 c1 e => fun sc x => match x with
    | .ListComp elt [⟨tg, iter, ifs, 0⟩, ⟨tg1, iter1, ifs1, 0⟩] scope _ => blkC N sc scope (ownOf N vs) && chkTg N scope t tg && (tgIx t).all (fun j => decide (j ∈ vs)) && (!itB it || isTu t) && chkI it sc tg iter && !isSetE iter && chkC c (relS scope sc) ifs && chkE e (relS scope sc) elt &&
        vs1.all (fun j => decide (j ∈ vs)) && chkTg N scope t1 tg1 && (tgIx t1).all (fun j => decide (j ∈ vs1)) && (!itB it1 || isTu t1) && chkI it1 (relS scope sc) tg1 iter1 && !isSetE iter1 && chkC c1 (relS scope sc) ifs1
    | _ => false
def chkEs : Es → Scope → List Expr → Bool
  | .nil => fun _ l => match l with
    | [] => true
    | _ => false
  | .cons e es => fun sc l => match l with
    | x :: xs => chkE e sc x && !isStar x && chkEs es sc xs
    | [] => false
def chkK : Es → Scope → List Keyword → Bool
  | .nil => fun _ l => match l with
    | [] => true
    | _ => false
  | .cons e es => fun sc l => match l with
    | x :: xs => chkE e sc x.value && chkK es sc xs
    | [] => false
def chkO : Eo → Scope → Option Expr → Bool
  | .no => fun _ l => match l with
    | none => true
    | _ => false
  | .so e => fun sc l => match l with
    | some x => chkE e sc x
    | none => false
def chkC : Eo → Scope → List Expr → Bool
  | .no => fun _ l => match l with
    | [] => true
    | _ => false
  | .so e => fun sc l => match l with
    | [x] => chkE e sc x && tstB x
    | _ => false
def chkI : It → Scope → Expr → Expr → Bool
  | .seq e => fun sc _ x => chkE e sc x
  | .rng1 e => fun sc _ x => match x with
    | .Call (.Name y _) [a] [] _ => decide (y = ("range" : Str)) && decide (("range" : Str) ∈ P.free) && glB sc "range" && chkE e sc a && !isStar a
    | _ => false
  | .rng2 a b => fun sc _ x => match x with
    | .Call (.Name y _) [l, r] [] _ => decide (y = ("range" : Str)) && decide (("range" : Str) ∈ P.free) && glB sc "range" && chkE a sc l && !isStar l && chkE b sc r && !isStar r
    | _ => false
  | .enm e => fun sc tg x => match tg with
    | .Tuple _ _ _ => (match x with
      | .Call (.Name y _) [a] [] _ => decide (y = ("enumerate" : Str)) && decide (("enumerate" : Str) ∈ P.free) && glB sc "enumerate" && chkE e sc a && !isStar a
      | _ => false)
    | _ => false
  | .zip2 a b => fun sc tg x => match tg with
    | .Tuple _ _ _ => (match x with
      | .Call (.Name y _) [l, r] [] _ => decide (y = ("zip" : Str)) && decide (("zip" : Str) ∈ P.free) && glB sc "zip" && chkE a sc l && chkE b sc r && !isStar l && !isStar r
      | _ => false)
    | _ => false
  | .zip3 _ _ _ => fun _ _ _ => false
end
end
end VI
/-! sorting keys: ints, texts, tuples of such; their order is linear; insertion -/
namespace VI
open PySem L2
theorem ltK_irr : ∀ x, ltK x x = false
  | .i a => by simp [ltK]
  | .s a => by simp [ltK, List.lt_irrefl]
  | .nil => rfl
  | .cons x xs => by simp [ltK, ltK_irr xs]
theorem ltK_tr : ∀ {x y z : Sk}, ltK x y = true → ltK y z = true → ltK x z = true
  | .i a, .i b, .i c, h, k => by simp [ltK] at *; omega
  | .i a, .i b, .s c, h, k => rfl
  | .i a, .i b, .nil, h, k => rfl
  | .i a, .i b, .cons _ _, h, k => rfl
  | .i a, .s b, .i c, h, k => by simp [ltK] at k
  | .i a, .s b, .s c, h, k => rfl
  | .i a, .s b, .nil, h, k => rfl
  | .i a, .s b, .cons _ _, h, k => rfl
  | .i a, .nil, .i c, h, k => by simp [ltK] at k
  | .i a, .nil, .s c, h, k => rfl
  | .i a, .nil, .nil, h, k => rfl
  | .i a, .nil, .cons _ _, h, k => rfl
  | .i a, .cons _ _, .i c, h, k => by simp [ltK] at k
  | .i a, .cons _ _, .s c, h, k => rfl
  | .i a, .cons _ _, .nil, h, k => rfl
  | .i a, .cons _ _, .cons _ _, h, k => rfl
  | .s a, .i b, z, h, k => by simp [ltK] at h
  | .s a, .s b, .i c, h, k => by simp [ltK] at k
  | .s a, .s b, .s c, h, k => by simp only [ltK, decide_eq_true_eq] at *; exact List.lt_trans h k
  | .s a, .s b, .nil, h, k => rfl
  | .s a, .s b, .cons _ _, h, k => rfl
  | .s a, .nil, .i c, h, k => by simp [ltK] at k
  | .s a, .nil, .s c, h, k => by simp [ltK] at k
  | .s a, .nil, .nil, h, k => rfl
  | .s a, .nil, .cons _ _, h, k => rfl
  | .s a, .cons _ _, .i c, h, k => by simp [ltK] at k
  | .s a, .cons _ _, .s c, h, k => by simp [ltK] at k
  | .s a, .cons _ _, .nil, h, k => rfl
  | .s a, .cons _ _, .cons _ _, h, k => rfl
  | .nil, .i b, z, h, k => by simp [ltK] at h
  | .nil, .s b, z, h, k => by simp [ltK] at h
  | .nil, .nil, z, h, k => by simp [ltK] at h
  | .nil, .cons _ _, .i c, h, k => by simp [ltK] at k
  | .nil, .cons _ _, .s c, h, k => by simp [ltK] at k
  | .nil, .cons _ _, .nil, h, k => by simp [ltK] at k
  | .nil, .cons _ _, .cons _ _, h, k => rfl
  | .cons _ _, .i b, z, h, k => by simp [ltK] at h
  | .cons _ _, .s b, z, h, k => by simp [ltK] at h
  | .cons _ _, .nil, z, h, k => by simp [ltK] at h
  | .cons _ _, .cons _ _, .i c, h, k => by simp [ltK] at k
  | .cons _ _, .cons _ _, .s c, h, k => by simp [ltK] at k
  | .cons _ _, .cons _ _, .nil, h, k => by simp [ltK] at k
  | .cons x xs, .cons y ys, .cons z zs, h, k => by
    simp only [ltK] at h k ⊢
    by_cases e1 : x = y
    · subst e1
      rw [if_pos rfl] at h
      by_cases e2 : x = z
      · subst e2
        rw [if_pos rfl] at k ⊢
        exact ltK_tr h k
      · rw [if_neg e2] at k ⊢
        exact k
    · rw [if_neg e1] at h
      by_cases e2 : y = z
      · subst e2
        rw [if_neg e1]
        exact h
      · rw [if_neg e2] at k
        have q := ltK_tr h k
        by_cases e3 : x = z
        · subst e3
          rw [ltK_irr] at q; cases q
        · rw [if_neg e3]; exact q
theorem ltK_eq : ∀ {x y : Sk}, ltK x y = false → ltK y x = false → x = y
  | .i a, .i b, h, k => by simp [ltK] at *; omega
  | .i a, .s b, h, k => by simp [ltK] at h
  | .i a, .nil, h, k => by simp [ltK] at h
  | .i a, .cons _ _, h, k => by simp [ltK] at h
  | .s a, .i b, h, k => by simp [ltK] at k
  | .s a, .s b, h, k => by
    simp only [ltK, decide_eq_false_iff_not] at *
    exact congrArg Sk.s (List.le_antisymm (List.not_lt.mp k) (List.not_lt.mp h))
  | .s a, .nil, h, k => by simp [ltK] at h
  | .s a, .cons _ _, h, k => by simp [ltK] at h
  | .nil, .i b, h, k => by simp [ltK] at k
  | .nil, .s b, h, k => by simp [ltK] at k
  | .nil, .nil, h, k => rfl
  | .nil, .cons _ _, h, k => by simp [ltK] at h
  | .cons _ _, .i b, h, k => by simp [ltK] at k
  | .cons _ _, .s b, h, k => by simp [ltK] at k
  | .cons _ _, .nil, h, k => by simp [ltK] at k
  | .cons x xs, .cons y ys, h, k => by
    simp only [ltK] at h k
    by_cases e : x = y
    · subst e
      rw [if_pos rfl] at h k
      rw [ltK_eq h k]
    · rw [if_neg e] at h
      rw [if_neg (fun q => e q.symm)] at k
      exact (e (ltK_eq h k)).elim
theorem ltK_swo : SrtO.Swo ltK := by
  have as : ∀ x y, ltK x y = true → ltK y x = false := fun x y h => by
    cases q : ltK y x with
    | false => rfl
    | true =>
      have z := ltK_tr h q
      rw [ltK_irr] at z; cases z
  refine ⟨as, fun x y z h1 h2 => ?_⟩
  cases q : ltK z x with
  | false => rfl
  | true =>
    cases w : ltK x y with
    | false =>
      have e := ltK_eq h1 w
      subst e
      rw [q] at h2; cases h2
    | true =>
      have z := ltK_tr q w
      rw [z] at h2; cases h2
section
variable {α β : Type} (k : α → Sk)
/-- the order by a key -/
def ltB (x y : α) : Bool := ltK (k x) (k y)
theorem ltB_swo : SrtO.Swo (ltB k) := ⟨fun x y => ltK_swo.asym _ _, fun x y z => ltK_swo.tr _ _ _⟩
theorem insK_split (x : α) : ∀ l, SrtO.Srtd (ltB k) l → ∃ M N, l = M ++ N ∧ insK k x l = M ++ x :: N ∧ (∀ y ∈ M, ltB k x y = false) ∧ ∀ y ∈ N, ltB k x y = true
  | [], _ => ⟨[], [], rfl, rfl, by simp, by simp⟩
  | y :: l, h => by
    unfold insK
    by_cases e : ltK (k x) (k y) = true
    · rw [if_pos e]
      exact ⟨[], y :: l, rfl, rfl, by simp, (ltB_swo k).lt_all h e⟩
    · rw [if_neg e]
      obtain ⟨M, N, e1, e2, e3, e4⟩ := insK_split x l (List.pairwise_cons.mp h).2
      refine ⟨y :: M, N, by rw [e1]; rfl, by rw [e2]; rfl, fun z hz => ?_, e4⟩
      rcases List.mem_cons.mp hz with q | q
      · rw [q]; unfold ltB; simpa using e
      · exact e3 z q
theorem foldK : ∀ (l acc o : List α), SrtO.Srtd (ltB k) acc → SrtO.Stb (ltB k) acc o → SrtO.Srtd (ltB k) (l.foldl (fun acc x => insK k x acc) acc) ∧ SrtO.Stb (ltB k) (l.foldl (fun acc x => insK k x acc) acc) (o ++ l)
  | [], acc, o, h, s => by rw [List.append_nil]; exact ⟨h, s⟩
  | x :: l, acc, o, h, s => by
    obtain ⟨M, N, e1, e2, e3, e4⟩ := insK_split k x acc h
    have h' : SrtO.Srtd (ltB k) (insK k x acc) := by
      rw [e2]; rw [e1] at h
      exact SrtO.ins_srtd (ltB_swo k) h e3 e4
    have s' : SrtO.Stb (ltB k) (insK k x acc) (o ++ [x]) := by
      rw [e2]; rw [e1] at s
      exact SrtO.ins_stb (ltB_swo k) e4 s
    have z := foldK l (insK k x acc) (o ++ [x]) h' s'
    rw [List.append_assoc] at z
    exact z
theorem sortK_ok (l : List α) : SrtO.Srtd (ltB k) (sortK k l) ∧ SrtO.Stb (ltB k) (sortK k l) l := foldK k l [] [] List.Pairwise.nil (SrtO.Stb.refl _)
theorem insK_map (f : β → α) (x : β) : ∀ l : List β, (insK (fun b => k (f b)) x l).map f = insK k (f x) (l.map f)
  | [] => rfl
  | y :: l => by
    unfold insK
    by_cases e : ltK (k (f x)) (k (f y)) = true
    · rw [if_pos e, List.map_cons, List.map_cons]
      show _ = (if ltK (k (f x)) (k (f y)) = true then _ else _)
      rw [if_pos e]
    · rw [if_neg e, List.map_cons, insK_map f x l]
      show _ = (if ltK (k (f x)) (k (f y)) = true then _ else _)
      rw [if_neg e]
theorem foldK_map (f : β → α) : ∀ l acc : List β, (l.foldl (fun acc x => insK (fun b => k (f b)) x acc) acc).map f = (l.map f).foldl (fun acc x => insK k x acc) (acc.map f)
  | [], acc => rfl
  | x :: l, acc => by
    rw [List.foldl_cons, foldK_map f l, List.map_cons, List.foldl_cons, insK_map]
theorem sortK_map (f : β → α) (l : List β) : (sortK (fun b => k (f b)) l).map f = sortK k (l.map f) := foldK_map k f l []
end
end VI
/-! sorted of tuples by their keys: the machine's comparisons -/
namespace VI
open PySem L2 PySem.SeqAt Ob
mutual
inductive KV (h : Heap) : Value → Sk → Prop
  | int (n : Int) (t : Tok) : KV h (.int n t) (.i n)
  | str (x : Str) (t : Tok) : KV h (.str x t) (.s x.cps.toList)
  | tup {a : Addr} {items : Array Value} {k : Sk} (ha : h.IsTuple a items) (r : KVs h items.toList k) : KV h (.ref a) k
inductive KVs (h : Heap) : List Value → Sk → Prop
  | nil : KVs h [] .nil
  | cons {v : Value} {vs : List Value} {k ks : Sk} (q : KV h v k) (r : KVs h vs ks) : KVs h (v :: vs) (.cons k ks)
end
def nthK : Sk → Nat → Sk
  | .cons h _, 0 => h
  | .cons _ t, j + 1 => nthK t j
  | _, _ => .nil
theorem KVs.at {h : Heap} : ∀ {vs : List Value} {k : Sk} {j : Nat} (hj : j < vs.length), KVs h vs k → KV h vs[j] (nthK k j) ∧ dpK (nthK k j) + 1 ≤ dpK k
  | _ :: _, _, 0, _, .cons q r => ⟨q, by simp only [nthK, dpK]; omega⟩
  | _ :: _, _, j + 1, hj, .cons q r => by
    obtain ⟨a, b⟩ := KVs.at (j := j) (by simpa using hj) r
    exact ⟨a, by simp only [nthK, dpK] at *; omega⟩
theorem lexAt_shift (e r : Nat → Bool) (z : Bool) : ∀ (c i : Nat), lexAt e r z (i + 1) c = lexAt (fun j => e (j + 1)) (fun j => r (j + 1)) z i c
  | 0, i => rfl
  | c + 1, i => by rw [lexAt_succ, lexAt_succ, lexAt_shift e r z c (i + 1)]
theorem KVs.lex {h : Heap} : ∀ {vs us : List Value} {k k' : Sk}, KVs h vs k → KVs h us k' →
    lexAt (fun j => decide (nthK k j = nthK k' j)) (fun j => ltK (nthK k j) (nthK k' j)) (decide (vs.length < us.length)) 0 (min vs.length us.length) = ltK k k'
  | _, _, _, _, .nil, .nil => rfl
  | _, _, _, _, .nil, .cons _ _ => by simp [lexAt, ltK]
  | _, _, _, _, .cons _ _, .nil => by simp [lexAt, ltK]
  | _, _, _, _, .cons (vs := vs) (k := x) (ks := xs) q r, .cons (vs := us) (k := y) (ks := ys) q' r' => by
    have ih := KVs.lex r r'
    rw [List.length_cons, List.length_cons, Nat.succ_min_succ, lexAt_succ, lexAt_shift]
    simp only [ltK, Nat.add_lt_add_iff_right]
    by_cases e : x = y
    · rw [if_pos e, if_pos (decide_eq_true (show nthK (x.cons xs) 0 = nthK (y.cons ys) 0 from e))]; exact ih
    · rw [if_neg e, if_neg (fun z : decide (nthK (x.cons xs) 0 = nthK (y.cons ys) 0) = true => e (of_decide_eq_true z))]; rfl
theorem all_shift (e : Nat → Bool) (n : Nat) : (List.range (n + 1)).all e = (e 0 && (List.range n).all fun j => e (j + 1)) := by
  rw [List.range_succ_eq_map, List.all_cons, List.all_map]; rfl
theorem KVs.eqs {h : Heap} : ∀ {vs us : List Value} {k k' : Sk}, KVs h vs k → KVs h us k' →
    ((List.range (min vs.length us.length)).all (fun j => decide (nthK k j = nthK k' j)) && vs.length == us.length) = decide (k = k')
  | _, _, _, _, .nil, .nil => by simp
  | _, _, _, _, .nil, .cons _ _ => by simp
  | _, _, _, _, .cons _ _, .nil => by simp
  | _, _, _, _, .cons (vs := vs) (k := x) (ks := xs) q r, .cons (vs := us) (k := y) (ks := ys) q' r' => by
    have ih := KVs.eqs r r'
    rw [List.length_cons, List.length_cons, Nat.succ_min_succ, all_shift]
    have e2 : (vs.length + 1 == us.length + 1) = (vs.length == us.length) := by simp
    have e3 : (decide (nthK (x.cons xs) 0 = nthK (y.cons ys) 0) && decide (xs = ys)) = decide (x.cons xs = y.cons ys) := by
      rw [Bool.eq_iff_iff, Bool.and_eq_true, decide_eq_true_eq, decide_eq_true_eq, decide_eq_true_eq, Sk.cons.injEq]; exact Iff.rfl
    rw [e2, Bool.and_assoc, ← e3, ← ih]
    rfl
theorem KVs.notScal {h : Heap} {vs : List Value} {k : Sk} (r : KVs h vs k) : (∀ n, k ≠ .i n) ∧ ∀ x, k ≠ .s x := by
  cases r <;> exact ⟨by simp, by simp⟩
theorem IsTuple.same {h : Heap} {a : Addr} {x y : Array Value} (p : h.IsTuple a x) (q : h.IsTuple a y) : x = y := by
  obtain ⟨o, ho, _, n, hd⟩ := p
  obtain ⟨o', ho', _, n', hd'⟩ := q
  rw [ho] at ho'; cases ho'
  rw [hd] at hd'; cases hd'; rfl
mutual
theorem KV.fn {h : Heap} : ∀ {v : Value} {k k' : Sk}, KV h v k → KV h v k' → k = k'
  | _, _, _, .int _ _, .int _ _ => rfl
  | _, _, _, .str _ _, .str _ _ => rfl
  | _, _, _, .tup p r, .tup p' r' => by
    have e := IsTuple.same p p'
    subst e
    exact KVs.fn r r'
theorem KVs.fn {h : Heap} : ∀ {v : List Value} {k k' : Sk}, KVs h v k → KVs h v k' → k = k'
  | _, _, _, .nil, .nil => rfl
  | _, _, _, .cons q r, .cons q' r' => by rw [KV.fn q q', KVs.fn r r']
end
theorem str_inj {x y : Str} : x.cps.toList = y.cps.toList ↔ x = y := by
  constructor
  · intro h; cases x; cases y; simp at h; subst h; rfl
  · intro h; rw [h]
theorem KVs.dep {h : Heap} {vs : List Value} {k : Sk} (r : KVs h vs k) : 1 ≤ dpK k := by
  cases r with
  | nil => exact Nat.le_refl _
  | cons _ _ => simp only [dpK]; omega
theorem eqI (a b : Int) : (a == b) = decide (Sk.i a = Sk.i b) := by rw [Bool.eq_iff_iff]; simp
theorem eqS (a b : Str) : (a == b) = decide (Sk.s a.cps.toList = Sk.s b.cps.toList) := by
  rw [Bool.eq_iff_iff, beq_iff_eq, decide_eq_true_eq, Sk.s.injEq]; exact str_inj.symm
theorem KV.eqAt : ∀ (n : Nat) {A : Around} {s : Shared} {v u : Value} {k k' : Sk}, KV s.heap v k → KV s.heap u k' → dpK k ≤ n → dpK k' ≤ n → A.units + n < cLine → EqAt A s v u (decide (k = k')) := by
  intro n
  induction n with
  | zero =>
    intro A s v u k k' q q' d d' hu
    cases q with
    | int a t =>
      cases q' with
      | int b t' => rw [← eqI]; exact EqAt.int_int a t b t'
      | str b t' => simpa using EqAt.int_str (A := A) (s := s) a t b t'
      | tup p r => exact absurd r.dep (by omega)
    | str a t =>
      cases q' with
      | int b t' => simpa using EqAt.str_int (A := A) (s := s) a t b t'
      | str b t' =>
        rw [← eqS]; exact EqAt.str_str a t b t'
      | tup p r => exact absurd r.dep (by omega)
    | tup p r => exact absurd r.dep (by omega)
  | succ n ih =>
    intro A s v u k k' q q' d d' hu
    cases q with
    | int a t =>
      cases q' with
      | int b t' => rw [← eqI]; exact EqAt.int_int a t b t'
      | str b t' => simpa using EqAt.int_str (A := A) (s := s) a t b t'
      | tup p r =>
        have e : decide (Sk.i a = k') = false := by simpa using fun z => (r.notScal).1 a z.symm
        rw [e]; exact EqAt.int_tuple a t p (by omega)
    | str a t =>
      cases q' with
      | int b t' => simpa using EqAt.str_int (A := A) (s := s) a t b t'
      | str b t' =>
        rw [← eqS]; exact EqAt.str_str a t b t'
      | tup p r =>
        have e : decide (Sk.s a.cps.toList = k') = false := by simpa using fun z => (r.notScal).2 _ z.symm
        rw [e]; exact EqAt.str_tuple a t p (by omega)
    | tup p r =>
      rename_i la it
      cases q' with
      | int b t' =>
        have e : decide (k = Sk.i b) = false := by simpa using (r.notScal).1 b
        rw [e]; exact EqAt.tuple_int b t' p (by omega)
      | str b t' =>
        have e : decide (k = Sk.s b.cps.toList) = false := by simpa using (r.notScal).2 _
        rw [e]; exact EqAt.tuple_str b t' p (by omega)
      | tup p' r' =>
        rename_i lb it'
        by_cases hab : la = lb
        · subst hab
          have e := IsTuple.same p p'
          subst e
          have e := r.fn r'
          subst e
          simpa using EqAt.same (A := A) (s := s) (Value.ref la)
        · refine EqAt.of_refs hab ?_
          rw [← KVs.eqs r r', Array.length_toList, Array.length_toList]
          refine RcAt.tuples p p' (by omega) fun j h1 h2 => ?_
          obtain ⟨z1, z2⟩ := KVs.at (j := j) (by simpa using h1) r
          obtain ⟨z3, z4⟩ := KVs.at (j := j) (by simpa using h2) r'
          simp only [Array.getElem_toList] at z1 z3
          exact ih z1 z3 (by omega) (by omega) (by simp only [Around.in1]; omega)
end VI
namespace VI
open PySem L2 PySem.SeqAt Ob
theorem KVs.cmp {h : Heap} : ∀ {vs us : List Value} {k k' : Sk} {j : Nat}, KVs h vs k → KVs h us k' → cmpK k k' = true → j < vs.length → j < us.length → cmpK (nthK k j) (nthK k' j) = true
  | _, _, _, _, _, .nil, _, _, h1, _ => absurd h1 (Nat.not_lt_zero _)
  | _, _, _, _, _, .cons _ _, .nil, _, _, h1 => absurd h1 (Nat.not_lt_zero _)
  | _, _, _, _, 0, .cons (k := x) q r, .cons (k := y) q' r', c, _, _ => by
    simp only [cmpK, Bool.and_eq_true] at c
    exact c.1
  | _, _, _, _, j + 1, .cons (k := x) q r, .cons (k := y) q' r', c, h1, h2 => by
    simp only [cmpK, Bool.and_eq_true] at c
    exact KVs.cmp (j := j) r r' c.2 (by simpa using h1) (by simpa using h2)
theorem KVs.cmpI {h : Heap} {vs : List Value} {k : Sk} {n : Int} (r : KVs h vs k) : cmpK (.i n) k = false ∧ cmpK k (.i n) = false := by
  cases r <;> exact ⟨rfl, rfl⟩
theorem KVs.cmpS {h : Heap} {vs : List Value} {k : Sk} {n : List Nat} (r : KVs h vs k) : cmpK (.s n) k = false ∧ cmpK k (.s n) = false := by
  cases r <;> exact ⟨rfl, rfl⟩
theorem KV.ltAt : ∀ (n : Nat) {A : Around} {s : Shared} {v u : Value} {k k' : Sk}, KV s.heap v k → KV s.heap u k' → cmpK k k' = true → dpK k ≤ n → dpK k' ≤ n → A.units + n < cLine → RcOp .Lt A s v u (ltK k k') := by
  intro n
  induction n with
  | zero =>
    intro A s v u k k' q q' c d d' hu
    cases q with
    | int a t =>
      cases q' with
      | int b t' => exact RcOp.lt_int a b t t'
      | str b t' => simp [cmpK] at c
      | tup p r => rw [r.cmpI.1] at c; cases c
    | str a t =>
      cases q' with
      | int b t' => simp [cmpK] at c
      | str b t' => exact fun _ _ _ _ h => PyProof.Rows.lt_str h
      | tup p r => rw [r.cmpS.1] at c; cases c
    | tup p r => exact absurd r.dep (by omega)
  | succ n ih =>
    intro A s v u k k' q q' c d d' hu
    cases q with
    | int a t =>
      cases q' with
      | int b t' => exact RcOp.lt_int a b t t'
      | str b t' => simp [cmpK] at c
      | tup p r => rw [r.cmpI.1] at c; cases c
    | str a t =>
      cases q' with
      | int b t' => simp [cmpK] at c
      | str b t' => exact fun _ _ _ _ h => PyProof.Rows.lt_str h
      | tup p r => rw [r.cmpS.1] at c; cases c
    | tup p r =>
      cases q' with
      | int b t' => rw [r.cmpI.2] at c; cases c
      | str b t' => rw [r.cmpS.2] at c; cases c
      | tup p' r' =>
        have e := KVs.lex r r'
        rw [Array.length_toList, Array.length_toList] at e
        rw [← e]
        refine RcOp.tuples_lt p p' (by omega) (fun j h1 h2 => ?_) fun j h1 h2 _ => ?_
        · obtain ⟨z1, z2⟩ := KVs.at (j := j) (by simpa using h1) r
          obtain ⟨z3, z4⟩ := KVs.at (j := j) (by simpa using h2) r'
          simp only [Array.getElem_toList] at z1 z3
          exact KV.eqAt n z1 z3 (by omega) (by omega) (by simp only [Around.in1]; omega)
        · obtain ⟨z1, z2⟩ := KVs.at (j := j) (by simpa using h1) r
          obtain ⟨z3, z4⟩ := KVs.at (j := j) (by simpa using h2) r'
          simp only [Array.getElem_toList] at z1 z3
          exact ih z1 z3 (KVs.cmp r r' c (by simpa using h1) (by simpa using h2)) (by omega) (by omega) (by simp only [Around.in1]; omega)
/-- the machine's own look at two tuples -/
theorem KVs.katlex {prog : Program} {w : World} {A : Around} {s : Shared} {b : Bool} {Q : Bool → Shared → Prop} (hu : A.units + 64 < cLine) : ∀ {vs us : List Value} {k k' : Sk} (i : Nat), KVs s.heap vs k → KVs s.heap us k' → cmpK k k' = true → dpK k ≤ 60 → dpK k' ≤ 60 →
    ((i == 0) = true → ∀ v ∈ vs.head?, (∃ n t, v = .int n t) ∨ ∃ x t, v = .str x t) → Q (ltK k k') s →
    PySem.W.KatLex prog w A b (decide (vs.length < us.length)) Q (vs.zip us) i s
  | _, _, _, _, i, .nil, .nil, _, _, _, _, h => PySem.W.kat_nil h
  | _, _, _, _, i, .nil, .cons _ _, _, _, _, _, h => by
    rw [List.zip_nil_left]; simp only [List.length_nil, List.length_cons, Nat.zero_lt_succ, decide_true]; exact PySem.W.kat_nil h
  | _, _, _, _, i, .cons _ _, .nil, _, _, _, _, h => by
    rw [List.zip_nil_right]; simp only [List.length_nil, Nat.not_lt_zero, decide_false]; exact PySem.W.kat_nil h
  | _, _, _, _, i, .cons (v := v) (vs := vs) (k := x) (ks := xs) q r, .cons (v := u) (vs := us) (k := y) (ks := ys) q' r', c, d, d', hd, h => by
    simp only [cmpK, Bool.and_eq_true] at c
    simp only [dpK] at d d'
    rw [List.zip_cons_cons]
    have fin : decide ((v :: vs).length < (u :: us).length) = decide (vs.length < us.length) := by simp
    rw [fin]
    refine PySem.W.kat_cons (KV.eqAt 60 q q' (by omega) (by omega) (by omega) prog w _ _ ?_)
    refine PySem.W.kat_go (fun e1 => ?_) (fun e1 => ?_)
    · have e : x = y := by simpa using e1
      simp only [ltK, if_pos e] at h
      exact PySem.W.kat_yes (KVs.katlex hu (i + 1) r r' c.2 (by omega) (by omega) (fun z => by simp at z) h)
    · have e : ¬ x = y := by simpa using e1
      simp only [ltK, if_neg e] at h
      refine PySem.W.kat_no ?_
      have low : wpAny (model prog w) A (PyProof.Rows.oneLt' false v u) Q (fun _ _ => False) s := by
        refine PySem.W.kat_one _ _ (KV.ltAt 60 q q' c.1 (by omega) (by omega) (by omega) prog w _ _ ?_)
        exact h
      by_cases hi : (b && i == 0) = true
      · rw [hi]
        have hi0 : (i == 0) = true := by rw [Bool.and_eq_true] at hi; exact hi.2
        rcases hd hi0 v rfl with ⟨n, t, rfl⟩ | ⟨z, t, rfl⟩
        · cases q
          cases q' with
          | int m t' => exact PyProof.Rows.oneLt_int h
          | str m t' => simp [cmpK] at c
          | tup p r => rw [r.cmpI.1] at c; cases c.1
        · cases q
          cases q' with
          | int m t' => simp [cmpK] at c
          | str m t' => exact PyProof.Rows.oneLt_str h
          | tup p r => rw [r.cmpS.1] at c; cases c.1
      · have e : (b && i == 0) = false := by simpa using hi
        rw [e]; exact low
end VI
namespace VI
open PySem L2 PySem.SeqAt Ob
section
variable {X : Cx} {ct : Nat → Addr} {pins : List (Addr × Obj)} {σ : St} {s : Shared} {F H : Hp}
mutual
theorem Rp.kv (I : L2.Inv X pins σ H s) (sb : Ex F H) : ∀ {v : V} {d : D} {k : Sk} {u : Value}, Rp X.K ct F v d → skD d = some k → RelV v u → KV s.heap u k
  | _, .int i, k, u, .int _, e, r => by
    simp only [skD, Option.some.injEq] at e; subst e
    obtain ⟨t, rfl⟩ := r
    exact .int _ _
  | _, .str x, k, u, .str _, e, r => by
    simp only [skD, Option.some.injEq] at e; subst e
    obtain ⟨t, rfl⟩ := r
    exact .str _ _
  | _, .tup l, k, u, .tup h q, e, r => by
    simp only [skD] at e
    obtain rfl : u = Value.ref _ := r
    obtain ⟨its, rv, p, _⟩ := I.tuple ((sb.tpT h).sq (K := X.K))
    exact .tup (items := its.toArray) p (by simpa using RpA.kv I sb q e rv)
  | _, .non, k, u, _, e, r => by simp [skD] at e
  | _, .bl _, k, u, _, e, r => by simp [skD] at e
  | _, .lst _, k, u, _, e, r => by simp [skD] at e
  | _, .dic _, k, u, _, e, r => by simp [skD] at e
  | _, .ins _ _, k, u, _, e, r => by simp [skD] at e
  | _, .scr _, k, u, _, e, r => by simp [skD] at e
theorem RpA.kv (I : L2.Inv X pins σ H s) (sb : Ex F H) : ∀ {v : List V} {d : List D} {k : Sk} {u : List Value}, RpA X.K ct F v d → skAll d = some k → Vals v u → KVs s.heap u k
  | _, [], k, u, .nil, e, r => by
    simp only [skAll, Option.some.injEq] at e; subst e
    cases r; exact .nil
  | _, d :: ds, k, u, .cons h q, e, r => by
    unfold skAll at e
    cases e1 : skD d with
    | none => rw [e1] at e; cases e
    | some k1 =>
      cases e2 : skAll ds with
      | none => rw [e1, e2] at e; cases e
      | some k2 =>
        rw [e1, e2] at e; cases e
        cases r with
        | cons r1 r2 => exact .cons (Rp.kv I sb h e1 r1) (RpA.kv I sb q e2 r2)
end
end
end VI
namespace VI
open PySem L2 PySem.SeqAt Ob
section
variable {α : Type} {k k' : α → Sk}
theorem insK_congr {x : α} (h : k x = k' x) : ∀ {l : List α}, (∀ y ∈ l, k y = k' y) → insK k x l = insK k' x l
  | [], _ => rfl
  | y :: l, hl => by
    unfold insK
    rw [h, hl y (List.mem_cons_self ..), insK_congr h fun z hz => hl z (List.mem_cons_of_mem _ hz)]
theorem insK_mem {x y : α} : ∀ {l : List α}, y ∈ insK k x l → y = x ∨ y ∈ l
  | [], h => by simp [insK] at h; exact .inl h
  | z :: l, h => by
    unfold insK at h
    split at h
    · simpa using h
    · rcases List.mem_cons.mp h with q | q
      · exact .inr (q ▸ List.mem_cons_self ..)
      · rcases insK_mem q with q | q
        · exact .inl q
        · exact .inr (List.mem_cons_of_mem _ q)
theorem foldK_congr : ∀ {l acc : List α}, (∀ y ∈ l, k y = k' y) → (∀ y ∈ acc, k y = k' y) → l.foldl (fun acc x => insK k x acc) acc = l.foldl (fun acc x => insK k' x acc) acc
  | [], acc, _, _ => rfl
  | x :: l, acc, h1, h2 => by
    have hx := h1 x (List.mem_cons_self ..)
    rw [List.foldl_cons, List.foldl_cons, insK_congr hx h2]
    refine foldK_congr (fun y hy => h1 y (List.mem_cons_of_mem _ hy)) fun y hy => ?_
    rcases insK_mem hy with q | q
    · rw [q]; exact hx
    · exact h2 y q
theorem sortK_congr {l : List α} (h : ∀ y ∈ l, k y = k' y) : sortK k l = sortK k' l := foldK_congr h (by simp)
end
open Classical in
noncomputable def kvH (h : Heap) (u : Value) : Sk := if q : ∃ k, KV h u k then q.choose else .nil
theorem kvH_eq {h : Heap} {u : Value} {k : Sk} (q : KV h u k) : kvH h u = k := by
  unfold kvH
  rw [dif_pos ⟨k, q⟩]
  exact KV.fn (Exists.choose_spec (⟨k, q⟩ : ∃ k, KV h u k)) q
mutual
theorem KV.keeps {h h' : Heap} (e : ∀ b o, h.get? b = some o → o.cls = .type "tuple" → h'.get? b = some o) : ∀ {v : Value} {k : Sk}, KV h v k → KV h' v k
  | _, _, .int _ _ => .int _ _
  | _, _, .str _ _ => .str _ _
  | _, _, .tup p r => .tup (by obtain ⟨o, ho, hc, n, hd⟩ := p; exact ⟨o, e _ _ ho hc, hc, n, hd⟩) (KVs.keeps e r)
theorem KVs.keeps {h h' : Heap} (e : ∀ b o, h.get? b = some o → o.cls = .type "tuple" → h'.get? b = some o) : ∀ {v : List Value} {k : Sk}, KVs h v k → KVs h' v k
  | _, _, .nil => .nil
  | _, _, .cons q r => .cons (KV.keeps e q) (KVs.keeps e r)
end
/-- a tuple with a key whose first is an int (b), a text (not b) -/
def KT (h : Heap) (b : Bool) (v : Value) (k : Sk) : Prop := ∃ a items f, v = .ref a ∧ h.IsTuple a items ∧ KVs h items.toList k ∧ items.toList.head? = some f ∧ dpK k ≤ 60 ∧ (if b = true then ∃ n t, f = .int n t else ∃ x t, f = .str x t)
theorem KT.kv {h : Heap} {b : Bool} {v : Value} {k : Sk} (q : KT h b v k) : KV h v k := by
  obtain ⟨a, items, f, rfl, p, r, _⟩ := q; exact .tup p r
theorem KT.keeps {h h' : Heap} {b : Bool} {v : Value} {k : Sk} (e : ∀ b o, h.get? b = some o → o.cls = .type "tuple" → h'.get? b = some o) (q : KT h b v k) : KT h' b v k := by
  obtain ⟨a, items, f, rfl, p, r, z⟩ := q
  exact ⟨a, items, f, rfl, by obtain ⟨o, ho, hc, n, hd⟩ := p; exact ⟨o, e _ _ ho hc, hc, n, hd⟩, r.keeps e, z⟩
theorem firsts_KT {h : Heap} {b : Bool} : ∀ {vs : List Value}, (∀ v ∈ vs, ∃ k, KT h b v k) → ∃ fs : List Value, PySem.W.KatTups h vs fs ∧ fs.length = vs.length ∧ ∀ f ∈ fs, if b = true then ∃ n t, f = Value.int n t else ∃ x t, f = Value.str x t
  | [], _ => ⟨[], PySem.W.KatTups.nil, rfl, fun _ hm => by simp at hm⟩
  | v :: vs, hp => by
    obtain ⟨fs, h1, h2, h3⟩ := firsts_KT (vs := vs) fun v' hm => hp v' (List.mem_cons_of_mem _ hm)
    obtain ⟨k, a, items, f, rfl, ⟨o, ho, hc, n, hd⟩, r, hf, _, hb⟩ := hp v (List.mem_cons_self ..)
    have hf' : items[0]? = some f := by rw [← hf, List.head?_eq_getElem?, Array.getElem?_toList]
    refine ⟨f :: fs, PySem.W.KatTups.cons ho hc hd hf' h1, by rw [List.length_cons, List.length_cons, h2], fun g hm => ?_⟩
    rcases List.mem_cons.mp hm with rfl | hm
    · exact hb
    · exact h3 g hm
section
variable {prog : Program} {w : World} {A : Around} {E : Value → Shared → Prop} {s : Shared}
theorem KT.cmp {b : Bool} {vs : List Value} {key : Value → Sk} (hu : A.units + 64 < cLine) (hp : ∀ v ∈ vs, KT s.heap b v (key v)) (hc : ∀ v ∈ vs, ∀ u ∈ vs, cmpK (key v) (key u) = true) :
    SrtO.Cmp prog w A s (PyProof.Rows.tuples' true) (fun p => p.1 ∈ vs) (SrtO.lt2 fun v u => ltK (key v) (key u)) := by
  intro p q hm hm'
  obtain ⟨a, it, f, e, p1, r, hf, d, hb⟩ := hp _ hm
  obtain ⟨a', it', f', e', p1', r', hf', d', hb'⟩ := hp _ hm'
  have c := hc _ hm _ hm'
  show wpAny (model prog w) A (PyProof.Rows.keyLt' (PyProof.Rows.tuples' true) p.1 q.1) (fun r s' => s' = s ∧ r = ltK (key p.1) (key q.1)) (fun _ _ => False) s
  generalize key p.1 = k at *
  generalize key q.1 = k' at *
  rw [e, e']
  obtain ⟨o, ho, _, n, hd⟩ := p1
  obtain ⟨o', ho', _, n', hd'⟩ := p1'
  refine PySem.W.kat_lt ho hd ho' hd' ?_
  have z := KVs.katlex (prog := prog) (w := w) (b := true) (Q := fun r s' => s' = s ∧ r = ltK k k') hu 0 r r' c d d' (fun _ v hv => by
    rw [hf] at hv; cases hv
    cases b with
    | true => exact .inl hb
    | false => exact .inr hb) ⟨rfl, rfl⟩
  rw [Array.length_toList, Array.length_toList] at z
  exact z
theorem KT.sortable {b : Bool} {a : Addr} {vs : List Value} {key : Value → Sk} (hu : A.units + 64 < cLine) (h0 : 0 < vs.length) (hp : ∀ v ∈ vs, KT s.heap b v (key v)) (hc : ∀ v ∈ vs, ∀ u ∈ vs, cmpK (key v) (key u) = true) (ha : ∀ o, s.heap.get? a = some o → o.cls ≠ .type "tuple") :
    SrtO.SortableO prog w A s a vs fun v u => ltK (key v) (key u) := by
  intro h' keep
  have hp' : ∀ v ∈ vs, KT h' b v (key v) := fun v hm => (hp v hm).keeps fun b o e c => keep b o (fun z => by subst z; exact ha o e c) e
  obtain ⟨fs, h1, h2, h3⟩ := firsts_KT fun v hm => ⟨_, hp' v hm⟩
  refine ⟨PyProof.Rows.tuples' true, fun Q E hq => ?_, KT.cmp (s := { s with heap := h' }) hu hp' hc⟩
  cases b with
  | true =>
    refine PySem.W.kat_kind (T := .type "int") h1 (by omega) (fun f hm => ?_) (by rfl) ?_
    · obtain ⟨x, t, rfl⟩ := h3 f hm
      exact PySem.W.Looks.now
    · have e : (Value.type "int" != Value.type "tuple") = true := by first | decide +kernel | rfl | decide
      rw [e]
      exact hq
  | false =>
    refine PySem.W.kat_kind (T := .type "str") h1 (by omega) (fun f hm => ?_) (by rfl) ?_
    · obtain ⟨x, t, rfl⟩ := h3 f hm
      exact PySem.W.Looks.now
    · have e : (Value.type "str" != Value.type "tuple") = true := by first | decide +kernel | rfl | decide
      rw [e]
      exact hq
theorem KT.sorted {b : Bool} {l : Addr} {vs : List Value} {key : Value → Sk} {Q : Value → Shared → Prop} (hu : A.units + 66 < cLine) (hl : s.heap.IsList l vs.toArray) (hz : vs.length ≤ sizeLine) (hp : ∀ v ∈ vs, KT s.heap b v (key v)) (hc : ∀ v ∈ vs, ∀ u ∈ vs, cmpK (key v) (key u) = true)
    (h : ∀ (h' : Heap) (d : Addr), (∀ b o, s.heap.get? b = some o → h'.get? b = some o) → s.heap.objs.size ≤ d → (∃ n, h'.get? d = some (PyProof.Rows.seqObj "list" (sortK key vs).toArray n)) → Q (.ref d) { s with heap := h' }) :
    wpAny (model prog w) A (call (.builtin "sorted") [.ref l]) Q E s := by
  refine SrtO.sorted_ord (ltB_swo key) hl hz (fun h2 h₁ a ha kk => ?_) fun out hs hb => ?_
  · refine KT.sortable (s := { s with heap := h₁ }) (by simp only [Around.in1]; omega) (by omega) (fun v hm => (hp v hm).keeps fun b o e _ => (kk b o e).2) hc fun o e => ?_
    have e' : some o = some (PyProof.Rows.seqObj "list" vs.toArray 0) := e.symm.trans ha
    cases e'
    intro c
    exact absurd (Value.type.inj c) (by decide)
  · obtain ⟨g1, g2⟩ := sortK_ok key vs
    have e : out = sortK key vs := SrtO.stb_uniq (ltB_swo key) hs g1 (hb.trans ⟨g2.perm.symm, fun x => (g2.cls x).symm⟩)
    subst e
    exact h _ _ (fun b o e => PyProof.Rows.sortedAll_old e) (Nat.le_succ _) (PyProof.Rows.sortedAll_at s.heap vs _)
end
end VI
namespace VI
open PySem L2 PySem.SeqAt Ob
theorem RpA.ofPairs {K : PySem.W.Frag} {ct : Nat → Addr} {F : Hp} {α : Type} {f : α → V} {g : α → D} : ∀ {l : List α}, (∀ p ∈ l, Rp K ct F (f p) (g p)) → RpA K ct F (l.map f) (l.map g)
  | [], _ => .nil
  | p :: l, h => .cons (h p (List.mem_cons_self ..)) (RpA.ofPairs fun q hq => h q (List.mem_cons_of_mem _ hq))
section
variable {X : Cx} {ct : Nat → Addr} {pins : List (Addr × Obj)} {σ : St} {s : Shared} {F H : Hp}
/-- an item that may be sorted -/
def Srb (b : Bool) (d : D) : Prop := (∃ k, skD d = some k) ∧ dpK (keyOf d) ≤ 60 ∧ (if b = true then fstI d = true else fstS d = true)
theorem Srb.kt {b : Bool} {d : D} {v : V} {u : Value} (h : Srb b d) (I : L2.Inv X pins σ H s) (sb : Ex F H) (r : Rp X.K ct F v d) (ru : RelV v u) : KT s.heap b u (keyOf d) ∧ Rp X.K ct F (backV u) d ∧ v = backV u ∧ ∃ a, u = .ref a := by
  obtain ⟨⟨k, hk⟩, hd, hb⟩ := h
  have ek : keyOf d = k := by unfold keyOf; rw [hk]; rfl
  rw [ek] at hd ⊢
  have ht : ∃ e l, d = .tup (e :: l) ∧ (if b = true then ∃ i, e = .int i else ∃ x, e = .str x) := by
    cases b with
    | true =>
      simp only [if_true] at hb
      unfold fstI at hb
      split at hb
      · exact ⟨_, _, rfl, _, rfl⟩
      · cases hb
    | false =>
      simp only [Bool.false_eq_true, if_false] at hb
      unfold fstS at hb
      split at hb
      · exact ⟨_, _, rfl, _, rfl⟩
      · cases hb
  obtain ⟨e, l, rfl, he⟩ := ht
  have r0 := r
  cases r with
  | tup h q =>
    obtain rfl : u = Value.ref _ := ru
    refine ⟨?_, r0, rfl, _, rfl⟩
    simp only [skD] at hk
    obtain ⟨its, rv, p, _⟩ := I.tuple ((sb.tpT h).sq (K := X.K))
    have kv := RpA.kv I sb q hk rv
    cases q with
    | cons q1 q2 =>
      cases rv with
      | cons v1 v2 =>
        refine ⟨_, _, _, rfl, p, by simpa using kv, by simp; rfl, hd, ?_⟩
        cases b with
        | true =>
          obtain ⟨i, rfl⟩ := he
          cases q1
          obtain ⟨t, rfl⟩ := v1
          exact ⟨_, _, rfl⟩
        | false =>
          obtain ⟨i, rfl⟩ := he
          cases q1
          obtain ⟨t, rfl⟩ := v1
          exact ⟨_, _, rfl⟩
theorem srb_zip {b : Bool} (I : L2.Inv X pins σ H s) (sb : Ex F H) : ∀ {xs : List V} {us : List Value} {l : List D}, RpA X.K ct F xs l → Vals xs us → (∀ d ∈ l, Srb b d) → us.length = l.length ∧ xs = us.map backV ∧ (∀ u ∈ us, ∃ a, u = Value.ref a) ∧ ∀ p ∈ us.zip l, KT s.heap b p.1 (keyOf p.2) ∧ Rp X.K ct F (backV p.1) p.2
  | _, _, _, .nil, .nil, _ => ⟨rfl, rfl, by simp, by simp⟩
  | _, _, _, .cons h r, .cons hu ru, hs => by
    obtain ⟨e1, e2, e3, e4⟩ := srb_zip I sb r ru fun d hd => hs d (List.mem_cons_of_mem _ hd)
    obtain ⟨k1, k2, ev, a, ea⟩ := (hs _ (List.mem_cons_self ..)).kt I sb h hu
    refine ⟨by rw [List.length_cons, List.length_cons, e1], by rw [List.map_cons, ← ev, ← e2], fun u hm => ?_, fun p hm => ?_⟩
    · rcases List.mem_cons.mp hm with rfl | hm
      · exact ⟨a, ea⟩
      · exact e3 u hm
    · rw [List.zip_cons_cons] at hm
      rcases List.mem_cons.mp hm with rfl | hm
      · exact ⟨k1, k2⟩
      · exact e4 p hm
theorem txts_eq : ∀ {l : List D} {ys : List Str}, txts l = some ys → l = ys.map D.str
  | [], ys, h => by cases h; rfl
  | d :: l, ys, h => by
    unfold txts at h
    split at h
    · rename_i heq; cases heq
    · rename_i x l' heq
      cases heq
      obtain ⟨zs, q, rfl⟩ := Option.map_eq_some_iff.mp h
      rw [txts_eq q]; rfl
    · cases h
theorem rising_pw : ∀ (l : List Str) (p : Str), PyProof.Rows.risingS p l = true → (p :: l).Pairwise fun x y => ltK (.s y.cps.toList) (.s x.cps.toList) = false
  | [], p, _ => by simp
  | x :: l, p, h => by
    have h' : (!PySem.Spec.ltCps x.cps.toList p.cps.toList) = true ∧ PyProof.Rows.risingS x l = true := by simpa only [PyProof.Rows.risingS, Bool.and_eq_true] using h
    have ih := rising_pw l x h'.2
    have hxp : ltK (.s x.cps.toList) (.s p.cps.toList) = false := by
      have := h'.1
      rw [PyProof.Rows.ltCps_eq] at this
      simpa [ltK] using this
    rw [List.pairwise_cons]
    refine ⟨fun y hy => ?_, ih⟩
    rcases List.mem_cons.mp hy with rfl | hy
    · exact hxp
    · have hyx := (List.pairwise_cons.mp ih).1 y hy
      exact ltK_swo.tr (.s p.cps.toList) (.s x.cps.toList) (.s y.cps.toList) hxp hyx
theorem sort_strs {l : List D} {zs ws : List Str} (h : l = zs.map D.str) (hp : ws.Perm zs) (hs : PyProof.Rows.sortedS ws = true) : sortK keyOf l = ws.map D.str := by
  subst h
  rw [← sortK_map keyOf D.str]
  congr 1
  have hk : ∀ z : Str, keyOf (D.str z) = .s z.cps.toList := fun z => by simp [keyOf, skD]
  have o := sortK_ok (fun z : Str => keyOf (D.str z)) zs
  refine List.Perm.eq_of_pairwise (le := fun x y : Str => ltK (.s y.cps.toList) (.s x.cps.toList) = false) (fun a b _ _ h1 h2 => ?_) ?_ ?_ (o.2.perm.trans hp.symm)
  · have := ltK_eq h2 h1
    cases a; cases b
    injection this with this
    simp at this
    rw [this]
  · refine o.1.imp fun {x y} h => ?_
    have h' : ltK (keyOf (D.str y)) (keyOf (D.str x)) = false := h
    rwa [hk, hk] at h'
  · cases ws with
    | nil => exact List.Pairwise.nil
    | cons x ws => exact rising_pw ws x hs
theorem bi_sorted (hu : X.A.units + 66 < cLine) : CallR X (.builtin "sorted") (rN X.K ct biSorted) := by
  intro pins s σ H xs us Q I rs h
  obtain ⟨F, ds, r, sb, hx, hf, k⟩ := h
  unfold biSorted at hf
  split at hf <;> try cases hf
  rename_i l
  obtain ⟨v, rfl, h1⟩ := all1 hx
  obtain ⟨a, ys, rfl, h2, r1⟩ := h1.lst sb
  split at hf
  case isFalse =>
    split at hf
    · rename_i zs e1
      split at hf
      · rename_i h64
        cases hf
        have e2 := r1.txts e1
        subst e2
        refine cr_sortedS pins s σ H _ us Q I rs ⟨a, zs, rfl, SqL.of h2, h64, fun ws p g1 g2 g3 => ?_⟩
        have e3 : sortK keyOf l = ws.map D.str := sort_strs (txts_eq e1) g1 g2
        rw [e3] at k
        exact k _ _ _ (outLst g3 (RpA.ofStrs ws))
      · cases hf
    · cases hf
  rename_i hS
  cases hf
  obtain ⟨its, rv, hl, hz⟩ := I.list (SqL.of (K := X.K) h2)
  obtain ⟨u, rfl, ru⟩ := vals1 rs
  obtain rfl : u = Value.ref a := ru
  unfold sortable at hS
  simp only [Bool.and_eq_true, Bool.or_eq_true, List.all_eq_true, decide_eq_true_eq] at hS
  obtain ⟨⟨hS1, hS2⟩, hS3⟩ := hS
  have hb : ∃ b, ∀ d ∈ l, Srb b d := by
    rcases hS2 with q | q
    · exact ⟨true, fun d hd => ⟨Option.isSome_iff_exists.mp (hS1 d hd).1, (hS1 d hd).2, q d hd⟩⟩
    · exact ⟨false, fun d hd => ⟨Option.isSome_iff_exists.mp (hS1 d hd).1, (hS1 d hd).2, q d hd⟩⟩
  obtain ⟨b, hb⟩ := hb
  obtain ⟨e1, e2, e3, e4⟩ := srb_zip I sb r1 rv hb
  have m1 : (its.zip l).map Prod.fst = its := List.map_fst_zip (by omega)
  have m2 : (its.zip l).map Prod.snd = l := List.map_snd_zip (by omega)
  have inP : ∀ u ∈ its, ∃ d, (u, d) ∈ its.zip l := fun u hm => by
    rw [← m1] at hm
    obtain ⟨p, hp, rfl⟩ := List.mem_map.mp hm
    exact ⟨p.2, hp⟩
  have key : ∀ p ∈ its.zip l, kvH s.heap p.1 = keyOf p.2 := fun p hp => kvH_eq (e4 p hp).1.kv
  refine KT.sorted (b := b) (key := kvH s.heap) hu hl.isList (by rw [← rv.length]; exact hz) (fun v hv => ?_) (fun v hv w hw => ?_) fun h' d kp hd hn => ?_
  · obtain ⟨d, hd⟩ := inP v hv
    rw [key _ hd]
    exact (e4 _ hd).1
  · obtain ⟨d, hd⟩ := inP v hv
    obtain ⟨d', hd'⟩ := inP w hw
    rw [key _ hd, key _ hd']
    refine hS3 d ?_ d' ?_
    · rw [← m2]; exact List.mem_map.mpr ⟨_, hd, rfl⟩
    · rw [← m2]; exact List.mem_map.mpr ⟨_, hd', rfl⟩
  · obtain ⟨n, hn⟩ := hn
    have s1 : (sortK (fun p : Value × D => kvH s.heap p.1) (its.zip l)).map Prod.fst = sortK (kvH s.heap) its := by
      rw [sortK_map (kvH s.heap) Prod.fst, m1]
    have s2 : (sortK (fun p : Value × D => kvH s.heap p.1) (its.zip l)).map Prod.snd = sortK keyOf l := by
      rw [sortK_congr (k' := fun p : Value × D => keyOf p.2) key, sortK_map keyOf Prod.snd, m2]
    have pm := (sortK_ok (fun p : Value × D => kvH s.heap p.1) (its.zip l)).2.perm
    have rr : RpA X.K ct F ((sortK (kvH s.heap) its).map backV) (sortK keyOf l) := by
      rw [← s1, ← s2, List.map_map]
      exact RpA.ofPairs fun p hp => (e4 p (pm.mem_iff.mp hp)).2
    have pm' := (sortK_ok (kvH s.heap) its).2.perm
    refine ⟨.ref d, upd H d (.lst ((sortK (kvH s.heap) its).map backV)), I.laid (t' := s.toks) kp hd ⟨?_, _, n, vals_back fun u hu => e3 u (pm'.mem_iff.mp hu), hn⟩, rfl, k _ _ _ (outLst (I.hok.fresh hd) rr)⟩
    rw [List.length_map, pm'.length_eq, ← rv.length]
    exact hz
end
end VI
namespace VI
open PySem L2
/-- what is known of the module -/
structure Gf (P : Pg) (ct fa : Nat → Addr) (fd : Nat → FuncData) (cf : Nat → List Sl → Option (R × List Sl)) (k : Nat) (Pr : Program) (w : World) (K : PySem.W.Frag) (mg : Str → Option Value) (base : Heap) : Prop where
  fn : ∀ (f : Nat) (fn : Fn), P.fns[f]? = some fn → FnG Pr w K mg base k (fa f) (fd f) fn.ps (spF K ct (cf f) fn.ps.length)
  bn : ∀ (f : Nat) (fn : Fn), P.fns[f]? = some fn → Binds K (fd f) fn.ps []
  glo : ∀ (f : Nat) (fn : Fn), P.fns[f]? = some fn → fn.glo = true → mg fn.name = some (.ref (fa f)) ∧ PySem.W.keepIn K (.ref (fa f)) = true
  kw : ∀ (f : Nat) (ks : List Str) (n : Nat) (perm : List Nat) (fn : Fn), (f, ks, n, perm) ∈ P.kws → P.fns[f]? = some fn → KwB K (fd f) fn.ps ks n perm
  cl : ∀ (c : Nat) (cl : Cl), P.cls[c]? = some cl → mg cl.name = some (.ref (ct c)) ∧ Mk K (ct c) (fa cl.init)
  mt : ∀ (c : Nat) (cl : Cl), P.cls[c]? = some cl → ∀ (m : Str) (f : Nat), cl.meths.lookup m = some f → Meth K (ct c) m (fa f)
  ok : ∀ c, Cls K (ct c)
  na : ∀ c, ∀ f ∈ P.flds, NoAttr K (ct c) f
  cs : ∀ (x : Str) (c : Ct), P.cs.lookup x = some c → ∃ u, mg x = some u ∧ RelV c.v u
  free : ∀ x ∈ P.free, mg x = none
  kit : KitF K ct P.cls.length
  len : ∀ (f : Nat) (fn : Fn) ss r ss', P.fns[f]? = some fn → cf f ss = some (r, ss') → ss.length = fn.ps.length ∧ ss'.length = ss.length
section
variable {P : Pg} {N : List Str} {ct fa : Nat → Addr} {fd : Nat → FuncData} {cf : Nat → List Sl → Option (R × List Sl)} {k : Nat}
structure CtV (P : Pg) (N : List Str) (ct fa : Nat → Addr) (fd : Nat → FuncData) (cf : Nat → List Sl → Option (R × List Sl)) (k : Nat) (X : Cx) (sc : Scope) : Prop where
  g : Gf P ct fa fd cf k X.prog X.w X.K X.mg X.base
  hN : X.N = N
  nd : N.Nodup
  hsc : X.env.scope = sc
  kind : sc.kind = .function
  calm : X.calm = true
  gd : X.A.guards = some []
  room : Room (k + 3) X.A
theorem nm_of {i : Nat} {y : Str} (h : nmB N i y = true) : N[i]? = some y ∧ (y == ("__debug__" : Str)) = false ∧ (y == ("__classdict__" : Str)) = false := by
  unfold nmB at h
  simp only [Bool.and_eq_true, Bool.not_eq_true', decide_eq_true_eq] at h
  exact ⟨h.1.1, h.1.2, h.2⟩
theorem CtV.var {X : Cx} {sc : Scope} {i : Nat} {y : Str} {p : Pos} (C : CtV P N ct fa fd cf k X sc) (h : nmB N i y = true) (hv : visB sc y = true) : PE X (.Name y p) (tV X.K ct (varM i)) := by
  obtain ⟨h1, h2, h3⟩ := nm_of h
  exact pe_varV (by rw [C.hN]; exact h1) (by rw [C.hsc]; exact vis_of hv) h2 h3
/-- names that may be stored to -/
def Sto (X : Cx) (osc : Scope) : Prop := ∀ x, locB osc x = true → Loc X.env.scope x ∧ (X.fn x = true ∨ X.env.scope.names.lookup x = some .local)
theorem pgs_ofB {X : Cx} {osc : Scope} (hN : X.N = N) (nd : N.Nodup) (hs : Sto X osc) : ∀ {is : List Nat} {es : List Expr}, tgB N osc is es = true → PGs X es (gDs X.K ct is) ∧ (assignEach es X.env).length = is.length ∧ (assignEach es X.env).findIdx? (·.1) = none
  | [], [], _ => ⟨pgs_nilV, rfl, rfl⟩
  | [], _ :: _, h => nomatch h
  | _ :: _, [], h => nomatch h
  | i :: is, e :: es, h => by
    cases e with
    | Name y p =>
      unfold tgB at h
      simp only [Bool.and_eq_true] at h
      obtain ⟨⟨h1, h2⟩, h3⟩ := h
      obtain ⟨a1, a2, a3⟩ := pgs_ofB hN nd hs h3
      obtain ⟨b1, b2⟩ := hs y h2
      refine ⟨pgs_consV (pg_nmV (by rw [hN]; exact nd) (by rw [hN]; exact (nm_of h1).1) b1 b2) a1 rfl, congrArg (· + 1) a2, ?_⟩
      show List.findIdx? _ ((false, _) :: assignEach es X.env) = none
      rw [List.findIdx?_cons, a3]; rfl
    | _ => cases h
theorem pgs_setB {X : Cx} {osc : Scope} (hN : X.N = N) (nd : N.Nodup) (hs : Sto X osc) : ∀ {is : List Nat} {es : List Expr}, tgB N osc is es = true → PGs X es (gSet is) ∧ (assignEach es X.env).length = is.length ∧ (assignEach es X.env).findIdx? (·.1) = none
  | [], [], _ => ⟨pgs_set0, rfl, rfl⟩
  | [], _ :: _, h => nomatch h
  | _ :: _, [], h => nomatch h
  | i :: is, e :: es, h => by
    cases e with
    | Name y p =>
      unfold tgB at h
      simp only [Bool.and_eq_true] at h
      obtain ⟨⟨h1, h2⟩, h3⟩ := h
      obtain ⟨a1, a2, a3⟩ := pgs_setB hN nd hs h3
      obtain ⟨b1, b2⟩ := hs y h2
      refine ⟨pgs_set1 (pg_name (by rw [hN]; exact nd) (by rw [hN]; exact (nm_of h1).1) b1 b2) a1 rfl, congrArg (· + 1) a2, ?_⟩
      show List.findIdx? _ ((false, _) :: assignEach es X.env) = none
      rw [List.findIdx?_cons, a3]; rfl
    | _ => cases h
theorem pg_ofB {X : Cx} {osc : Scope} {t : Tg} {tg : Expr} (hN : X.N = N) (nd : N.Nodup) (hc : X.calm = true) (hs : Sto X osc) (h : chkTg N osc t tg = true) : PG X tg (gD X.K ct t) := by
  unfold chkTg at h
  split at h
  · simp only [Bool.and_eq_true] at h
    obtain ⟨b1, b2⟩ := hs _ h.2
    exact pg_nmV (by rw [hN]; exact nd) (by rw [hN]; exact (nm_of h.1).1) b1 b2
  · obtain ⟨a1, a2, a3⟩ := pgs_ofB hN nd hs h
    exact pg_tuV hc a1 a2 a3
  · cases h
theorem CtV.blk {X : Cx} {sc scope : Scope} (C : CtV P N ct fa fd cf k X sc) (hk : scope.kind = .function) (s : Shared) (H : Hp) (Ca : Addr) (cl : List (Str × Addr)) (fp : List Addr) :
    CtV P N ct fa fd cf k (X.blk s H scope (compEnvC scope cl Ca X.env) fp) (relS scope sc) := by
  refine ⟨C.g, C.hN, C.nd, ?_, hk, C.calm, C.gd, C.room⟩
  show relS scope X.env.scope = relS scope sc
  rw [C.hsc]
theorem Sto.blk {X : Cx} {scope : Scope} (s : Shared) (H : Hp) (Ca : Addr) (cl : List (Str × Addr)) (fp : List Addr) : Sto (X.blk s H scope (compEnvC scope cl Ca X.env) fp) scope := fun x h => by
  have e : (X.blk s H scope (compEnvC scope cl Ca X.env) fp).env.scope = relS scope X.env.scope := rfl
  rw [e]
  rcases loc_of h with q | q
  · exact ⟨.inl (relS_look q (by decide)), .inr (relS_look q (by decide))⟩
  · refine ⟨.inr (relS_look q (by decide)), .inl ?_⟩
    show (scope.names.lookup x == some .cell) = true
    rw [q]; rfl
theorem pe_negV {X : Cx} {a : Expr} {ma : Env' → Option (R × Env')} {pos : Pos} (h : PE X a (tV X.K ct ma)) : PE X (.UnaryOp .USub a pos) (tV X.K ct (negM ma)) := by
  refine (pe_un un_neg h).vimp fun σ H Q ⟨z, F, env, rel, r, env', eq, k⟩ => ?_
  unfold negM at eq
  split at eq
  · rename_i i env1 q
    cases eq
    refine ⟨z, F, env, rel, _, _, q, fun v F' H' ex R1 rp => ?_⟩
    cases rp
    exact ⟨i, rfl, k _ F' H' ex R1 (.int _)⟩
  · cases eq
theorem CtV.isi {X : Cx} {sc : Scope} {b : Bi} {t : Str} {p : Pos} (C : CtV P N ct fa fd cf k X sc) (h : isiB P sc b t = true) : PE X (.Name t p) (tC (clsV ct b)) := by
  unfold isiB at h
  split at h
  · rename_i c
    split at h
    · rename_i cl hc
      simp only [Bool.and_eq_true, Bool.not_eq_true', decide_eq_true_eq] at h
      obtain ⟨⟨h1, h2⟩, h3⟩ := h
      subst h1
      exact pe_glob (gl_of C.hsc h2) (C.g.cl c cl hc).1 rfl h3
    · cases h
  · simp only [Bool.and_eq_true, decide_eq_true_eq] at h
    obtain ⟨⟨⟨h1, h2⟩, h3⟩, h4⟩ := h
    subst h2
    have g := gl_of C.hsc h4
    have m := C.g.free _ h3
    cases b with
    | isStr => exact pe_bltn (u := .type "str") g m (by decide +kernel) rfl (by decide) (by decide)
    | isTuple => exact pe_bltn (u := .type "tuple") g m (by decide +kernel) rfl (by decide) (by decide)
    | isInt => exact pe_bltn (u := .type "int") g m (by decide +kernel) rfl (by decide) (by decide)
    | isBool => exact pe_bltn (u := .type "bool") g m (by decide +kernel) rfl (by decide) (by decide)
    | _ => cases h1
/-! ### built-in functions -/
theorem pe_biV {X : Cx} {sc : Scope} {b : Bi} {y : Str} {p pos : Pos} {a : Expr} {args : List Expr} {ms : Env' → Option (List R × Env')} (C : CtV P N ct fa fd cf k X sc) (hk : biKnown b = true) (hy : y = (biName b : Str)) (hf : y ∈ P.free) (hg : glB sc y = true) (ha : PA X (a :: args) (tR X.K ct ms))
    (hs : isStar a = false) (hss : (args.all fun e => !isStar e) = true) : PE X (.Call (.Name y p) (a :: args) [] pos) (tV X.K ct (biM (biD b) ms)) := by
  have g := gl_of C.hsc hg
  have m := C.g.free y hf
  subst hy
  cases b with
  | len => exact pe_biB bi_len g m (by rfl) ha (by decide) (by decide) hs hss
  | all => exact pe_biB (bi_all C.calm) g m (by rfl) ha (by decide) (by decide) hs hss
  | any => exact pe_biB (bi_any C.calm) g m (by rfl) ha (by decide) (by decide) hs hss
  | tuple => exact pe_biT bi_tuple g m (by rfl) ha (by decide) (by decide) hs hss
  | list => exact pe_biT bi_list g m (by rfl) ha (by decide) (by decide) hs hss
  | int => exact pe_biT bi_int g m (by rfl) ha (by decide) (by decide) hs hss
  | abs => exact pe_biB bi_abs g m (by rfl) ha (by decide) (by decide) hs hss
  | max2 => exact pe_biB (bi_max2 C.calm) g m (by rfl) ha (by decide) (by decide) hs hss
  | min2 => exact pe_biB (bi_min2 C.calm) g m (by rfl) ha (by decide) (by decide) hs hss
  | divmod => exact pe_biB bi_divmod g m (by rfl) ha (by decide) (by decide) hs hss
  | repr => exact pe_biB (bi_repr C.gd (by have := C.room.un; omega)) g m (by rfl) ha (by decide) (by decide) hs hss
  | sorted => exact pe_biB (bi_sorted (by have := C.room.un; omega)) g m (by rfl) ha (by decide) (by decide) hs hss
  | _ => cases hk
end
end VI
namespace VI
open PySem L2
section
variable {X : Cx} {ct : Nat → Addr} {m : Env' → Option (R × Env')} {ms : Env' → Option (List R × Env')}
/-! a method of a tuple -/
def tBT (r : V → List V → Hp → VK → Prop) (to : TE) (t : TA) : TE := fun σ H Q => to σ H fun x H1 => (∃ a xs, x = .ref a ∧ TpT H1 a xs) ∧ t σ H1 fun xs H2 => r x xs H2 Q
theorem pe_bmTup {o e : Expr} {es : List Expr} {to : TE} {t : TA} {name : Str} {apos cpos : Pos} {id : String} {r : V → List V → Hp → VK → Prop} (slot : Slot "tuple" name id) (hty : typeOf (.builtin id) = pure (.type "method_descriptor")) (hm : MtR X id r) (ho : PE X o to) (ha : PA X (e :: es) t)
    (hbase : attributeBase o name X.env (eval o X.env) = eval o X.env)
    (hfew : ((backTo cpos (starEach (e :: es) X.env)).all (fun x => !x.1) && (backToKw cpos (keywordEach [] X.env)).all (fun x => x.1.isSome)
      && decide ((e :: es).length + ([] : List Keyword).length + (if ([] : List Keyword).isEmpty then 0 else 1) < 30)) = true)
    (hline : (apos.endLine == cpos.line) = true) (hs : starEach (e :: es) X.env = (false, eval e X.env) :: starEach es X.env) (hplain : (backTo cpos (starEach es X.env)).any (·.1) = false) :
    PE X (.Call (.Attribute o name apos) (e :: es) [] cpos) (tBT r to t) := by
  refine ⟨fun pins s σ H Q I h => ?_⟩
  refine wpAny_Call_method_late hbase hfew hline rfl (thn (ho.run pins s σ H _ I h) fun v s1 ⟨x, H1, I1, r1, ⟨a, xs, ex, o1, ht, hc, hd⟩, q1⟩ => ?_)
  subst ex
  cases r1
  have hg : s1.heap.get? a = some o1 := (I1.hok a _ ht).1
  refine ⟨"tuple", id, PySem.F.plainAttrs_tuple, slot, hty, ⟨o1, hg, hc⟩, fun b e => by cases e; exact ⟨o1, hg, hd⟩, ?_⟩
  have hA := ha.run cpos pins s1 σ H1 _ I1 q1
  rw [hs] at hA ⊢
  refine Calls.callWith_builtin (by show (false || (backTo cpos (starEach es X.env)).any (·.1)) = false; rw [hplain] <;> rfl) (Calls.evalArgs_plain ?_)
  exact thn hA fun us s2 ⟨vs, H2, I2, r2, q2⟩ => hm pins s2 σ H2 (.ref a) vs (.ref a) us Q I2 rfl r2 q2
theorem t_bt {K : PySem.W.Frag} {f : D → List D → Option R} {σ : St} {H : Hp} {Q : VK} (ht : ∀ d ds r, f d ds = some r → ∃ l, d = .tup l) (hk : ∀ env env1 r, pz (m env) = some (r, env1) → ∃ d, r = .dt d)
    (w : tV K ct (bmM f m ms) σ H Q) : tBT (rM K ct f) (tV K ct fun env => pz (m env)) (tR K ct ms) σ H Q := by
  obtain ⟨z, F, env, rel, r, env', eq, k⟩ := w
  unfold bmM at eq
  cases q : pz (m env) with
  | none => rw [q] at eq; cases eq
  | some p =>
    obtain ⟨x, env1⟩ := p
    rw [q] at eq
    simp only at eq
    cases q2 : ms env1 with
    | none => rw [q2] at eq; cases eq
    | some p2 =>
      obtain ⟨rs, env2⟩ := p2
      rw [q2] at eq
      simp only at eq
      cases o1 : opD env2 x with
      | none => rw [o1] at eq; cases eq
      | some d =>
        cases q3 : rs.mapM (opD env2) with
        | none => rw [o1, q3] at eq; cases eq
        | some ds =>
          rw [o1, q3] at eq
          simp only at eq
          cases hf : f d ds with
          | none => rw [hf] at eq; cases eq
          | some r0 =>
            rw [hf] at eq
            cases eq
            obtain ⟨d0, rfl⟩ := hk env env1 x q
            cases o1
            refine ⟨z, F, env, rel, _, env1, q, fun v1 F1 H1 e1 R1 p1 => ⟨?_, z, F1, env1, R1, rs, _, q2, fun vs F2 H2 e2 R2 ra => ?_⟩⟩
            · obtain ⟨l, rfl⟩ := ht _ _ _ hf
              cases p1 with
              | tup h _ => exact ⟨_, _, rfl, R1.r.sub.tpT h⟩
            · refine ⟨F2, d, ds, _, R2.r.sub, .inl (Rp.mono e2 p1), mapM_ops R2 ra q3, hf, fun v F3 H3 o => ?_⟩
              obtain ⟨e3, R3, p3⟩ := o.rel R2
              exact k v F3 H3 ((e1.trans e2).trans e3) R3 p3
theorem idx_tup {d : D} {ds : List D} {r : R} (e : bmIndex d ds = some r) : ∃ l, d = .tup l := by
  unfold bmIndex at e
  split at e
  · exact ⟨_, rfl⟩
  · cases e
theorem pe_bmV {b : Bm} {o a : Expr} {mm : Str} {apos pos : Pos} (hm : mm = (bmName b : Str)) (ho : PE X o (tV X.K ct m)) (ha : PA X [a] (tR X.K ct ms)) (hs : isStar a = false) (hn : isNoArg o = false) (hl : (apos.endLine == pos.line) = true) :
    PE X (.Call (.Attribute o mm apos) [a] [] pos) (tV X.K ct (bmM (bmD b) (dataM m) ms)) := by
  subst hm
  cases b with
  | join =>
    refine (pe_bm PySem.F.plainAttrs_str PySem.F.slot_str_join PySem.F.type_str_join bm_join ho.vdata.vpz ha (base_of hn) (few_one hs) hl (star_of hs) rfl).vimp fun σ H Q w => t_bm (fun F H v d ds r s h e => ?_) (fun env env1 r h => dataM_k h) w
    unfold bmD bmJoin at e
    split at e <;> first | exact str_tyV h | cases e
  | split =>
    refine (pe_bm PySem.F.plainAttrs_str PySem.F.slot_str_split PySem.F.type_str_split bm_split ho.vdata.vpz ha (base_of hn) (few_one hs) hl (star_of hs) rfl).vimp fun σ H Q w => t_bm (fun F H v d ds r s h e => ?_) (fun env env1 r h => dataM_k h) w
    unfold bmD bmSplit at e
    split at e <;> first | exact str_tyV h | cases e
  | partition =>
    refine (pe_bm PySem.F.plainAttrs_str PySem.F.slot_str_partition PySem.F.type_str_partition bm_partition ho.vdata.vpz ha (base_of hn) (few_one hs) hl (star_of hs) rfl).vimp fun σ H Q w => t_bm (fun F H v d ds r s h e => ?_) (fun env env1 r h => dataM_k h) w
    unfold bmD bmPartition at e
    split at e <;> first | exact str_tyV h | cases e
  | index => exact (pe_bmTup PySem.F.slot_tuple_index PySem.F.type_tuple_index bm_index ho.vdata.vpz ha (base_of hn) (few_one hs) hl (star_of hs) rfl).vimp fun σ H Q w => t_bt (fun d ds r e => idx_tup e) (fun env env1 r h => dataM_k h) w
theorem kwNames_len : ∀ {kws : List Keyword}, kwAll kws = true → (kwNames kws).length = kws.length
  | [], _ => rfl
  | ⟨none, _, _⟩ :: _, h => by unfold kwAll at h; cases h
  | ⟨some x, _, _⟩ :: kws, h => by
    unfold kwAll at h
    unfold kwNames
    exact congrArg (· + 1) (kwNames_len h)
def isBo : Expr → Bool
  | .BoolOp _ _ _ => true
  | _ => false
/-- an expression as a value, as a test -/
structure Trip (X : Cx) (ct : Nat → Addr) (x : Expr) (m : Env' → Option (R × Env')) : Prop where
  pe : PE X x (tV X.K ct m)
  pt : tstB x = true → PT X x (VI.tB X.K ct (boolM m))
  pw : isBo x = true → PW X x (VI.tB X.K ct (boolM m))
theorem Trip.plain {x : Expr} (h : PE X x (tV X.K ct m)) (hp : isPlainT x = true) (hb : isBo x = false) : Trip X ct x m := ⟨h, fun _ => pt_valV h hp, fun q => by rw [hb] at q; cases q⟩
end
section
variable (P : Pg) (N : List Str) (ct fa : Nat → Addr) (fd : Nat → FuncData) (cf : Nat → List Sl → Option (R × List Sl)) (k : Nat)
def GoodE (e : E) : Prop := ∀ sc x, chkE P N e sc x = true → ∀ X, CtV P N ct fa fd cf k X sc → Trip X ct x (evE P cf e)
structure PEs (X : Cx) (es : Es) (l : List Expr) : Prop where
  v : PA X l (tA X.K ct (evV P cf es))
  p : PA X l (tR X.K ct (evPs P cf es))
  a : ∀ mt, PA X l (tRB X.K ct (evA P cf es mt))
  r : PA X l (tRB X.K ct (evR P cf es))
  s : (l.all fun e => !isStar e) = true
  n : es = .nil ↔ l = []
def GoodEs (es : Es) : Prop := ∀ sc l, chkEs P N es sc l = true → ∀ X, CtV P N ct fa fd cf k X sc → PEs P ct cf X es l
def GoodK (es : Es) : Prop := ∀ sc l, chkK P N es sc l = true → ∀ X, CtV P N ct fa fd cf k X sc → PK X l (tA X.K ct (evV P cf es)) ∧ ∀ env ds env', evV P cf es env = some (ds, env') → ds.length = l.length
def GoodO (e : Eo) : Prop := ∀ sc l, chkO P N e sc l = true → ∀ X, CtV P N ct fa fd cf k X sc → PO X l (tOi X.K ct (evO P cf e))
def GoodC (e : Eo) : Prop := ∀ sc l, chkC P N e sc l = true → ∀ X, CtV P N ct fa fd cf k X sc → PTs X l (VI.tB X.K ct (evC P cf e))
def GoodI (e : It) : Prop := ∀ sc tg x, chkI P N e sc tg x = true → ∀ X, CtV P N ct fa fd cf k X sc → PI X tg x (tI X.K ct (itB e) (evI P cf e))
end
section
variable {P : Pg} {N : List Str} {ct fa : Nat → Addr} {fd : Nat → FuncData} {cf : Nat → List Sl → Option (R × List Sl)} {k : Nat}
theorem CtV.units {X : Cx} {sc : Scope} (C : CtV P N ct fa fd cf k X sc) : X.A.units + 65 < cLine := by have := C.room.un; omega
theorem CtV.rm {X : Cx} {sc : Scope} (C : CtV P N ct fa fd cf k X sc) : Room k X.A := C.room.mono (by omega)
theorem CtV.rm1 {X : Cx} {sc : Scope} (C : CtV P N ct fa fd cf k X sc) : Room (k + 1) X.A := C.room.mono (by omega)
theorem fn_at {f : Nat} (h : f < P.fns.length) : ∃ fn, P.fns[f]? = some fn := ⟨_, List.getElem?_eq_getElem h⟩
/-- the parts of a comprehension -/
structure LcP (b0 : Bool) (X : Cx) (ct : Nat → Addr) (sc scope : Scope) (N : List Str) (vs : List Nat) (t : Tg) (tg iter elt : Expr) (ifs : List Expr) (mi : Env' → Option (List D × Env')) (mc : Env' → Option (Bool × Env')) (me : Env' → Option (R × Env')) : Prop where
  hb : b0 = true → isTu t = true
  hi : PI X tg iter (tI X.K ct b0 mi)
  ok : BlkOk X.N X.env.scope scope (ownOf N vs)
  hg : ∀ (s : Shared) (H : Hp) (C : Addr) (cl : List (Str × Addr)) (fp : List Addr), PG (X.blk s H scope (compEnvC scope cl C X.env) fp) tg (gD X.K ct t)
  ht : ∀ (s : Shared) (H : Hp) (C : Addr) (cl : List (Str × Addr)) (fp : List Addr), PTs (X.blk s H scope (compEnvC scope cl C X.env) fp) ifs (VI.tB X.K ct mc)
  he : ∀ (s : Shared) (H : Hp) (C : Addr) (cl : List (Str × Addr)) (fp : List Addr), PE (X.blk s H scope (compEnvC scope cl C X.env) fp) elt (tV X.K ct me)
  hs : isSetE iter = false
  hv : ∀ j ∈ tgIx t, j ∈ (ownOf N vs).map (·.2)
theorem own_ix {vs : List Nat} : (ownOf N vs).map (·.2) = vs := by
  unfold ownOf
  rw [List.map_map]
  have : ((fun x : Str × Nat => x.2) ∘ fun v => (N.getD v "", v)) = id := rfl
  rw [this, List.map_id]
theorem lc_parts {vs : List Nat} {t : Tg} {it : It} {c : Eo} {e : E} {sc scope : Scope} {elt tg iter : Expr} {ifs : List Expr} {pos : Pos} (gi : GoodI P N ct fa fd cf k it) (gc : GoodC P N ct fa fd cf k c) (ge : GoodE P N ct fa fd cf k e)
    (h : chkE P N (.lc vs t it c e) sc (.ListComp elt [⟨tg, iter, ifs, 0⟩] scope pos) = true) {X : Cx} (C : CtV P N ct fa fd cf k X sc) : LcP (itB it) X ct sc scope N vs t tg iter elt ifs (evI P cf it) (evC P cf c) (evE P cf e) := by
  unfold chkE at h
  simp only [Bool.and_eq_true, Bool.not_eq_true', List.all_eq_true, decide_eq_true_eq] at h
  obtain ⟨⟨⟨⟨⟨⟨⟨h1, h2⟩, h3⟩, h0⟩, h4⟩, h5⟩, h6⟩, h7⟩ := h
  have ok := blkOk_by h1
  refine ⟨fun q => by rw [q] at h0; simpa using h0, gi sc tg iter h4 X C, by rw [C.hN, C.hsc]; exact ok, fun s H Ca cl fp => ?_, fun s H Ca cl fp => gc _ _ h6 _ (C.blk ok.kind s H Ca cl fp), fun s H Ca cl fp => (ge _ _ h7 _ (C.blk ok.kind s H Ca cl fp)).pe, h5, fun j hj => by rw [own_ix]; exact h3 j hj⟩
  exact pg_ofB (X := X.blk s H scope (compEnvC scope cl Ca X.env) fp) C.hN C.nd C.calm (Sto.blk s H Ca cl fp) h2
structure LcP2 (b1 : Bool) (X : Cx) (ct : Nat → Addr) (scope : Scope) (N : List Str) (vs vs1 : List Nat) (t1 : Tg) (tg1 iter1 : Expr) (ifs1 : List Expr) (mi1 : Env' → Option (List D × Env')) (mc1 : Env' → Option (Bool × Env')) : Prop where
  hb : b1 = true → isTu t1 = true
  hv1 : ∀ i ∈ vs1, i ∈ (ownOf N vs).map (·.2)
  hi : ∀ (s : Shared) (H : Hp) (C : Addr) (cl : List (Str × Addr)) (fp : List Addr), PI (X.blk s H scope (compEnvC scope cl C X.env) fp) tg1 iter1 (tI X.K ct b1 mi1)
  hg : ∀ (s : Shared) (H : Hp) (C : Addr) (cl : List (Str × Addr)) (fp : List Addr), PG (X.blk s H scope (compEnvC scope cl C X.env) fp) tg1 (gD X.K ct t1)
  ht : ∀ (s : Shared) (H : Hp) (C : Addr) (cl : List (Str × Addr)) (fp : List Addr), PTs (X.blk s H scope (compEnvC scope cl C X.env) fp) ifs1 (VI.tB X.K ct mc1)
  hs : isSetE iter1 = false
  hv : ∀ j ∈ tgIx t1, j ∈ vs1
theorem lc2_parts {vs vs1 : List Nat} {t t1 : Tg} {it it1 : It} {c c1 : Eo} {e : E} {sc scope : Scope} {elt tg iter tg1 iter1 : Expr} {ifs ifs1 : List Expr} {pos : Pos} (gi : GoodI P N ct fa fd cf k it) (gc : GoodC P N ct fa fd cf k c) (gi1 : GoodI P N ct fa fd cf k it1) (gc1 : GoodC P N ct fa fd cf k c1) (ge : GoodE P N ct fa fd cf k e)
    (h : chkE P N (.lc2 vs vs1 t it c t1 it1 c1 e) sc (.ListComp elt [⟨tg, iter, ifs, 0⟩, ⟨tg1, iter1, ifs1, 0⟩] scope pos) = true) {X : Cx} (C : CtV P N ct fa fd cf k X sc) : LcP (itB it) X ct sc scope N vs t tg iter elt ifs (evI P cf it) (evC P cf c) (evE P cf e) ∧ LcP2 (itB it1) X ct scope N vs vs1 t1 tg1 iter1 ifs1 (evI P cf it1) (evC P cf c1) := by
  unfold chkE at h
  simp only [Bool.and_eq_true, Bool.not_eq_true', List.all_eq_true, decide_eq_true_eq] at h
  obtain ⟨⟨⟨⟨⟨⟨⟨⟨⟨⟨⟨⟨⟨⟨h1, h2⟩, h3⟩, h0⟩, h4⟩, h5⟩, h6⟩, h7⟩, j1⟩, j2⟩, j3⟩, j0⟩, j4⟩, j5⟩, j6⟩ := h
  have ok := blkOk_by h1
  refine ⟨⟨fun q => by rw [q] at h0; simpa using h0, gi sc tg iter h4 X C, by rw [C.hN, C.hsc]; exact ok, fun s H Ca cl fp => ?_, fun s H Ca cl fp => gc _ _ h6 _ (C.blk ok.kind s H Ca cl fp), fun s H Ca cl fp => (ge _ _ h7 _ (C.blk ok.kind s H Ca cl fp)).pe, h5, fun j hj => by rw [own_ix]; exact h3 j hj⟩,
    ⟨fun q => by rw [q] at j0; simpa using j0, fun i hi => by rw [own_ix]; exact j1 i hi, fun s H Ca cl fp => gi1 _ _ _ j4 _ (C.blk ok.kind s H Ca cl fp), fun s H Ca cl fp => ?_, fun s H Ca cl fp => gc1 _ _ j6 _ (C.blk ok.kind s H Ca cl fp), j5, j3⟩⟩
  · exact pg_ofB (X := X.blk s H scope (compEnvC scope cl Ca X.env) fp) C.hN C.nd C.calm (Sto.blk s H Ca cl fp) h2
  · exact pg_ofB (X := X.blk s H scope (compEnvC scope cl Ca X.env) fp) C.hN C.nd C.calm (Sto.blk s H Ca cl fp) j2
theorem dc_parts {vs : List Nat} {t : Tg} {it : It} {c : Eo} {kk e : E} {sc scope : Scope} {kx elt tg iter : Expr} {ifs : List Expr} {pos : Pos} (gi : GoodI P N ct fa fd cf k it) (gc : GoodC P N ct fa fd cf k c) (gk : GoodE P N ct fa fd cf k kk) (ge : GoodE P N ct fa fd cf k e)
    (h : chkE P N (.dc vs t it c kk e) sc (.DictComp kx elt [⟨tg, iter, ifs, 0⟩] scope pos) = true) {X : Cx} (C : CtV P N ct fa fd cf k X sc) : LcP (itB it) X ct sc scope N vs t tg iter elt ifs (evI P cf it) (evC P cf c) (evE P cf e) ∧
      ∀ (s : Shared) (H : Hp) (C : Addr) (cl : List (Str × Addr)) (fp : List Addr), PE (X.blk s H scope (compEnvC scope cl C X.env) fp) kx (tV X.K ct (evE P cf kk)) := by
  unfold chkE at h
  simp only [Bool.and_eq_true, Bool.not_eq_true', List.all_eq_true, decide_eq_true_eq] at h
  obtain ⟨⟨⟨⟨⟨⟨⟨⟨h1, h2⟩, h3⟩, h0⟩, h4⟩, h5⟩, h6⟩, h7⟩, h8⟩ := h
  have ok := blkOk_by h1
  refine ⟨⟨fun q => by rw [q] at h0; simpa using h0, gi sc tg iter h4 X C, by rw [C.hN, C.hsc]; exact ok, fun s H Ca cl fp => ?_, fun s H Ca cl fp => gc _ _ h6 _ (C.blk ok.kind s H Ca cl fp), fun s H Ca cl fp => (ge _ _ h7 _ (C.blk ok.kind s H Ca cl fp)).pe, h5, fun j hj => by rw [own_ix]; exact h3 j hj⟩, fun s H Ca cl fp => (gk _ _ h8 _ (C.blk ok.kind s H Ca cl fp)).pe⟩
  exact pg_ofB (X := X.blk s H scope (compEnvC scope cl Ca X.env) fp) C.hN C.nd C.calm (Sto.blk s H Ca cl fp) h2
end
end VI
namespace VI
open PySem L2
section
variable {P : Pg} {N : List Str} {ct fa : Nat → Addr} {fd : Nat → FuncData} {cf : Nat → List Sl → Option (R × List Sl)} {k : Nat}
mutual
theorem sndE : ∀ e : E, GoodE P N ct fa fd cf k e
  | .var i => fun sc x h X C => by
    unfold chkE at h
    split at h
    · simp only [Bool.and_eq_true] at h
      unfold evE
      exact .plain (C.var h.1 h.2) rfl rfl
    · cases h
  | .cst c => fun sc x h X C => by
    unfold chkE at h
    split at h
    · unfold evE
      exact .plain (pe_cstV h) rfl rfl
    · simp only [Bool.and_eq_true, Bool.not_eq_true', decide_eq_true_eq] at h
      obtain ⟨u, h1, h2⟩ := C.g.cs _ _ h.1.2
      unfold evE
      exact .plain (pe_globV (gl_of C.hsc h.1.1) h1 h2 h.2) rfl rfl
    · cases h
  | .tup es => fun sc x h X C => by
    unfold chkE at h
    split at h
    · unfold evE
      exact .plain (pe_tupV (sndEs es sc _ h X C).v) rfl rfl
    · cases h
  | .lst es => fun sc x h X C => by
    unfold chkE at h
    split at h
    · unfold evE
      exact .plain (pe_lstV (sndEs es sc _ h X C).v) rfl rfl
    · cases h
  | .bin o a b => fun sc x h X C => by
    unfold chkE at h
    split at h
    · simp only [Bool.and_eq_true] at h
      have e := bo_of h.1.1
      subst e
      unfold evE
      exact .plain (pe_binV (sndE a sc _ h.1.2 X C).pe (sndE b sc _ h.2 X C).pe) rfl rfl
    · cases h
  | .cmp o a b => fun sc x h X C => by
    unfold chkE at h
    split at h
    · simp only [Bool.and_eq_true, Bool.not_eq_true'] at h
      obtain ⟨⟨⟨h1, h2⟩, h3⟩, h4⟩ := h
      have e := co_of h1
      subst e
      unfold evE
      exact ⟨pe_cmpV C.units (sndE a sc _ h2 X C).pe (sndE b sc _ h3 X C).pe (marks_of h4), fun _ => pt_cmpV C.units (sndE a sc _ h2 X C).pe (sndE b sc _ h3 X C).pe (marks_of h4), fun q => nomatch q⟩
    · cases h
  | .chain o o' a b c => fun sc x h X C => by
    unfold chkE at h
    split at h
    · simp only [Bool.and_eq_true, Bool.not_eq_true'] at h
      obtain ⟨⟨⟨⟨⟨h1, h2⟩, h3⟩, h4⟩, h5⟩, h6⟩ := h
      have e := co_of h1
      have e' := co_of h2
      subst e e'
      unfold evE
      exact ⟨pe_chainV C.units (sndE a sc _ h3 X C).pe (sndE b sc _ h4 X C).pe (sndE c sc _ h5 X C).pe h6, fun _ => pt_chainV C.units (sndE a sc _ h3 X C).pe (sndE b sc _ h4 X C).pe (sndE c sc _ h5 X C).pe h6, fun q => nomatch q⟩
    · cases h
  | .isN a => fun sc x h X C => by
    unfold chkE at h
    split at h
    · unfold evE
      exact ⟨pe_isNV (sndE a sc _ h X C).pe, fun _ => pt_isNV (sndE a sc _ h X C).pe, fun q => nomatch q⟩
    · cases h
  | .notN a => fun sc x h X C => by
    unfold chkE at h
    split at h
    · unfold evE
      exact ⟨pe_notNV (sndE a sc _ h X C).pe, fun _ => pt_notNV (sndE a sc _ h X C).pe, fun q => nomatch q⟩
    · cases h
  | .and a b => fun sc x h X C => by
    unfold chkE at h
    split at h
    · simp only [Bool.and_eq_true] at h
      obtain ⟨⟨⟨h1, h2⟩, h3⟩, h4⟩ := h
      have ga := sndE a sc _ h1 X C
      have gb := sndE b sc _ h2 X C
      unfold evE
      have pw := pw_andV (pos := by assumption) (ga.pt h3) (pw_and1 (gb.pt h4))
      exact ⟨pe_andV ga.pe (pe_one gb.pe), fun _ => pw.pt, fun _ => pw⟩
    · simp only [Bool.and_eq_true] at h
      obtain ⟨⟨h1, h3⟩, h2⟩ := h
      have ga := sndE a sc _ h1 X C
      have gb := sndE b sc _ h2 X C
      unfold evE
      have pw := pw_andV (ga.pt h3) (gb.pw rfl)
      exact ⟨pe_andV ga.pe gb.pe, fun _ => pw.pt, fun _ => pw⟩
    · cases h
  | .or a b => fun sc x h X C => by
    unfold chkE at h
    split at h
    · simp only [Bool.and_eq_true] at h
      obtain ⟨⟨⟨h1, h2⟩, h3⟩, h4⟩ := h
      have ga := sndE a sc _ h1 X C
      have gb := sndE b sc _ h2 X C
      unfold evE
      have pw := pw_orV (pos := by assumption) (ga.pt h3) (pw_or1 (gb.pt h4))
      exact ⟨pe_orV ga.pe (pe_one gb.pe), fun _ => pw.pt, fun _ => pw⟩
    · simp only [Bool.and_eq_true] at h
      obtain ⟨⟨h1, h3⟩, h2⟩ := h
      have ga := sndE a sc _ h1 X C
      have gb := sndE b sc _ h2 X C
      unfold evE
      have pw := pw_orV (ga.pt h3) (gb.pw rfl)
      exact ⟨pe_orV ga.pe gb.pe, fun _ => pw.pt, fun _ => pw⟩
    · cases h
  | .not a => fun sc x h X C => by
    unfold chkE at h
    split at h
    · simp only [Bool.and_eq_true] at h
      have ga := sndE a sc _ h.1 X C
      unfold evE
      exact ⟨pe_notV ga.pe, fun _ => pt_notV (ga.pt h.2), fun q => nomatch q⟩
    · cases h
  | .neg a => fun sc x h X C => by
    unfold chkE at h
    split at h
    · unfold evE
      exact .plain (pe_negV (sndE a sc _ h X C).pe) rfl rfl
    · cases h
  | .ife c a b => fun sc x h X C => by
    unfold chkE at h
    split at h
    · simp only [Bool.and_eq_true] at h
      obtain ⟨⟨⟨h1, h2⟩, h3⟩, h4⟩ := h
      unfold evE
      exact ⟨pe_ifeV ((sndE c sc _ h1 X C).pt h4) (sndE a sc _ h2 X C).pe (sndE b sc _ h3 X C).pe, (fun q => nomatch q), (fun q => nomatch q)⟩
    · cases h
  | .ix a b => fun sc x h X C => by
    unfold chkE at h
    split at h
    · simp only [Bool.and_eq_true, Bool.not_eq_true'] at h
      unfold evE
      exact .plain (pe_ixV (by have := C.units; omega) (sndE a sc _ h.1.1 X C).pe (sndE b sc _ h.1.2 X C).pe (plainIx_of h.2)) rfl rfl
    · cases h
  | .sli a lo hi => fun sc x h X C => by
    unfold chkE at h
    split at h
    · simp only [Bool.and_eq_true] at h
      unfold evE
      exact .plain (pe_sliV (sndE a sc _ h.1.1 X C).pe (sndO lo sc _ h.1.2 X C) (sndO hi sc _ h.2 X C)) rfl rfl
    · cases h
  | .call f es => fun sc x h X C => by
    unfold chkE at h
    split at h
    · rename_i y p args pos
      split at h
      · rename_i fn hf
        simp only [Bool.and_eq_true, Bool.not_eq_true', decide_eq_true_eq] at h
        obtain ⟨⟨⟨⟨h1, h2⟩, h3⟩, h4⟩, h5⟩ := h
        subst h2
        have g := sndEs es sc _ h5 X C
        obtain ⟨m1, m2⟩ := C.g.glo f fn hf h1
        have hl := fun ss r ss' e => (C.g.len f fn ss r ss' hf e).1
        unfold evE
        cases args with
        | nil =>
          have e := g.n.mpr rfl
          subst e
          have w := pe_call0V (ct := ct) (cf := cf f) (mt := mtOf P f) (p := p) (pos := pos) (C.g.fn f fn hf) C.rm C.gd (gl_of C.hsc h3) m1 m2 (C.g.bn f fn hf) hl h4
          exact .plain w rfl rfl
        | cons a args =>
          have hs := g.s
          simp only [List.all_cons, Bool.and_eq_true, Bool.not_eq_true'] at hs
          exact .plain (pe_callV (C.g.fn f fn hf) C.rm C.gd (gl_of C.hsc h3) m1 m2 (C.g.bn f fn hf) hl (g.a _) h4 hs.1 (by simpa using hs.2)) rfl rfl
      · cases h
    · cases h
  | .callK f perm es => fun sc x h X C => by
    unfold chkE at h
    split at h
    · split at h
      · rename_i fn hf
        simp only [Bool.and_eq_true, Bool.not_eq_true', decide_eq_true_eq] at h
        obtain ⟨⟨⟨⟨⟨⟨h1, h2⟩, h3⟩, h4⟩, h5⟩, h6⟩, h7⟩ := h
        subst h2
        obtain ⟨g1, g2⟩ := sndK es sc _ h5 X C
        obtain ⟨m1, m2⟩ := C.g.glo f fn hf h1
        unfold evE
        exact .plain (pe_callKV (C.g.fn f fn hf) C.rm C.gd (gl_of C.hsc h3) m1 m2 (C.g.kw f _ _ _ fn h7 hf) (fun ss r ss' e => (C.g.len f fn ss r ss' hf e).1) g1 h4 h6 (fun env ds env' e => by rw [kwNames_len h6]; exact g2 env ds env' e)) rfl rfl
      · cases h
    · cases h
  | .make c es => fun sc x h X C => by
    unfold chkE at h
    split at h
    · split at h
      · rename_i cl hc
        simp only [Bool.and_eq_true, Bool.not_eq_true', decide_eq_true_eq] at h
        obtain ⟨⟨⟨⟨h1, h2⟩, h3⟩, h4⟩, h5⟩ := h
        subst h1
        have g := sndEs es sc _ h5 X C
        obtain ⟨m1, m2⟩ := C.g.cl c cl hc
        obtain ⟨fn, hf⟩ := fn_at h2
        have hi : initOf P c = cl.init := by unfold initOf; rw [hc]
        unfold evE
        rw [hi]
        have hs := g.s
        simp only [List.all_cons, Bool.and_eq_true, Bool.not_eq_true'] at hs
        exact .plain (pe_makeV m2 (C.g.fn _ fn hf) C.rm1 C.gd (gl_of C.hsc h3) m1 (C.g.bn _ fn hf) (fun ss r ss' e => (C.g.len _ fn ss r ss' hf e).1) (fun ss r ss' e => (C.g.len _ fn ss r ss' hf e).2) g.v h4 hs.1 (by simpa using hs.2)) rfl rfl
      · cases h
    · cases h
  | .makeK c perm es => fun sc x h X C => by
    unfold chkE at h
    split at h
    · split at h
      · rename_i cl hc
        simp only [Bool.and_eq_true, Bool.not_eq_true', decide_eq_true_eq] at h
        obtain ⟨⟨⟨⟨⟨⟨h1, h2⟩, h3⟩, h4⟩, h5⟩, h6⟩, h7⟩ := h
        subst h1
        obtain ⟨g1, g2⟩ := sndK es sc _ h5 X C
        obtain ⟨m1, m2⟩ := C.g.cl c cl hc
        obtain ⟨fn, hf⟩ := fn_at h2
        have hi : initOf P c = cl.init := by unfold initOf; rw [hc]
        unfold evE
        rw [hi]
        exact .plain (pe_makeKV m2 (C.g.fn _ fn hf) C.rm1 C.gd (gl_of C.hsc h3) m1 (C.g.kw _ _ _ _ fn h7 hf) (fun ss r ss' e => (C.g.len _ fn ss r ss' hf e).1) (fun ss r ss' e => (C.g.len _ fn ss r ss' hf e).2) g1 h4 h6 (fun env ds env' e => by rw [kwNames_len h6]; exact g2 env ds env' e)) rfl rfl
      · cases h
    · cases h
  | .mcall c m f o es => fun sc x h X C => by
    unfold chkE at h
    split at h
    · rename_i y mm apos args pos
      split at h
      · rename_i cl hc
        simp only [Bool.and_eq_true, Bool.not_eq_true', decide_eq_true_eq] at h
        obtain ⟨⟨⟨⟨⟨⟨⟨h1, h2⟩, h3⟩, h4⟩, h5⟩, h6⟩, h7⟩, h8⟩ := h
        subst h1
        have g := sndEs es sc _ h8 X C
        obtain ⟨fn, hf⟩ := fn_at h3
        have go := (sndE o sc _ h7 X C).pe.vfrz
        have hl := fun ss r ss' e => (C.g.len f fn ss r ss' hf e).1
        unfold evE
        cases args with
        | nil =>
          have e := g.n.mpr rfl
          subst e
          exact .plain (pe_meth0V go (C.g.ok c) (C.g.mt c cl hc _ f h2) (C.g.fn f fn hf) C.rm C.gd (C.g.bn f fn hf) hl h4 h5) rfl rfl
        | cons a args => exact .plain (pe_methV go (C.g.ok c) (C.g.mt c cl hc _ f h2) (C.g.fn f fn hf) C.rm C.gd (C.g.bn f fn hf) hl (g.a _) g.s h6 h4 h5) rfl rfl
      · cases h
    · cases h
  | .mcallL c m f i es => fun sc x h X C => by
    unfold chkE at h
    split at h
    · rename_i y py mm apos args pos
      split at h
      · rename_i cl hc
        simp only [Bool.and_eq_true, Bool.not_eq_true', decide_eq_true_eq] at h
        obtain ⟨⟨⟨⟨⟨⟨⟨h1, h2⟩, h3⟩, h5⟩, h6⟩, h7⟩, h7'⟩, h8⟩ := h
        subst h1
        have g := sndEs es sc _ h8 X C
        obtain ⟨fn, hf⟩ := fn_at h3
        have go : PE X (.Name y py) (tV X.K ct (varM i)) := C.var h7 h7'
        have hl := fun ss r ss' e => (C.g.len f fn ss r ss' hf e).1
        unfold evE
        cases args with
        | nil =>
          have e := g.n.mpr rfl
          subst e
          exact .plain (pe_meth0V go (C.g.ok c) (C.g.mt c cl hc _ f h2) (C.g.fn f fn hf) C.rm C.gd (C.g.bn f fn hf) hl rfl h5) rfl rfl
        | cons a args => exact .plain (pe_methV go (C.g.ok c) (C.g.mt c cl hc _ f h2) (C.g.fn f fn hf) C.rm C.gd (C.g.bn f fn hf) hl (g.a _) g.s h6 rfl h5) rfl rfl
      · cases h
    · cases h
  | .mcallK c m f perm o es => fun sc x h X C => by
    unfold chkE at h
    split at h
    · split at h
      · rename_i cl hc
        simp only [Bool.and_eq_true, Bool.not_eq_true', decide_eq_true_eq] at h
        obtain ⟨⟨⟨⟨⟨⟨⟨⟨⟨h1, h2⟩, h3⟩, h4⟩, h5⟩, h6⟩, h7⟩, h8⟩, h9⟩, h10⟩ := h
        subst h1
        obtain ⟨g1, g2⟩ := sndK es sc _ h8 X C
        obtain ⟨fn, hf⟩ := fn_at h3
        unfold evE
        exact .plain (pe_methKV (sndE o sc _ h7 X C).pe.vfrz (C.g.ok c) (C.g.mt c cl hc _ f h2) (C.g.fn f fn hf) C.rm C.gd (C.g.kw _ _ _ _ fn h10 hf) (fun ss r ss' e => (C.g.len _ fn ss r ss' hf e).1) g1 h9 (fun env ds env' e => by rw [kwNames_len h9]; exact g2 env ds env' e) h6 h4 h5) rfl rfl
      · cases h
    · cases h
  | .bi b es => fun sc x h X C => by
    unfold chkE at h
    split at h
    · simp only [Bool.and_eq_true, decide_eq_true_eq] at h
      obtain ⟨⟨⟨⟨h1, h2⟩, h3⟩, h4⟩, h5⟩ := h
      have g := sndEs es sc _ h5 X C
      have hs := g.s
      simp only [List.all_cons, Bool.and_eq_true, Bool.not_eq_true'] at hs
      unfold evE
      exact .plain (pe_biV C h1 h2 h3 h4 g.p hs.1 (by simpa using hs.2)) rfl rfl
    · cases h
  | .isi b e => fun sc x h X C => by
    unfold chkE at h
    split at h
    · simp only [Bool.and_eq_true, Bool.not_eq_true', decide_eq_true_eq] at h
      obtain ⟨⟨⟨⟨⟨h1, h2⟩, h3⟩, h4⟩, h5⟩, h6⟩ := h
      subst h1
      unfold evE
      exact .plain (pe_isiV C.g.kit (gl_of C.hsc h3) (C.g.free _ h2) (sndE e sc _ h4 X C).pe (C.isi h6) h5 rfl) rfl rfl
    · cases h
  | .frz a => fun sc x h X C => by
    unfold chkE at h
    split at h
    · unfold evE
      exact .plain (sndE a sc _ h X C).pe.vfrz rfl rfl
    · cases h
  | .isT a => fun sc x h X C => by
    unfold chkE at h
    split at h
    · unfold evE
      exact ⟨pe_isTV (sndE a sc _ h X C).pe, fun _ => pt_isTV (sndE a sc _ h X C).pe, fun q => nomatch q⟩
    · cases h
  | .notT a => fun sc x h X C => by
    unfold chkE at h
    split at h
    · unfold evE
      exact ⟨pe_notTV (sndE a sc _ h X C).pe, fun _ => pt_notTV (sndE a sc _ h X C).pe, fun q => nomatch q⟩
    · cases h
  | .dn0 => fun sc x h X C => by
    unfold chkE at h
    split at h
    · unfold evE
      exact .plain pe_dn0V rfl rfl
    · cases h
  | .dn1 kk v => fun sc x h X C => by
    unfold chkE at h
    split at h
    · simp only [Bool.and_eq_true] at h
      unfold evE
      exact .plain (pe_dn1V (sndE kk sc _ h.1 X C).pe (sndE v sc _ h.2 X C).pe) rfl rfl
    · cases h
  | .dz a b => fun sc x h X C => by
    unfold chkE at h
    split at h
    · simp only [Bool.and_eq_true, Bool.not_eq_true', decide_eq_true_eq] at h
      obtain ⟨⟨⟨⟨⟨⟨⟨⟨⟨h1, h2⟩, h3⟩, h4⟩, h5⟩, h6⟩, h7⟩, h8⟩, h9⟩, h10⟩ := h
      subst h1 h2
      unfold evE
      exact .plain (pe_dzV C.calm (gl_of C.hsc h5) (C.g.free _ h3) (gl_of C.hsc h6) (C.g.free _ h4) (sndE a sc _ h7 X C).pe (sndE b sc _ h8 X C).pe h9 h10) rfl rfl
    · cases h
  | .dc vs t it c kk e => fun sc x h X C => by
    have h0 := h
    unfold chkE at h
    split at h
    · obtain ⟨L, Lk⟩ := dc_parts (sndI it) (sndC c) (sndE kk) (sndE e) h0 C
      unfold evE
      have w := pe_dcV (pos := by assumption) L.hb C.calm (by rw [C.hN]; exact C.nd) L.hi L.ok L.hg L.ht Lk L.he L.hs L.hv
      rw [own_ix] at w
      exact .plain w rfl rfl
    · cases h
  | .bm m o es => fun sc x h X C => by
    unfold chkE at h
    split at h
    · simp only [Bool.and_eq_true, Bool.not_eq_true', decide_eq_true_eq] at h
      obtain ⟨⟨⟨⟨h1, h2⟩, h3⟩, h4⟩, h5⟩ := h
      have g := sndEs es sc _ h5 X C
      have hs := g.s
      simp only [List.all_cons, Bool.and_eq_true, Bool.not_eq_true'] at hs
      unfold evE
      exact .plain (pe_bmV h1 (sndE o sc _ h4 X C).pe g.p hs.1 h2 h3) rfl rfl
    · cases h
  | .bx m i e => fun sc x h X C => by
    unfold chkE at h
    split at h
    · rename_i y py mm apos a pos
      simp only [Bool.and_eq_true, Bool.not_eq_true', decide_eq_true_eq] at h
      obtain ⟨⟨⟨⟨⟨h1, h2⟩, h3⟩, h4⟩, h5⟩, h6⟩ := h
      have hv : PE X (.Name y py) (tV X.K ct (varM i)) := C.var h3 h4
      have g := (sndE e sc _ h5 X C).pe
      subst h1
      unfold evE
      cases m with
      | append => exact .plain (pe_appendV hv g h6 h2) rfl rfl
      | popAt => exact .plain (pe_popV hv g h6 h2) rfl rfl
      | extend => exact .plain (pe_extendV hv g h6 h2) rfl rfl
    · cases h
  | .fld o f => fun sc x h X C => by
    unfold chkE at h
    split at h
    · simp only [Bool.and_eq_true, Bool.not_eq_true', decide_eq_true_eq] at h
      obtain ⟨⟨⟨h1, h2⟩, h3⟩, h4⟩ := h
      subst h1
      unfold evE
      exact .plain (pe_fldV C.g.ok (fun c => C.g.na c _ h2) (sndE o sc _ h4 X C).pe h3) rfl rfl
    · cases h
  | .lc vs t it c e => fun sc x h X C => by
    have h0 := h
    unfold chkE at h
    split at h
    · have L := lc_parts (sndI it) (sndC c) (sndE e) h0 C
      unfold evE
      have w := pe_lcV (pos := by assumption) L.hb C.calm (by rw [C.hN]; exact C.nd) L.hi L.ok L.hg L.ht L.he L.hs L.hv
      rw [own_ix] at w
      exact .plain w rfl rfl
    · cases h
  | .lc2 vs vs1 t it c t1 it1 c1 e => fun sc x h X C => by
    have h0 := h
    unfold chkE at h
    split at h
    · obtain ⟨L, M⟩ := lc2_parts (sndI it) (sndC c) (sndI it1) (sndC c1) (sndE e) h0 C
      unfold evE
      have w := pe_lc2V (pos := by assumption) L.hb M.hb C.calm (by rw [C.hN]; exact C.nd) L.hi L.ok M.hv1 L.hg L.ht M.hi M.hg M.ht L.he L.hs M.hs L.hv M.hv
      rw [own_ix] at w
      exact .plain w rfl rfl
    · cases h
theorem sndEs : ∀ es : Es, GoodEs P N ct fa fd cf k es
  | .nil => fun sc l h X C => by
    unfold chkEs at h
    split at h
    · exact ⟨pa_nilV, pa_nilR, fun _ => pa_nilB, pa_nilB, rfl, ⟨fun _ => rfl, fun _ => rfl⟩⟩
    · cases h
  | .cons e es => fun sc l h X C => by
    unfold chkEs at h
    split at h
    · simp only [Bool.and_eq_true, Bool.not_eq_true'] at h
      obtain ⟨⟨h1, h2⟩, h3⟩ := h
      have ge := (sndE e sc _ h1 X C).pe
      have g := sndEs es sc _ h3 X C
      refine ⟨?_, ?_, fun mt => ?_, ?_, ?_, ⟨(fun q => nomatch q), (fun q => nomatch q)⟩⟩
      · unfold evV; exact pa_consV ge g.v (star_of h2)
      · unfold evPs; exact pa_consP ge g.p (star_of h2)
      · unfold evA
        split
        · exact pa_consB ge.vlend (g.a _) h2
        · exact pa_consB ge.vfrz (g.a _) h2
        · exact pa_consB ge.vfrz (g.a _) h2
      · unfold evR; exact pa_consB ge.vkeep g.r h2
      · rw [List.all_cons, h2, g.s]; rfl
    · cases h
theorem sndK : ∀ es : Es, GoodK P N ct fa fd cf k es
  | .nil => fun sc l h X C => by
    unfold chkK at h
    split at h
    · refine ⟨pk_nilV, fun env ds env' e => ?_⟩
      unfold evV nilD at e
      cases e; rfl
    · cases h
  | .cons e es => fun sc l h X C => by
    unfold chkK at h
    split at h
    · rename_i kw kws
      obtain ⟨nm, kv, kp⟩ := kw
      simp only [Bool.and_eq_true] at h
      have ge := (sndE e sc _ h.1 X C).pe
      obtain ⟨g1, g2⟩ := sndK es sc _ h.2 X C
      refine ⟨?_, fun env ds env' e => ?_⟩
      · unfold evV; exact pk_consV ge g1
      · unfold evV consV at e
        split at e
        · split at e
          · split at e
            · rename_i q
              cases e
              exact congrArg (· + 1) (g2 _ _ _ q)
            · cases e
          · cases e
        · cases e
    · cases h
theorem sndO : ∀ e : Eo, GoodO P N ct fa fd cf k e
  | .no => fun sc l h X C => by
    unfold chkO at h
    split at h
    · exact po_noneV
    · cases h
  | .so e => fun sc l h X C => by
    unfold chkO at h
    split at h
    · unfold evO; exact po_someV (sndE e sc _ h X C).pe
    · cases h
theorem sndC : ∀ e : Eo, GoodC P N ct fa fd cf k e
  | .no => fun sc l h X C => by
    unfold chkC at h
    split at h
    · exact pts_noV
    · cases h
  | .so e => fun sc l h X C => by
    unfold chkC at h
    split at h
    · simp only [Bool.and_eq_true] at h
      unfold evC; exact pts_soV ((sndE e sc _ h.1 X C).pt h.2)
    · cases h
theorem sndI : ∀ e : It, GoodI P N ct fa fd cf k e
  | .seq e => fun sc tg x h X C => by
    unfold chkI at h
    unfold evI
    exact pi_seqV (sndE e sc _ h X C).pe
  | .rng1 e => fun sc tg x h X C => by
    unfold chkI at h
    split at h
    · simp only [Bool.and_eq_true, Bool.not_eq_true', decide_eq_true_eq] at h
      obtain ⟨⟨⟨⟨h1, h2⟩, h3⟩, h4⟩, h5⟩ := h
      subst h1
      unfold evI
      exact pi_rng1V (gl_of C.hsc h3) (C.g.free _ h2) (sndE e sc _ h4 X C).pe h5
    · cases h
  | .rng2 a b => fun sc tg x h X C => by
    unfold chkI at h
    split at h
    · simp only [Bool.and_eq_true, Bool.not_eq_true', decide_eq_true_eq] at h
      obtain ⟨⟨⟨⟨⟨⟨h1, h2⟩, h3⟩, h4⟩, h5⟩, h6⟩, h7⟩ := h
      subst h1
      unfold evI
      exact pi_rng2V (gl_of C.hsc h3) (C.g.free _ h2) (sndE a sc _ h4 X C).pe (sndE b sc _ h6 X C).pe h5 h7
    · cases h
  | .enm e => fun sc tg x h X C => by
    unfold chkI at h
    split at h
    · split at h
      · simp only [Bool.and_eq_true, Bool.not_eq_true', decide_eq_true_eq] at h
        obtain ⟨⟨⟨⟨h1, h2⟩, h3⟩, h4⟩, h5⟩ := h
        subst h1
        unfold evI
        exact pi_enmV (gl_of C.hsc h3) (C.g.free _ h2) (sndE e sc _ h4 X C).pe h5
      · cases h
    · cases h
  | .zip2 a b => fun sc tg x h X C => by
    unfold chkI at h
    split at h
    · split at h
      · simp only [Bool.and_eq_true, Bool.not_eq_true', decide_eq_true_eq] at h
        obtain ⟨⟨⟨⟨⟨⟨h1, h2⟩, h3⟩, h4⟩, h5⟩, h6⟩, h7⟩ := h
        subst h1
        unfold evI
        exact pi_zipV (gl_of C.hsc h3) (C.g.free _ h2) (sndE a sc _ h4 X C).pe (sndE b sc _ h5 X C).pe h6 h7
      · cases h
    · cases h
  | .zip3 _ _ _ => fun sc tg x h X C => by unfold chkI at h; cases h
end
end
end VI
namespace VI
open PySem L2
section
variable (P : Pg) (N : List Str) (sc : Scope)
/-- a value that goes to a name -/
def asgOk (e : E) (v : Expr) : Bool := match e, v with
  | .lc _ _ _ _ _, .ListComp _ _ _ _ => true
  | .lc2 _ _ _ _ _ _ _ _ _, .ListComp _ _ _ _ => true
  | _, v => !isComp v
def swapNo (ts : List Expr) (v : Expr) : Bool := match v with
  | .Tuple vs _ _ => decide (swapO sc ts vs = some none)
  | _ => true
def namesOk : List Nat → List Str → Bool
  | [], [] => true
  | i :: is, x :: xs => decide (N[i]? = some x) && isLocB sc x && namesOk is xs
  | _, _ => false
def chkT : Ts → List Expr → Bool
  | .nil => fun l => match l with
    | [] => true
    | _ => false
  | .nm i ts => fun l => match l with
    | .Name y _ :: l => nmB N i y && locB sc y && chkT ts l
    | _ => false
  | .ix i e ts => fun l => match l with
    | .Subscript (.Name y _) ie _ :: l => nmB N i y && visB sc y && chkE P N e sc ie && !isSlice ie && chkT ts l
    | _ => false
def tsLen : Ts → Nat
  | .nil => 0
  | .nm _ ts => tsLen ts + 1
  | .ix _ _ ts => tsLen ts + 1
mutual
def chkS : S → Stmt → Bool
  | .asg t e => fun s => match s with
    | .Assign [.Name y p] v _ => (match t with
      | .nm i => nmB N i y && locB sc y && chkE P N e sc v && asgOk e v
      | .tu _ => false)
    | .Assign [.Tuple ts k p] v _ => (match t with
      | .tu is => tgB N sc is ts && chkE P N e sc v && !isComp v && swapNo sc ts v
      | .nm _ => false)
    | _ => false
  | .par is es => fun s => match s with
    | .Assign [.Tuple ts _ _] (.Tuple vs _ _) _ => (match swapO sc ts vs with
      | some (some xs) => namesOk N sc is xs && decide is.Nodup && decide (0 < is.length) && decide (is.length < 10) && chkEs P N es sc vs
      | some none => tgB N sc is ts && decide (is.length < 10) && chkEs P N es sc vs
      | none => false)
    | _ => false
  | .setIx i ix e => fun s => match s with
    | .Assign [.Subscript (.Name y _) ie _] v _ => nmB N i y && visB sc y && chkE P N ix sc ie && !isSlice ie && chkE P N e sc v && !isComp v
    | _ => false
  | .setK i kx e => fun s => match s with
    | .Assign [.Subscript (.Name y _) ie _] v _ => nmB N i y && visB sc y && chkE P N kx sc ie && chkE P N e sc v && !isComp v
    | _ => false
  | .asgT ts e => fun s => match s with
    | .Assign [.Tuple l _ _] v _ => chkT P N sc ts l && chkE P N e sc v && !isComp v && swapNo sc l v
    | _ => false
  | .setF i f e => fun s => match s with
    | .Assign [.Attribute (.Name y _) g _] v _ => nmB N i y && visB sc y && decide (g = f) && decide (f ∈ P.flds) && chkE P N e sc v && !isComp v
    | _ => false
  | .ex e => fun s => match s with
    | .Expr v _ => chkE P N e sc v && !isComp v
    | _ => false
  | .ret e => fun s => match s with
    | .Return (some v) _ => chkE P N e sc v
    | _ => false
  | .retN => fun s => match s with
    | .Return none _ => true
    | _ => false
  | .ite c a b => fun s => match s with
    | .If x l r _ => chkE P N c sc x && tstB x && chkSs a l && chkSs b r
    | _ => false
  | .for_ t it b => fun s => match s with
    | .For tg iter body [] _ => chkTg N sc t tg && (!itB it || isTu t) && chkI P N it sc tg iter && !isSetE iter && chkSs b body
    | _ => false
  | .whl c b => fun s => match s with
    | .While x body [] _ => chkE P N c sc x && tstB x && chkSs b body
    | _ => false
  | .forW _ t it b => fun s => match s with
    | .For tg iter body [] _ => chkTg N sc t tg && (!itB it || isTu t) && chkI P N it sc tg iter && !isSetE iter && chkSs b body
    | _ => false
  | .whlW _ c b => fun s => match s with
    | .While x body [] _ => chkE P N c sc x && tstB x && chkSs b body
    | _ => false
  | .pass => fun s => match s with
    | .Pass _ => true
    | .Expr (.Constant (.str _) _ _) _ => true
    | _ => false
  | .brk => fun s => match s with
    | .Break _ => true
    | _ => false
  | .cnt => fun s => match s with
    | .Continue _ => true
    | _ => false
  | .bad => fun _ => true
def chkSs : Ss → List Stmt → Bool
  | .nil => fun l => match l with
    | [] => true
    | _ => false
  | .cons s ss => fun l => match l with
    | x :: xs => chkS s x && chkSs ss xs
    | [] => false
  | .wipe _ ss => fun l => chkSs ss l
  | .fz _ ss => fun l => chkSs ss l
end
end
section
variable {P : Pg} {N : List Str} {ct fa : Nat → Addr} {fd : Nat → FuncData} {cf : Nat → List Sl → Option (R × List Sl)} {k : Nat} {sc : Scope}
theorem swap_no {ts : List Expr} {v : Expr} {kt : Nat} {p : Pos} {env : Env} (hk : sc.kind = .function) (he : env.scope = sc) (h : swapNo sc ts v = true) : swappedStores [.Tuple ts kt p] v env = pure none := by
  unfold swapNo at h
  split at h
  · simp only [decide_eq_true_eq] at h
    exact swapped_eq (by rw [he]; exact hk) (by rw [he]; exact h)
  · rename_i hn
    refine swapped_no ?_
    cases v <;> first | rfl | exact (hn _ _ _ rfl).elim
theorem names_of : ∀ {is : List Nat} {xs : List Str}, namesOk N sc is xs = true → is.length = xs.length ∧ ∀ (j i : Nat) (x : Str), is[j]? = some i → xs[j]? = some x → N[i]? = some x ∧ sc.names.lookup x = some .local
  | [], [], _ => ⟨rfl, fun j i x e => by simp at e⟩
  | [], _ :: _, h => nomatch h
  | _ :: _, [], h => nomatch h
  | i :: is, x :: xs, h => by
    unfold namesOk at h
    simp only [Bool.and_eq_true, decide_eq_true_eq] at h
    obtain ⟨a1, a2⟩ := names_of h.2
    refine ⟨congrArg (· + 1) a1, fun j i' x' e1 e2 => ?_⟩
    cases j with
    | zero => simp at e1 e2; subst e1 e2; exact ⟨h.1.1, isLoc_of h.1.2⟩
    | succ j => exact a2 j i' x' (by simpa using e1) (by simpa using e2)
theorem exT_len : ∀ {ts : Ts} {ds : List D} {env env' : Env'}, exT P cf ts ds env = some env' → ds.length = tsLen ts
  | .nil, ds, env, env', h => by
    unfold exT tNilM at h
    cases ds with
    | nil => rfl
    | cons _ _ => cases h
  | .nm i ts, ds, env, env', h => by
    unfold exT tNmM at h
    cases ds with
    | nil => cases h
    | cons d ds =>
      simp only at h
      split at h
      · exact congrArg (· + 1) (exT_len h)
      · cases h
  | .ix i e ts, ds, env, env', h => by
    unfold exT tIxM at h
    cases ds with
    | nil => cases h
    | cons d ds =>
      simp only at h
      split at h
      · split at h
        · split at h
          · exact congrArg (· + 1) (exT_len h)
          · cases h
        · cases h
      · cases h
theorem sndT {X : Cx} (C : CtV P N ct fa fd cf k X sc) (St : Sto X sc) : ∀ {ts : Ts} {l : List Expr}, chkT P N sc ts l = true → PGs X l (gT X.K ct (exT P cf ts)) ∧ (assignEach l X.env).length = tsLen ts ∧ (assignEach l X.env).findIdx? (·.1) = none
  | .nil, l, h => by
    unfold chkT at h
    split at h
    · exact ⟨pgs_nilT, rfl, rfl⟩
    · cases h
  | .nm i ts, l, h => by
    unfold chkT at h
    split at h
    · rename_i y p l
      simp only [Bool.and_eq_true] at h
      obtain ⟨⟨h1, h2⟩, h3⟩ := h
      obtain ⟨a1, a2, a3⟩ := sndT C St h3
      obtain ⟨b1, b2⟩ := St y h2
      unfold exT
      refine ⟨pgs_nmT (pg_nmV (by rw [C.hN]; exact C.nd) (by rw [C.hN]; exact (nm_of h1).1) b1 b2) a1 rfl, congrArg (· + 1) a2, ?_⟩
      show List.findIdx? _ ((false, _) :: assignEach l X.env) = none
      rw [List.findIdx?_cons, a3]; rfl
    · cases h
  | .ix i e ts, l, h => by
    unfold chkT at h
    split at h
    · rename_i y p ie p' l
      simp only [Bool.and_eq_true, Bool.not_eq_true'] at h
      obtain ⟨⟨⟨⟨h1, h2⟩, h3⟩, h4⟩, h5⟩ := h
      obtain ⟨a1, a2, a3⟩ := sndT C St h5
      unfold exT
      refine ⟨pgs_ixT (C.var h1 h2) (sndE e sc _ h3 X C).pe h4 a1 rfl, congrArg (· + 1) a2, ?_⟩
      show List.findIdx? _ ((false, _) :: assignEach l X.env) = none
      rw [List.findIdx?_cons, a3]; rfl
    · cases h
def GoodS (P : Pg) (N : List Str) (ct fa : Nat → Addr) (fd : Nat → FuncData) (cf : Nat → List Sl → Option (R × List Sl)) (k : Nat) (sc : Scope) (s : S) : Prop :=
  ∀ st, chkS P N sc s st = true → ∀ X, CtV P N ct fa fd cf k X sc → Sto X sc → PassesOwn (model X.prog X.w) X.A X.env X.xe → PS X st (tS X.K ct (exS P cf s))
def GoodSs (P : Pg) (N : List Str) (ct fa : Nat → Addr) (fd : Nat → FuncData) (cf : Nat → List Sl → Option (R × List Sl)) (k : Nat) (sc : Scope) (s : Ss) : Prop :=
  ∀ st, chkSs P N sc s st = true → ∀ X, CtV P N ct fa fd cf k X sc → Sto X sc → PassesOwn (model X.prog X.w) X.A X.env X.xe → PSs X st (tS X.K ct (exSs P cf s))
theorem asg_snd {X : Cx} {i : Nat} {e : E} {v : Expr} {y : Str} {p pos : Pos} (C : CtV P N ct fa fd cf k X sc) (St : Sto X sc) (h1 : nmB N i y = true) (h2 : locB sc y = true) (h3 : chkE P N e sc v = true) (h4 : asgOk e v = true) :
    PS X (.Assign [.Name y p] v pos) (tS X.K ct (asgM i (evE P cf e))) := by
  obtain ⟨b1, b2⟩ := St y h2
  have nd : X.N.Nodup := by rw [C.hN]; exact C.nd
  have hi : X.N[i]? = some y := by rw [C.hN]; exact (nm_of h1).1
  have ge := (sndE e sc _ h3 X C).pe
  cases hc : isComp v with
  | false => exact ps_asgV nd hi b1 b2 ge (swaps_of hc)
  | true =>
    unfold asgOk at h4
    split at h4
    · rename_i vs t it c e' elt gens scope lp
      cases q : ((X.env.scope.names.lookup y == some .local) && p.line == lp.line && !(scope.names.any fun (n, k) => n == y && (k == .local || k == .cell))) with
      | false => exact ps_asgV nd hi b1 b2 ge (swaps_lc (by rw [C.hsc]; exact C.kind) q)
      | true =>
        simp only [Bool.and_eq_true, Bool.not_eq_true'] at q
        have hloc : X.env.scope.names.lookup y = some .local := by
          have := q.1.1
          cases hh : X.env.scope.names.lookup y with
          | none => rw [hh] at this; cases this
          | some kd => rw [hh] at this; cases kd <;> first | rfl | cases this
        have h0 := h3
        unfold chkE at h3
        split at h3
        · rename_i heq
          cases heq
          have L := lc_parts (sndI it) (sndC c) (sndE e') h0 C
          unfold evE
          have w := ps_lcV (pos := lp) (spos := pos) (py := p) L.hb C.calm nd hi hloc (by rw [C.hsc]; exact C.kind) q.1.2 q.2 L.hi L.ok L.hg L.ht L.he L.hs L.hv
          rw [own_ix] at w
          exact w
        · cases h3
    · rename_i vs vs1 t it c t1 it1 c1 e' elt gens scope lp
      cases q : ((X.env.scope.names.lookup y == some .local) && p.line == lp.line && !(scope.names.any fun (n, k) => n == y && (k == .local || k == .cell))) with
      | false => exact ps_asgV nd hi b1 b2 ge (swaps_lc (by rw [C.hsc]; exact C.kind) q)
      | true =>
        simp only [Bool.and_eq_true, Bool.not_eq_true'] at q
        have hloc : X.env.scope.names.lookup y = some .local := by
          have := q.1.1
          cases hh : X.env.scope.names.lookup y with
          | none => rw [hh] at this; cases this
          | some kd => rw [hh] at this; cases kd <;> first | rfl | cases this
        have h0 := h3
        unfold chkE at h3
        split at h3
        · rename_i heq
          cases heq
          obtain ⟨L, M⟩ := lc2_parts (sndI it) (sndC c) (sndI it1) (sndC c1) (sndE e') h0 C
          unfold evE
          have w := ps_lc2V (pos := lp) (spos := pos) (py := p) L.hb M.hb C.calm nd hi hloc (by rw [C.hsc]; exact C.kind) q.1.2 q.2 L.hi L.ok M.hv1 L.hg L.ht M.hi M.hg M.ht L.he L.hs M.hs L.hv M.hv
          rw [own_ix] at w
          exact w
        · cases h3
    · rw [hc] at h4; cases h4
mutual
theorem sndS : ∀ s : S, GoodS P N ct fa fd cf k sc s
  | .asg t e => fun st h X C St hp => by
    unfold chkS at h
    split at h
    · split at h
      · simp only [Bool.and_eq_true] at h
        unfold exS
        exact asg_snd C St h.1.1.1 h.1.1.2 h.1.2 h.2
      · cases h
    · split at h
      · simp only [Bool.and_eq_true, Bool.not_eq_true'] at h
        obtain ⟨⟨⟨h1, h2⟩, h3⟩, h4⟩ := h
        obtain ⟨a1, a2, a3⟩ := pgs_ofB (ct := ct) C.hN C.nd St h1
        unfold exS
        exact ps_tuV (sndE e sc _ h2 X C).pe (pg_tuV C.calm a1 a2 a3) h3 (swap_no C.kind C.hsc h4)
      · cases h
    · cases h
  | .par is es => fun st h X C St hp => by
    unfold chkS at h
    split at h
    · split at h
      · rename_i xs hx
        simp only [Bool.and_eq_true, decide_eq_true_eq] at h
        obtain ⟨⟨⟨⟨h1, h2⟩, h3⟩, h4⟩, h5⟩ := h
        obtain ⟨a1, a2⟩ := names_of h1
        unfold exS
        refine ps_parV C.calm (by rw [C.hN]; exact C.nd) h2 a1 (Nat.le_trans (Nat.le_of_lt h4) (by decide)) (fun e => by rw [e] at h3; cases h3) (fun j i x e1 e2 => ?_) (sndEs es sc _ h5 X C).r (swapped_eq (by rw [C.hsc]; exact C.kind) (by rw [C.hsc]; exact hx))
        rw [C.hN, C.hsc]; exact a2 j i x e1 e2
      · rename_i hx
        simp only [Bool.and_eq_true, decide_eq_true_eq] at h
        obtain ⟨⟨h1, h4⟩, h5⟩ := h
        obtain ⟨a1, a2, a3⟩ := pgs_setB C.hN C.nd St h1
        unfold exS
        exact ps_parT C.calm (Nat.le_trans (Nat.le_of_lt h4) (by decide)) a1 a2 a3 (sndEs es sc _ h5 X C).r (swapped_eq (by rw [C.hsc]; exact C.kind) (by rw [C.hsc]; exact hx))
      · cases h
    · cases h
  | .setIx i ix e => fun st h X C St hp => by
    unfold chkS at h
    split at h
    · simp only [Bool.and_eq_true, Bool.not_eq_true'] at h
      obtain ⟨⟨⟨⟨⟨h1, h2⟩, h3⟩, h4⟩, h5⟩, h6⟩ := h
      unfold exS
      exact ps_setIxV (C.var h1 h2) (sndE ix sc _ h3 X C).pe (sndE e sc _ h5 X C).pe h4 h6
    · cases h
  | .setK i kx e => fun st h X C St hp => by
    unfold chkS at h
    split at h
    · simp only [Bool.and_eq_true, Bool.not_eq_true'] at h
      obtain ⟨⟨⟨⟨h1, h2⟩, h3⟩, h5⟩, h6⟩ := h
      unfold exS
      exact ps_setKV (by have := C.units; omega) (C.var h1 h2) (sndE kx sc _ h3 X C).pe (sndE e sc _ h5 X C).pe h6
    · cases h
  | .asgT ts e => fun st h X C St hp => by
    unfold chkS at h
    split at h
    · simp only [Bool.and_eq_true, Bool.not_eq_true'] at h
      obtain ⟨⟨⟨h1, h2⟩, h3⟩, h4⟩ := h
      obtain ⟨a1, a2, a3⟩ := sndT C St h1
      unfold exS
      exact ps_asgTV C.calm (sndE e sc _ h2 X C).pe a1 a2 a3 (fun ds env env' q => exT_len q) h3 (swap_no C.kind C.hsc h4)
    · cases h
  | .setF i f e => fun st h X C St hp => by
    unfold chkS at h
    split at h
    · simp only [Bool.and_eq_true, Bool.not_eq_true', decide_eq_true_eq] at h
      obtain ⟨⟨⟨⟨⟨h1, h2⟩, h3⟩, h4⟩, h5⟩, h6⟩ := h
      subst h3
      unfold exS
      exact ps_setFV C.g.ok (fun c => C.g.na c _ h4) (C.var h1 h2) (sndE e sc _ h5 X C).pe h6
    · cases h
  | .ex e => fun st h X C St hp => by
    unfold chkS at h
    split at h
    · simp only [Bool.and_eq_true, Bool.not_eq_true'] at h
      unfold exS
      exact ps_exV (sndE e sc _ h.1 X C).pe h.2
    · cases h
  | .ret e => fun st h X C St hp => by
    unfold chkS at h
    split at h
    · unfold exS
      exact ps_retV (sndE e sc _ h X C).pe
    · cases h
  | .retN => fun st h X C St hp => by
    unfold chkS at h
    split at h
    · exact ps_retNV
    · cases h
  | .ite c a b => fun st h X C St hp => by
    unfold chkS at h
    split at h
    · simp only [Bool.and_eq_true] at h
      obtain ⟨⟨⟨h1, h2⟩, h3⟩, h4⟩ := h
      unfold exS
      exact ps_iteV ((sndE c sc _ h1 X C).pt h2) (sndSs a _ h3 X C St hp) (sndSs b _ h4 X C St hp)
    · cases h
  | .for_ t it b => fun st h X C St hp => by
    unfold chkS at h
    split at h
    · simp only [Bool.and_eq_true, Bool.not_eq_true'] at h
      obtain ⟨⟨⟨⟨h1, h0⟩, h2⟩, h3⟩, h4⟩ := h
      unfold exS
      exact ps_forV (fun q => by rw [q] at h0; simpa using h0) hp C.calm (sndI it sc _ _ h2 X C) (pg_ofB C.hN C.nd C.calm St h1) (sndSs b _ h4 X C St hp) h3
    · cases h
  | .whl c b => fun st h X C St hp => by
    unfold chkS at h
    split at h
    · simp only [Bool.and_eq_true] at h
      unfold exS
      exact ps_whlV hp ((sndE c sc _ h.1.1 X C).pt h.1.2) (sndSs b _ h.2 X C St hp)
    · cases h
  | .forW vs t it b => fun st h X C St hp => by
    unfold chkS at h
    split at h
    · simp only [Bool.and_eq_true, Bool.not_eq_true'] at h
      obtain ⟨⟨⟨⟨h1, h0⟩, h2⟩, h3⟩, h4⟩ := h
      unfold exS
      exact ps_forWV (fun q => by rw [q] at h0; simpa using h0) hp C.calm (sndI it sc _ _ h2 X C) (pg_ofB C.hN C.nd C.calm St h1) (sndSs b _ h4 X C St hp) h3
    · cases h
  | .whlW vs c b => fun st h X C St hp => by
    unfold chkS at h
    split at h
    · simp only [Bool.and_eq_true] at h
      unfold exS
      exact ps_whlWV hp ((sndE c sc _ h.1.1 X C).pt h.1.2) (sndSs b _ h.2 X C St hp)
    · cases h
  | .pass => fun st h X C St hp => by
    unfold chkS at h
    split at h
    · exact ps_passV
    · exact ps_docV
    · cases h
  | .brk => fun st h X C St hp => by
    unfold chkS at h
    split at h
    · exact ps_brkV
    · cases h
  | .cnt => fun st h X C St hp => by
    unfold chkS at h
    split at h
    · exact ps_cntV
    · cases h
  | .bad => fun st h X C St hp => ps_badV
theorem sndSs : ∀ s : Ss, GoodSs P N ct fa fd cf k sc s
  | .nil => fun st h X C St hp => by
    unfold chkSs at h
    split at h
    · exact pss_nilV
    · cases h
  | .cons s ss => fun st h X C St hp => by
    unfold chkSs at h
    split at h
    · simp only [Bool.and_eq_true] at h
      unfold exSs
      exact pss_consV (sndS s _ h.1 X C St hp) (sndSs ss _ h.2 X C St hp)
    · cases h
  | .wipe vs ss => fun st h X C St hp => by
    unfold chkSs at h
    unfold exSs
    exact pss_wipeV (sndSs ss _ h X C St hp)
  | .fz i ss => fun st h X C St hp => by
    unfold chkSs at h
    unfold exSs
    exact pss_fzV (sndSs ss _ h X C St hp)
end
end
end VI
namespace VI
open PySem L2
/-- the text of a def against its small tree -/
def chkFn (P : Pg) (fn : Fn) (N : List Str) (st : Stmt) : Bool :=
  decide (N.length = fn.n) && decide (fn.ps.length ≤ fn.n) && (match (defScope st).kind with | .function => true | _ => false) && !(defScope st).isCoroutine && !(defScope st).isGenerator && decide N.Nodup && decide (N.take fn.ps.length = fn.ps) &&
    fn.ps.all (fun x => locB (defScope st) x) && (defScope st).names.all (fun y => match y.2 with | .free => false | _ => true) && chkSs P N (defScope st) fn.body (defBody st)
theorem chkFn_of {P : Pg} {fn : Fn} {N : List Str} {st : Stmt} (h : chkFn P fn N st = true) : N.length = fn.n ∧ fn.ps.length ≤ fn.n ∧ FnScope N fn.ps (defScope st) ∧ chkSs P N (defScope st) fn.body (defBody st) = true := by
  unfold chkFn at h
  simp only [Bool.and_eq_true, decide_eq_true_eq, Bool.not_eq_true', List.all_eq_true] at h
  obtain ⟨⟨⟨⟨⟨⟨⟨⟨⟨h1, h2⟩, h3⟩, h4⟩, h5⟩, h6⟩, h7⟩, h8⟩, h9⟩, h10⟩ := h
  refine ⟨h1, h2, ⟨?_, h4, h5, h6, h7, fun x hx => loc_of (h8 x hx), fun y hy e => ?_⟩, h10⟩
  · split at h3
    · assumption
    · cases h3
  · have := h9 y hy
    rw [e] at this
    cases this
/-- what the head tells of the module -/
structure PgOk (P : Pg) (ct fa : Nat → Addr) (fd : Nat → FuncData) (Nm : Nat → List Str) (stm : Nat → Stmt) (K : PySem.W.Frag) (mg : Str → Option Value) : Prop where
  fn : ∀ (f : Nat) (fn : Fn), P.fns[f]? = some fn → ∃ x qual, L2.Fun K x qual (stm f) (fa f) (fd f)
  chk : ∀ (f : Nat) (fn : Fn), P.fns[f]? = some fn → chkFn P fn (Nm f) (stm f) = true
  bn : ∀ (f : Nat) (fn : Fn), P.fns[f]? = some fn → Binds K (fd f) fn.ps []
  glo : ∀ (f : Nat) (fn : Fn), P.fns[f]? = some fn → fn.glo = true → mg fn.name = some (.ref (fa f)) ∧ PySem.W.keepIn K (.ref (fa f)) = true
  kw : ∀ (f : Nat) (ks : List Str) (n : Nat) (perm : List Nat) (fn : Fn), (f, ks, n, perm) ∈ P.kws → P.fns[f]? = some fn → KwB K (fd f) fn.ps ks n perm
  cl : ∀ (c : Nat) (cl : Cl), P.cls[c]? = some cl → mg cl.name = some (.ref (ct c)) ∧ Mk K (ct c) (fa cl.init)
  mt : ∀ (c : Nat) (cl : Cl), P.cls[c]? = some cl → ∀ (m : Str) (f : Nat), cl.meths.lookup m = some f → Meth K (ct c) m (fa f)
  ok : ∀ c, Cls K (ct c)
  na : ∀ c, ∀ f ∈ P.flds, NoAttr K (ct c) f
  cs : ∀ (x : Str) (c : Ct), P.cs.lookup x = some c → ∃ u, mg x = some u ∧ RelV c.v u
  free : ∀ x ∈ P.free, mg x = none
  kit : KitF K ct P.cls.length
theorem runN_len {P : Pg} : ∀ {L f : Nat} {fn : Fn} {ss : List Sl} {r : R} {ss' : List Sl}, P.fns[f]? = some fn → runN P L f ss = some (r, ss') → ss.length = fn.ps.length ∧ ss'.length = ss.length
  | 0, _, _, _, _, _, _, h => nomatch h
  | L + 1, f, fn, ss, r, ss', hf, h => by
    unfold runN at h
    rw [hf] at h
    simp only at h
    split at h
    · rename_i hl
      refine ⟨hl, ?_⟩
      have cl : ∀ n env, (cleanE n env).length = n := fun n env => by simp [cleanE]
      unfold endR at h
      split at h
      · cases h; rw [cl, hl]
      · cases h; rw [cl, hl]
      · cases h
    · cases h
section
variable {P : Pg} {ct fa : Nat → Addr} {fd : Nat → FuncData} {Nm : Nat → List Str} {stm : Nat → Stmt} {Pr : Program} {w : World} {K : PySem.W.Frag} {mg : Str → Option Value} {base : Heap}
theorem PgOk.gf (G : PgOk P ct fa fd Nm stm K mg) {cf : Nat → List Sl → Option (R × List Sl)} {k : Nat} (h : ∀ (f : Nat) (fn : Fn), P.fns[f]? = some fn → FnG Pr w K mg base k (fa f) (fd f) fn.ps (spF K ct (cf f) fn.ps.length))
    (hl : ∀ (f : Nat) (fn : Fn) ss r ss', P.fns[f]? = some fn → cf f ss = some (r, ss') → ss.length = fn.ps.length ∧ ss'.length = ss.length) : Gf P ct fa fd cf k Pr w K mg base :=
  ⟨h, G.bn, G.glo, G.kw, G.cl, G.mt, G.ok, G.na, G.cs, G.free, G.kit, hl⟩
theorem PgOk.level (G : PgOk P ct fa fd Nm stm K mg) : ∀ L, Gf P ct fa fd (runN P L) (4 * L) Pr w K mg base
  | 0 => G.gf (fun f fn hf => ⟨fun vs H Q w => w.1, fun A outer s H args us vs Q _ _ _ _ _ w => by
      obtain ⟨_, _, _, _, _, _, _, e, _⟩ := w
      cases e⟩) fun f fn ss r ss' hf e => nomatch e
  | L + 1 => by
    have ih := PgOk.level G L
    refine G.gf (fun f fn hf => ?_) fun f fn ss r ss' hf e => runN_len hf e
    obtain ⟨x, qual, F⟩ := G.fn f fn hf
    obtain ⟨h1, h2, S, h3⟩ := chkFn_of (G.chk f fn hf)
    obtain ⟨oc, od, kV, doc, pm, an, cdv, ctv, osl, e, lk, hcd⟩ := F.ex
    rw [e] at lk ⊢
    show FnG Pr w K mg base (4 * L + 3 + 1) _ _ _ _
    refine fn_ofG lk hcd S (fun vs H Q w => w.1) fun A outer s H vs Q hr hgd hsp => ?_
    refine ⟨tS K ct (exSs P (runN P L) fn.body), ?_, spF_body hf h1 h2 hsp⟩
    have C : CtV P (Nm f) ct fa fd (runN P L) (4 * L) (cxOf CX0 Pr w K mg base (Nm f) qual (defScope (stm f)) (fa f) cdv A outer s H E0).nox (defScope (stm f)) :=
      ⟨ih, rfl, S.nd, rfl, S.kind, rfl, hgd, hr⟩
    exact sndSs fn.body _ h3 _ C (fun x hx => ⟨loc_of hx, .inl rfl⟩) PassesOwn.never
end
end VI
namespace VI
open PySem L2
/-- the law's call, where its def keeps a promise without a repr under way -/
theorem law_callG {P : Program} {w : World} {K : PySem.W.Frag} {mg mb : Str → Option Value} {k : Nat} {fa a : Addr} {fd : FuncData} {x : Str} {sp : List V → Hp → VK → Prop} {s₁ : Shared} {vs : List Value} {ns : List Int}
    (KX : K.In s₁.heap) (hns : s₁.heap.Ns mainGlobals mg) (hb : s₁.heap.Ns builtinsNs mb) (hbb : ∀ x : Str, x ≠ "__name__" → mb x = bootBuiltins x) (hlim : s₁.heap.NoLimit) (hg : s₁.gens = #[])
    (ha : s₁.heap.get? a = some { cls := .type "list", data := .seq vs.toArray }) (hi : PyProof.Rows.IntsAre vs ns) (hl : ns.length ≤ sizeLine) (hr : Room k callerA)
    (F : ∀ base : Heap, K.In base → base.Ns mainGlobals mg → FnG P w K mg base k fa fd [x] sp) (hbind : ∀ (s : Shared) (u : Value), BindsTo s fd ⟨[u], []⟩ [(x, u)])
    (hsp : ∀ H : Hp, SqL K H a (ns.map V.int) → sp [.ref a] H (fun v _ => v = .bl true)) :
    codeAny (model P w) callerA (.call (.ref fa) ⟨[.ref a], []⟩) (fun r s' => r = .ok (.ret (.bool true)) ∧ OldK s₁.heap s'.heap ∧ s'.os = s₁.os ∧ PyProof.Rows.AllBare s'.gens) s₁ := by
  have rv := vals_ints hi
  have lenV := hi.length
  have core : ∀ H : Hp, Only H → SqL K H a (ns.map V.int) → HOk P w H s₁.heap → (∀ b, H b ≠ none → b = a) → (H a ≠ none → K.lookup a = none) →
      codeAny (model P w) callerA (.call (.ref fa) ⟨[.ref a], []⟩) (fun r s' => r = .ok (.ret (.bool true)) ∧ OldK s₁.heap s'.heap ∧ s'.os = s₁.os ∧ PyProof.Rows.AllBare s'.gens) s₁ := by
    intro H hO hS hok hA hK
    have base_of : ∀ {b : Addr} {o : Obj}, s₁.heap.get? b = some o → H b = none → (hidT s₁.heap H).get? b = some o := fun e n => hidT_get e n
    have noA : ∀ {b : Addr} {o : Obj} {es : Array DictEntry} {ep : Nat}, s₁.heap.get? b = some o → o.data = .dict es ep → H b = none := fun {b o es ep} e d => by
      cases q : H b with
      | none => rfl
      | some u =>
        have e' : b = a := hA b (by rw [q]; simp)
        subst e'
        rw [ha] at e; cases e
        have d' : Data.seq vs.toArray _ = Data.dict es ep := d
        cases d'
    have nsK : ∀ {b : Addr} {m : Str → Option Value}, s₁.heap.Ns b m → (hidT s₁.heap H).Ns b m := fun {b m} ⟨o, es, ep, e, d, r⟩ => ⟨o, es, ep, base_of e (noA e d), d, r⟩
    have hKb : K.In (hidT s₁.heap H) := fun b o e => base_of (KX b o e) (by
      cases q : H b with
      | none => rfl
      | some u =>
        have e' : b = a := hA b (by rw [q]; simp)
        subst e'
        rw [hK (by rw [q]; simp)] at e; cases e)
    have hM : Mod K mg (hidT s₁.heap H) := ⟨hKb, nsK hns, ⟨mb, nsK hb, hbb⟩, let ⟨mc, h1, h2⟩ := hlim; ⟨mc, nsK h1, h2⟩⟩
    have e0 : Env0 P w K mg (hidT s₁.heap H) callerA [] s₁ H := ⟨rfl, hM, fun b o e => of_hidT e, Nat.le_of_eq (hidT_size _ _), trivial, fun b hb => absurd (show b ∈ ([] : List Addr) from hb) (by simp), hok, .of_eq hg⟩
    refine codeAny_mono ((F _ hKb (nsK hns)).run callerA [] s₁ H ⟨[.ref a], []⟩ [.ref a] [.ref a] _ hr rfl e0 (hbind s₁ (.ref a)) (.cons rfl .nil) (hsp H hS)) fun r s' h => ?_
    cases r with
    | error e => exact False.elim h
    | ok fl =>
      cases fl with
      | next => exact False.elim h
      | brk => exact False.elim h
      | cont => exact False.elim h
      | ret u =>
        obtain ⟨v, H', os, bare, un, hok', r', q⟩ := h
        have q' : v = .bl true := q
        subst q'
        obtain rfl : u = Value.bool true := r'
        refine ⟨rfl, OldK.of_keep fun b o e => ?_, os, bare⟩
        cases q : H b with
        | none => exact un.keep b o e q (by intro z; exact absurd (show b ∈ ([] : List Addr) from z) (by simp)) (by simp)
        | some u =>
          rcases hO b with z | ⟨ob, xs, z⟩
          · rw [q] at z; cases z
          · have z2 := un.frzs b ob _ z
            obtain ⟨e1, _⟩ := hok b _ z
            obtain ⟨e2, _⟩ := hok' b _ z2
            rw [e] at e1; cases e1
            exact e2
  cases hk : K.lookup a with
  | some o =>
    have e := KX a o hk
    rw [ha] at e
    cases e
    refine core (fun _ => none) (fun _ => .inl rfl) (.inr ⟨_, vs.toArray, _, hk, rfl, rfl, rfl, by rw [List.size_toArray, lenV]; exact hl, by simpa using rv⟩) (fun b u z => by have z' : (none : Option HO) = some u := z; cases z') (fun b z => absurd rfl z) fun z => absurd rfl z
  | none =>
    refine core (fun b => if b = a then some (.frz { cls := .type "list", data := .seq vs.toArray } (.lst (ns.map V.int))) else none) (fun b => ?_) (.inl (.inr ⟨{ cls := .type "list", data := .seq vs.toArray }, if_pos rfl⟩)) (fun b u z => ?_) (fun b z => ?_) fun _ => hk
    · by_cases hb : b = a
      · exact .inr ⟨_, _, if_pos hb⟩
      · exact .inl (if_neg hb)
    · by_cases hb : b = a
      · have z' := (if_pos hb).symm.trans z
        cases z'
        subst hb
        exact ⟨ha, by rw [List.length_map]; exact hl, vs, _, rv, ha⟩
      · have z' := (if_neg hb).symm.trans z
        cases z'
    · by_cases hb : b = a
      · exact hb
      · exact absurd (if_neg hb) z
theorem law_sp {P : Pg} {K : PySem.W.Frag} {ct : Nat → Addr} {L f : Nat} {ns : List Int} {ss' : List Sl} {a : Addr} {H : Hp} (e : runN P L f [.va (.scr ns)] = some (.dt (.bl true), ss')) (hS : SqL K H a (ns.map V.int)) :
    spF K ct (runN P L f) 1 [.ref a] H (fun v _ => v = .bl true) := by
  refine ⟨rfl, H, [.va (.scr ns)], ⟨Ex.refl H, rfl, fun i d q => ?_, fun i b d q => ?_, fun i j b b' d d' c q1 q2 q3 q4 => ?_⟩, fun j d q => ?_, _, _, e, fun v F' H' _ rp => ?_⟩
  · cases i with
    | zero => simp at q; subst q; exact ⟨_, rfl, .scr hS⟩
    | succ i => simp at q
  · cases i with
    | zero => simp at q
    | succ i => simp at q
  · cases i with
    | zero => simp at q1
    | succ i => simp at q1
  · cases j with
    | zero => simp at q
    | succ j => simp at q
  · cases rp; rfl
/-- a law by its interpreter run -/
theorem walk_ofG {l : PySem.W.OpenLaw} {n L : Nat} {q : Program} {loose : List Str} {XP : (Str → Option Value) → Heap → Prop} {YP : World → Heap → Prop} {d : DefRec} {x : Str} {P : Pg} {f : Nat} {fn : Fn} {Nm : Nat → List Str} {stm : Nat → Stmt}
    (hn : l.most = some n) (hn2 : n ≤ sizeLine) (hdf : d.params.defaults = []) (hr : Room (4 * L) callerA) (hf : P.fns[f]? = some fn) (hps : fn.ps = [x])
    (F : ∀ (w : World) (mg : Str → Option Value) (fa0 : Addr) (h : Heap), YP w h → h.Ns mainGlobals mg → mg d.name = some (.ref fa0) →
      ∃ (K : PySem.W.Frag) (ct fa : Nat → Addr) (fd : Nat → FuncData), K.In h ∧ fa f = fa0 ∧ (∀ (s : Shared) (u : Value), BindsTo s (fd f) ⟨[u], []⟩ [(x, u)]) ∧ PgOk P ct fa fd Nm stm K mg)
    (run : ∀ ns : List Int, ns.length ≤ n → ∃ ss', runN P L f [.va (.scr ns)] = some (.dt (.bl true), ss')) :
    PySem.W.WalkO q loose XP YP l.row.toRowW d [] (fun f vs => PySem.call f vs) := by
  refine Att.attach_call hn hdf fun w s₀ s₁ mg mb fa0 o pm cd doc a vs ns G Y ho hd hcd hmg hobj hints hlen hg => ?_
  obtain ⟨K, ct, fa, fd, KX, e, hb, G0⟩ := F w mg fa0 _ Y G.T.g hmg
  subst e
  obtain ⟨ss', hrun⟩ := run ns hlen
  refine law_callG (sp := spF K ct (runN P L f) fn.ps.length) KX G.T.g G.T.b G.T.builtins G.T.nolimit hg hobj hints (Nat.le_trans hlen hn2) hr (fun base _ _ => ?_) hb fun H hS => ?_
  · have := (G0.level (Pr := l.prog) (w := w) (base := base) L).fn f fn hf
    rw [hps] at this ⊢
    exact this
  · rw [hps]
    exact law_sp hrun hS
end VI
/-! what the head's one run tells, as the facts of a module -/
namespace VI
open PySem L2 He
def hookE (n : Nat) (fn : List DefD) (ex : PySem.W.Frag → Bool) : PySem.W.Hook where
  α := AlD × Bool
  obs := fun s => (obsDG n [] fn s.heap.get?, ex (frG s.heap.get? (asD s.heap.get? n)))
  val := fun _ => (valD fn, true)
  says := fun _ h => ∃ K : PySem.W.Frag, K.In h ∧ SaysD [] fn K ∧ ex K = true
  of := fun _ _ e => ⟨_, frG_in, congrArg (fun z : AlD × Bool => z.1) e, congrArg (fun z : AlD × Bool => z.2) e⟩
  keeps := fun _ _ _ ⟨K, hK, c⟩ k => ⟨K, PySem.W.Frag.In.keeps hK k, c⟩
def obE (n : Nat) (fn : List DefD) (ex : PySem.W.Frag → Bool) (s : PySem.W.SharedT) : AlD × Bool :=
  (obsDG n [] fn (HandSHeadRun.getT s), ex (frG (HandSHeadRun.getT s) (asD (HandSHeadRun.getT s) n)))
theorem obE_eq {n : Nat} {fn : List DefD} {ex : PySem.W.Frag → Bool} (s : PySem.W.SharedT) : obE n fn ex s = (hookE n fn ex).obs s.abs := by
  have e : HandSHeadRun.getT s = s.abs.heap.get? := funext (HandSHeadRun.getT_eq s)
  unfold obE
  rw [e]
  rfl
def fdOf (K : PySem.W.Frag) (a : Addr) : FuncData := match K.lookup a with
  | some ⟨_, _, .func fd, _⟩ => fd
  | _ => PySem.W.fnOf "" "" ⟨[], [], none, [], [], none, []⟩ [] ⟨.function, [], false, false, []⟩ .none .none .none .none none .none .none
section
variable (P : Pg) (loc : List (Str × Option Str))
def faK (K : PySem.W.Frag) (f : Nat) : Addr := fAd K (loc.getD f ("", none))
def clN (c : Nat) : Str := match P.cls[c]? with
  | some cl => cl.name
  | none => match P.cls[0]? with
    | some cl => cl.name
    | none => ""
def ctK (K : PySem.W.Frag) (c : Nat) : Addr := ga K (clN P c)
def gloB (K : PySem.W.Frag) : Bool := (List.range P.fns.length).all fun f => match P.fns[f]? with
  | some fn => !fn.glo || (eqO (PySem.W.nsIn K mainGlobals fn.name) (some (some (.ref (faK loc K f)))) && PySem.W.keepIn K (.ref (faK loc K f)))
  | none => true
def clsB (K : PySem.W.Frag) (c : Nat) : Bool :=
  PySem.W.plainGet K (ctK P K c) Str.empty && (PySem.W.hasDictIn K (ctK P K c) && (PySem.W.plainOver K (ctK P K c) && (eqO (PySem.W.findIn K (.ref (ctK P K c)) "__setattr__") (some (some (.builtin "object.__setattr__"))) && P.flds.all fun f => eqO (PySem.W.findIn K (.ref (ctK P K c)) f) (some none))))
def clB (K : PySem.W.Frag) : Bool := (List.range P.cls.length).all fun c => clsB P K c && (match P.cls[c]? with
  | some cl => eqO (PySem.W.nsIn K mainGlobals cl.name) (some (some (.ref (ctK P K c)))) && (PySem.W.makesIn K (ctK P K c) && (eqO (PySem.W.findIn K (.ref (ctK P K c)) "__init__") (some (some (.ref (faK loc K cl.init)))) && (PySem.W.isFn K (.ref (faK loc K cl.init)) && (PySem.W.keepIn K (.ref (ctK P K c)) &&
      cl.meths.all fun q => eqO (PySem.W.findIn K (.ref (ctK P K c)) q.1) (some (some (.ref (faK loc K q.2)))) && (PySem.W.isFn K (.ref (faK loc K q.2)) && PySem.W.keepIn K (.ref (faK loc K q.2)))))))
  | none => true)
def csB (K : PySem.W.Frag) : Bool := P.cs.all fun q => match PySem.W.nsIn K mainGlobals q.1 with
  | some (some u) => relB q.2.v u
  | _ => false
def freeB (K : PySem.W.Frag) : Bool := P.free.all fun x => eqO (PySem.W.nsIn K mainGlobals x) (some none)
def kitFB (K : PySem.W.Frag) : Bool := (List.range P.cls.length).all fun c =>
  eqO (PySem.W.findIn K (.ref (ctK P K c)) "__class__") (some (some (.builtin "object.__class__"))) && (eqO (PySem.W.specialIn K (.builtin "object.__class__") "__get__") (some (some (.builtin "getset_descriptor.__get__"))) && (decide (PySem.W.takesIn K (.builtin "object.__class__") = some true) && (decide (PySem.W.mroIn K (ctK P K c) (.type "object") = some true) &&
    (tyNs.all (fun T => decide (PySem.W.kitOne K (.ref (ctK P K c)) (.type T) = some false)) && (btNs.all (fun T => decide (PySem.W.kitOne K (.type T) (.ref (ctK P K c)) = some false)) &&
      (List.range P.cls.length).all fun k => decide (PySem.W.kitOne K (.ref (ctK P K c)) (.ref (ctK P K k)) = some (c == k)))))))
def exB (K : PySem.W.Frag) : Bool := gloB P loc K && (clB P loc K && (csB P K && (freeB P K && (kitFB P K && clsB P K 0))))
end
theorem range_all {n : Nat} {p : Nat → Bool} (h : (List.range n).all p = true) {i : Nat} (hi : i < n) : p i = true := List.all_eq_true.mp h i (List.mem_range.mpr hi)
theorem lookup_in {α β : Type} [BEq α] [LawfulBEq α] {x : α} {y : β} : ∀ {l : List (α × β)}, l.lookup x = some y → (x, y) ∈ l
  | [], h => by cases h
  | (a, b) :: l, h => by
    rw [List.lookup_cons] at h
    cases q : x == a with
    | true =>
      rw [q] at h
      have e := eq_of_beq q
      cases h
      rw [e]; exact List.mem_cons_self
    | false => rw [q] at h; exact List.mem_cons_of_mem _ (lookup_in h)
section
variable {P : Pg} {loc : List (Str × Option Str)} {K : PySem.W.Frag} {mg : Str → Option Value} {h : Heap}
theorem clsB_ok {c : Nat} (q : clsB P K c = true) : Cls K (ctK P K c) ∧ ∀ f ∈ P.flds, NoAttr K (ctK P K c) f := by
  unfold clsB at q
  obtain ⟨q1, q⟩ := ba q
  obtain ⟨q2, q⟩ := ba q
  obtain ⟨q3, q⟩ := ba q
  obtain ⟨q4, q5⟩ := ba q
  exact ⟨⟨q1, q2, q3, eqO_ok q4⟩, fun f hf => eqO_ok (List.all_eq_true.mp q5 f hf)⟩
theorem clN_out {c : Nat} (hc : ¬ c < P.cls.length) : clN P c = clN P 0 := by
  unfold clN
  rw [List.getElem?_eq_none (by omega)]
  cases q : P.cls[0]? with
  | none => rfl
  | some cl => rfl
theorem fun_ofD {d : DefD} {st : Stmt} (hd : d.params = defArgs st) (hb : d.body = defBody st) (hs : d.scope = defScope st) (hdf : d.dfl = []) {a : Addr} (ha : fAd K d.at_ = a) (F : ∃ fd, FunD K d.name d.qual d.params d.body d.scope (d.dvs K) (d.kws K) (fAd K d.at_) fd) : ∃ x qual, L2.Fun K x qual st a (fdOf K a) := by
  obtain ⟨fd, ⟨oc, od, dV, kV, doc, pm, an, cdv, ct, osl, e, lk, hcd, hD, hK⟩, kp⟩ := F
  subst ha
  have e0 : d.dvs K = [] := by unfold DefD.dvs; rw [hdf]; rfl
  rw [e0] at hD
  rcases hD with ⟨_, rfl⟩ | ⟨e1, _⟩
  · have ef : fdOf K (fAd K d.at_) = fd := by unfold fdOf; rw [lk]
    refine ⟨d.name, d.qual, ⟨oc, od, kV, doc, pm, an, cdv, ct, osl, ?_, ?_, hcd⟩, kp⟩
    · rw [ef, e, hd, hb, hs]
    · rw [ef]; exact lk
  · exact absurd rfl e1
theorem pgOk_of {Nm : Nat → List Str} {stm : Nat → Stmt} (X : K.In h) (G : h.Ns mainGlobals mg) (ex : exB P loc K = true)
    (hfn : ∀ (f : Nat) (fn : Fn), P.fns[f]? = some fn → ∃ x qual, L2.Fun K x qual (stm f) (faK loc K f) (fdOf K (faK loc K f)))
    (hchk : ∀ (f : Nat) (fn : Fn), P.fns[f]? = some fn → chkFn P fn (Nm f) (stm f) = true)
    (hbn : ∀ (f : Nat) (fn : Fn), P.fns[f]? = some fn → Binds K (fdOf K (faK loc K f)) fn.ps [])
    (hkw : ∀ (f : Nat) (ks : List Str) (n : Nat) (perm : List Nat) (fn : Fn), (f, ks, n, perm) ∈ P.kws → P.fns[f]? = some fn → KwB K (fdOf K (faK loc K f)) fn.ps ks n perm) :
    PgOk P (ctK P K) (faK loc K) (fun f => fdOf K (faK loc K f)) Nm stm K mg := by
  unfold exB at ex
  obtain ⟨e1, ex⟩ := ba ex
  obtain ⟨e2, ex⟩ := ba ex
  obtain ⟨e3, ex⟩ := ba ex
  obtain ⟨e4, ex⟩ := ba ex
  obtain ⟨e5, e6⟩ := ba ex
  have c2 : ∀ (c : Nat) (cl : Cl), P.cls[c]? = some cl → _ := fun c cl hc => by
    have hlt := (List.getElem?_eq_some_iff.mp hc).1
    have q := range_all e2 hlt
    rw [hc] at q
    exact ba q
  refine ⟨hfn, hchk, hbn, fun f fn hf hg => ?_, hkw, fun c cl hc => ?_, fun c cl hc m f hm => ?_, fun c => ?_, fun c => ?_, fun x c hx => ?_, fun x hx => ?_, ?_⟩
  · have q := range_all e1 (List.getElem?_eq_some_iff.mp hf).1
    rw [hf] at q
    simp only [hg, Bool.not_true, Bool.false_or] at q
    obtain ⟨q1, q2⟩ := ba q
    exact ⟨PySem.W.mg_of X G (eqO_ok q1), q2⟩
  · obtain ⟨q1, q⟩ := ba (c2 c cl hc).2
    obtain ⟨q2, q⟩ := ba q
    obtain ⟨q3, q⟩ := ba q
    obtain ⟨q4, q⟩ := ba q
    obtain ⟨q5, q⟩ := ba q
    exact ⟨PySem.W.mg_of X G (eqO_ok q1), q2, eqO_ok q3, q4, q5⟩
  · obtain ⟨q1, q⟩ := ba (c2 c cl hc).2
    obtain ⟨q2, q⟩ := ba q
    obtain ⟨q3, q⟩ := ba q
    obtain ⟨q4, q⟩ := ba q
    obtain ⟨q5, q⟩ := ba q
    obtain ⟨r1, r⟩ := ba (List.all_eq_true.mp q (m, f) (lookup_in hm))
    obtain ⟨r2, r3⟩ := ba r
    exact ⟨eqO_ok r1, r2, r3⟩
  · by_cases hc : c < P.cls.length
    · exact (clsB_ok (ba (range_all e2 hc)).1).1
    · have e0 : ctK P K c = ctK P K 0 := by unfold ctK; rw [clN_out hc]
      rw [e0]; exact (clsB_ok e6).1
  · by_cases hc : c < P.cls.length
    · exact (clsB_ok (ba (range_all e2 hc)).1).2
    · have e0 : ctK P K c = ctK P K 0 := by unfold ctK; rw [clN_out hc]
      rw [e0]; exact (clsB_ok e6).2
  · have q := List.all_eq_true.mp e3 (x, c) (lookup_in hx)
    cases w : PySem.W.nsIn K mainGlobals x with
    | none => simp only [w] at q; cases q
    | some o =>
      cases o with
      | none => simp only [w] at q; cases q
      | some u =>
        simp only [w] at q
        exact ⟨u, PySem.W.mg_of X G w, relB_ok q⟩
  · exact PySem.W.mg_none_of X G (eqO_ok (List.all_eq_true.mp e4 x hx))
  · refine ⟨fun c hc => ?_, fun c hc T hT => ?_, fun c hc k hk => ?_, fun c hc T hT => ?_⟩ <;>
    · have q := range_all e5 hc
      obtain ⟨q1, q⟩ := ba q
      obtain ⟨q2, q⟩ := ba q
      obtain ⟨q3, q⟩ := ba q
      obtain ⟨q4, q⟩ := ba q
      obtain ⟨q5, q⟩ := ba q
      obtain ⟨q6, q7⟩ := ba q
      first
        | exact ⟨(clsB_ok (ba (range_all e2 hc)).1).1, eqO_ok q1, eqO_ok q2, of_decide_eq_true q3, of_decide_eq_true q4⟩
        | exact of_decide_eq_true (List.all_eq_true.mp q5 T hT)
        | exact of_decide_eq_true (range_all q7 hk)
        | exact of_decide_eq_true (List.all_eq_true.mp q6 T hT)
end
/-- a fact of each item -/
inductive AllIx {α : Type} (Q : Nat → α → Prop) : Nat → List α → Prop
  | nil (i : Nat) : AllIx Q i []
  | cons {i : Nat} {a : α} {l : List α} (h : Q i a) (t : AllIx Q (i + 1) l) : AllIx Q i (a :: l)
theorem AllIx.at {α : Type} {Q : Nat → α → Prop} : ∀ {l : List α} {i f : Nat} {a : α}, AllIx Q i l → l[f]? = some a → Q (i + f) a
  | [], _, _, _, _, h => by simp at h
  | b :: l, i, 0, a, .cons q t, h => by simp at h; subst h; exact q
  | b :: l, i, f + 1, a, .cons q t, h => by
    have := AllIx.at (l := l) (f := f) (a := a) t (by simpa using h)
    rw [Nat.add_assoc, Nat.add_comm 1 f] at this
    exact this
theorem AllIx.at0 {α : Type} {Q : Nat → α → Prop} {l : List α} {f : Nat} {a : α} (t : AllIx Q 0 l) (h : l[f]? = some a) : Q f a := by
  have := t.at h
  rwa [Nat.zero_add] at this
end VI
/-! typed data, and runs of the interpreter over it -/
namespace VI
open PySem L2
/-- a tuple of any length -/
structure Tup (α : Type) where
  l : List α
deriving DecidableEq
structure Tr (α β γ : Type) where
  a : α
  b : β
  c : γ
deriving DecidableEq
structure Scr where
  l : List Int
structure Dc (κ ν : Type) where
  l : List (κ × ν)
class Enc (α : Type) where
  enc : α → D
open Enc
instance : Enc D := ⟨fun d => d⟩
instance : Enc Int := ⟨D.int⟩
instance : Enc Bool := ⟨D.bl⟩
instance : Enc Str := ⟨D.str⟩
instance : Enc Unit := ⟨fun _ => D.non⟩
instance : Enc Scr := ⟨fun s => D.scr s.l⟩
instance instTup {α : Type} [Enc α] : Enc (Tup α) := ⟨fun t => D.tup (t.l.map enc)⟩
instance instLst {α : Type} [Enc α] : Enc (List α) := ⟨fun t => D.lst (t.map enc)⟩
instance instPr {α β : Type} [Enc α] [Enc β] : Enc (α × β) := ⟨fun p => D.tup [enc p.1, enc p.2]⟩
instance instTr {α β γ : Type} [Enc α] [Enc β] [Enc γ] : Enc (Tr α β γ) := ⟨fun p => D.tup [enc p.a, enc p.b, enc p.c]⟩
def encO {α : Type} [Enc α] : Option α → D
  | none => .non
  | some x => enc x
instance instOpt {α : Type} [Enc α] : Enc (Option α) := ⟨encO⟩
instance instDc {κ ν : Type} [Enc κ] [Enc ν] : Enc (Dc κ ν) := ⟨fun t => D.dic (t.l.map fun p => (enc p.1, enc p.2))⟩
/-! ### expressions: the steps -/
def pzR : R → R
  | .nw d => .dt d
  | r => r
theorem pz_some {m : Env' → Option (R × Env')} {env env1 : Env'} {r : R} (h : m env = some (r, env1)) : pz (m env) = some (pzR r, env1) := by
  rw [h]; cases r <;> rfl
def mkR (b : Bool) (d : D) : R := cond b (.nw d) (.dt d)
theorem bnd {α β : Type} {t : Option α} {f : α → Option β} {b : β} (h : t.bind f = some b) : ∃ a, t = some a ∧ f a = some b := Option.bind_eq_some_iff.mp h
section
variable {P : Pg} {cf : Nat → List Sl → Option (R × List Sl)} {env env1 env2 env3 : Env'} {a b c : E} {x y r : R} {d e g : D} {i : Nat} {o : CO}
theorem e_var (h : env[i]? = some (.va d)) : evE P cf (.var i) env = some (.dt d, env) := by unfold evE varM; rw [h]
theorem e_sl {l : Bool} (h : env[i]? = some (.ow l d)) : evE P cf (.var i) env = some (.sl i, env) := by unfold evE varM; rw [h]
theorem e_cst {c : Ct} : evE P cf (.cst c) env = some (.dt c.d, env) := by unfold evE; rfl
theorem e_frz (h : evE P cf a env = some (x, env1)) (hf : frz x env1 = some (d, env2)) : evE P cf (.frz a) env = some (.dt d, env2) := by
  unfold evE frzM; rw [h]; simp only [hf]
theorem op2_ok {f : D → D → Option R} {ma mb : Env' → Option (R × Env')} (ha : ma env = some (x, env1)) (hb : mb env1 = some (y, env2)) (hx : opD env2 (pzR x) = some d) (hy : opD env2 (pzR y) = some e) (h : f d e = some r) : op2 f ma mb env = some (r, env2) := by
  unfold op2
  rw [pz_some ha]; simp only [pz_some hb, hx, hy, h, Option.map]
theorem e_bin {o : BO} (ha : evE P cf a env = some (x, env1)) (hb : evE P cf b env1 = some (y, env2)) (hx : opD env2 (pzR x) = some d) (hy : opD env2 (pzR y) = some e) (h : binD o d e = some r) : evE P cf (.bin o a b) env = some (r, env2) := by
  unfold evE; exact op2_ok ha hb hx hy h
theorem e_cmp {t : Bool} (ha : evE P cf a env = some (x, env1)) (hb : evE P cf b env1 = some (y, env2)) (hx : opD env2 (pzR x) = some d) (hy : opD env2 (pzR y) = some e) (h : cmpD o d e = some t) : evE P cf (.cmp o a b) env = some (.dt (.bl t), env2) := by
  unfold evE; exact op2_ok ha hb hx hy (by unfold cmpR; rw [h]; rfl)
theorem e_ix (ha : evE P cf a env = some (x, env1)) (hb : evE P cf b env1 = some (y, env2)) (hx : opD env2 (pzR x) = some d) (hy : opD env2 (pzR y) = some e) (h : ixD d e = some g) : evE P cf (.ix a b) env = some (.dt g, env2) := by
  unfold evE; exact op2_ok ha hb hx hy (by unfold ixR; rw [h]; rfl)
/-- a chain of two comparisons, without effects -/
def chnT (o o' : CO) (a b c : D) : Option Bool := (cmpD o a b).bind fun t => if t = true then cmpD o' b c else some false
theorem e_chain {o' : CO} {z : R} {t : Bool} (ha : evE P cf a env = some (x, env)) (hb : evE P cf b env = some (y, env)) (hc : evE P cf c env = some (z, env)) (hx : opD env (pzR x) = some d) (hy : opD env (pzR y) = some e) (hz : opD env (pzR z) = some g) (h : chnT o o' d e g = some t) : evE P cf (.chain o o' a b c) env = some (.dt (.bl t), env) := by
  unfold evE chainM
  unfold chnT at h
  obtain ⟨q, h1, h2⟩ := bnd h
  rw [pz_some ha]; simp only [pz_some hb, hx, hy, h1]
  cases q with
  | false => simp only [Bool.false_eq_true, if_false] at h2; cases h2; rfl
  | true => simp only [if_true] at h2; simp only [pz_some hc, hz, hy, h2, Option.map]
def isNB (d : D) : Bool := match d with | .non => true | _ => false
theorem e_isN (ha : evE P cf a env = some (x, env1)) (hx : pzR x = .dt d) : evE P cf (.isN a) env = some (.dt (.bl (isNB d)), env1) := by
  unfold evE isNM; rw [pz_some ha, hx]; cases d <;> rfl
theorem e_notN (ha : evE P cf a env = some (x, env1)) (hx : pzR x = .dt d) : evE P cf (.notN a) env = some (.dt (.bl (!isNB d)), env1) := by
  unfold evE notNM; rw [pz_some ha, hx]; cases d <;> rfl
theorem e_isT {t : Bool} (ha : evE P cf a env = some (.dt (.bl t), env1)) : evE P cf (.isT a) env = some (.dt (.bl t), env1) := by unfold evE isTM; rw [ha]
theorem e_notT {t : Bool} (ha : evE P cf a env = some (.dt (.bl t), env1)) : evE P cf (.notT a) env = some (.dt (.bl (!t)), env1) := by unfold evE notTM; rw [ha]
theorem e_not {t : Bool} (ha : evE P cf a env = some (.dt (.bl t), env1)) : evE P cf (.not a) env = some (.dt (.bl (!t)), env1) := by unfold evE notM; rw [ha]
theorem e_neg {t : Int} (ha : evE P cf a env = some (.dt (.int t), env1)) : evE P cf (.neg a) env = some (.dt (.int (-t)), env1) := by unfold evE negM; rw [ha]
theorem e_and {σ : Type} {t : Option σ} {s s0 : σ} {b1 : Bool} (val : σ → Bool) (E : σ → Env') (ha : evE P cf a env = some (.dt (.bl b1), env1)) (h : (if b1 = true then t else some s0) = some s) (h0 : val s0 = false) (hE : E s0 = env1) (hb : ∀ s, t = some s → evE P cf b env1 = some (.dt (.bl (val s)), E s)) : evE P cf (.and a b) env = some (.dt (.bl (val s)), E s) := by
  unfold evE andM
  rw [ha]
  cases b1 with
  | true => simp only [if_true] at h; exact hb s h
  | false => simp only [Bool.false_eq_true, if_false] at h; cases h; simp only [h0, hE]
theorem e_or {σ : Type} {t : Option σ} {s s0 : σ} {b1 : Bool} (val : σ → Bool) (E : σ → Env') (ha : evE P cf a env = some (.dt (.bl b1), env1)) (h : (if b1 = true then some s0 else t) = some s) (h0 : val s0 = true) (hE : E s0 = env1) (hb : ∀ s, t = some s → evE P cf b env1 = some (.dt (.bl (val s)), E s)) : evE P cf (.or a b) env = some (.dt (.bl (val s)), E s) := by
  unfold evE orM
  rw [ha]
  cases b1 with
  | false => simp only [Bool.false_eq_true, if_false] at h; exact hb s h
  | true => simp only [if_true] at h; cases h; simp only [h0, hE]
theorem e_ife {σ : Type} {t t' : Option σ} {s : σ} {b1 : Bool} (val : σ → R) (E : σ → Env') (hc : evE P cf c env = some (.dt (.bl b1), env1)) (h : (if b1 = true then t else t') = some s) (ha : ∀ s, t = some s → evE P cf a env1 = some (val s, E s)) (hb : ∀ s, t' = some s → evE P cf b env1 = some (val s, E s)) : evE P cf (.ife c a b) env = some (val s, E s) := by
  unfold evE ifeM
  rw [hc]
  cases b1 with
  | true => simp only [if_true] at h; exact ha s h
  | false => simp only [Bool.false_eq_true, if_false] at h; exact hb s h
/-! lists of expressions -/
theorem v_nil : evV P cf .nil env = some ([], env) := by unfold evV; rfl
theorem v_cons {es : Es} {ds : List D} (h : evE P cf a env = some (x, env1)) (hf : frz x env1 = some (d, env2)) (hs : evV P cf es env2 = some (ds, env3)) : evV P cf (.cons a es) env = some (d :: ds, env3) := by
  unfold evV consV; rw [h]; simp only [hf, hs]
theorem p_nil : evPs P cf .nil env = some ([], env) := by unfold evPs; rfl
theorem p_cons {es : Es} {rs : List R} (h : evE P cf a env = some (x, env1)) (hs : evPs P cf es env1 = some (rs, env2)) : evPs P cf (.cons a es) env = some (pzR x :: rs, env2) := by
  unfold evPs consP; rw [pz_some h]; simp only [hs]
theorem r_nil : evR P cf .nil env = some ([], env) := by unfold evR; rfl
theorem r_cons {es : Es} {rs : List R} (h : evE P cf a env = some (x, env1)) (hk : keepR x env1 = some (y, env2)) (hs : evR P cf es env2 = some (rs, env3)) : evR P cf (.cons a es) env = some (y :: rs, env3) := by
  unfold evR consR keepM; rw [h]; simp only [hk, hs]
theorem a_nil {ms : List Bool} : evA P cf .nil ms env = some ([], env) := by unfold evA; rfl
theorem a_consF {es : Es} {rs : List R} {ms : List Bool} (h : evE P cf a env = some (x, env1)) (hf : frz x env1 = some (d, env2)) (hs : evA P cf es ms env2 = some (rs, env3)) : evA P cf (.cons a es) (false :: ms) env = some (.dt d :: rs, env3) := by
  unfold evA; simp only [consR, frzM]; rw [h]; simp only [hf, hs]
theorem a_consS {es : Es} {rs : List R} {ms : List Bool} {l : Bool} (h : env[i]? = some (.ow l d)) (hs : evA P cf es ms env = some (rs, env1)) : evA P cf (.cons (.var i) es) (true :: ms) env = some (.sl i :: rs, env1) := by
  unfold evA; simp only [consR, lendM]; rw [e_sl h]; simp only [hs]
theorem a_consN {es : Es} {rs : List R} {ms : List Bool} (h : evE P cf a env = some (.nw d, env1)) (hs : evA P cf es ms env1 = some (rs, env2)) : evA P cf (.cons a es) (true :: ms) env = some (.nw d :: rs, env2) := by
  unfold evA; simp only [consR, lendM]; rw [h]; simp only [hs]
theorem e_tup {es : Es} {ds : List D} (h : evV P cf es env = some (ds, env1)) (hz : ds.length ≤ sizeLine) : evE P cf (.tup es) env = some (.dt (.tup ds), env1) := by
  unfold evE tupM; rw [h]; simp only [hz, if_true]
theorem e_lst {es : Es} {ds : List D} (h : evV P cf es env = some (ds, env1)) (hz : ds.length ≤ sizeLine) : evE P cf (.lst es) env = some (.nw (.lst ds), env1) := by
  unfold evE lstM; rw [h]; simp only [hz, if_true]
theorem e_fld {f : Str} {c : Nat} {fs : List (Str × D)} (ha : evE P cf a env = some (x, env1)) (hx : opD env1 (pzR x) = some (.ins c fs)) (h : fs.lookup f = some d) : evE P cf (.fld a f) env = some (.dt d, env1) := by
  unfold evE fldM; rw [pz_some ha]; simp only [hx, h]
theorem e_bi {b : Bi} {es : Es} {rs : List R} {ds : List D} (h : evPs P cf es env = some (rs, env1)) (hd : rs.mapM (opD env1) = some ds) (hf : biD b ds = some r) : evE P cf (.bi b es) env = some (r, env1) := by
  unfold evE biM; rw [h]; simp only [hd, hf, Option.map]
theorem e_isi {b : Bi} {t : Bool} {n : Nat} (ha : evE P cf a env = some (x, env1)) (hx : opD env1 (pzR x) = some d) (hn : P.cls.length = n) (h : isI n b d = some t) : evE P cf (.isi b a) env = some (.dt (.bl t), env1) := by
  unfold evE isM; rw [pz_some ha, hn]; simp only [hx, h, Option.map]
theorem e_bm {m : Bm} {es : Es} {rs : List R} {ds : List D} (ha : evE P cf a env = some (x, env1)) (hx : pzR x = .dt d) (h : evPs P cf es env1 = some (rs, env2)) (hd : rs.mapM (opD env2) = some ds) (hf : bmD m d ds = some r) : evE P cf (.bm m a es) env = some (r, env2) := by
  unfold evE bmM dataM
  rw [pz_some ha, hx]
  simp only [pz, h, opD, hd, hf, Option.map]
theorem e_sli {lo hi : Eo} {l h : Option Int} (ha : evE P cf a env = some (x, env1)) (hl : evO P cf lo env1 = some (l, env2)) (hh : evO P cf hi env2 = some (h, env3)) (hx : opD env3 (pzR x) = some d) (hf : sliD d l h = some r) : evE P cf (.sli a lo hi) env = some (r, env3) := by
  unfold evE sliM; rw [pz_some ha]; simp only [hl, hh, hx, hf, Option.map]
theorem o_no : evO P cf .no env = some (none, env) := by unfold evO; rfl
theorem o_so {t : Int} (h : evE P cf a env = some (.dt (.int t), env1)) : evO P cf (.so a) env = some (some t, env1) := by unfold evO soM; rw [h]
theorem e_call {f : Nat} {es : Es} {mt : List Bool} {rs : List R} {ss ss' : List Sl} (hm : mtOf P f = mt) (h : evA P cf es mt env = some (rs, env1)) (nd : (slotsOf rs).Nodup) (ha : argSl env1 rs mt = some ss) (hc : cf f ss = some (r, ss')) (hr : ∀ i, r ≠ .sl i) (hl : lentBack rs ss' env1 = some env2) : evE P cf (.call f es) env = some (r, env2) := by
  unfold evE callM
  rw [hm, h]
  simp only [callF, nd, if_true, ha, hc]
  cases r with
  | sl i => exact (hr i rfl).elim
  | dt d => simp only [hl, Option.map]
  | nw d => simp only [hl, Option.map]
theorem e_callK {f : Nat} {es : Es} {perm : List Nat} {mt : List Bool} {ds ds' : List D} {ss ss' : List Sl} (hm : mtOf P f = mt) (h : evV P cf es env = some (ds, env1)) (hp : permute perm ds = some ds') (ha : argSl env1 (ds'.map .dt) mt = some ss) (hc : cf f ss = some (r, ss')) (hr : ∀ i, r ≠ .sl i) (nd : (slotsOf (ds'.map .dt)).Nodup) (hl : lentBack (ds'.map .dt) ss' env1 = some env1) : evE P cf (.callK f perm es) env = some (r, env1) := by
  unfold evE callM dataR permM
  rw [hm, h]
  simp only [hp, Option.map, callF, nd, if_true, ha, hc]
  cases r with
  | sl i => exact (hr i rfl).elim
  | dt d => simp only [hl]
  | nw d => simp only [hl]
theorem e_make {c ci : Nat} {es : Es} {ds : List D} {d : D} {ss' : List Sl} (hi : initOf P c = ci) (h : evV P cf es env = some (ds, env1)) (hc : cf ci (.ow true (.ins c []) :: ds.map .va) = some (.dt .non, .ow true d :: ss')) : evE P cf (.make c es) env = some (.nw d, env1) := by
  unfold evE makeM
  rw [hi, h]
  simp only [hc]
theorem e_mcall {c f : Nat} {mm : Str} {es : Es} {mt : List Bool} {rs : List R} {ss ss' : List Sl} {fs : List (Str × D)} (hm : mtOf P f = false :: mt) (ho : evE P cf a env = some (x, env1)) (hf : frz x env1 = some (.ins c fs, env2)) (hk : fs.lookup mm = none) (h : evA P cf es mt env2 = some (rs, env3)) (nd : (slotsOf rs).Nodup) (ha : argSl env3 rs mt = some ss) (hc : cf f (.va (.ins c fs) :: ss) = some (r, ss')) (hr : ∀ i, r ≠ .sl i) {env4 : Env'} (hl : lentBack (.dt (.ins c fs) :: rs) ss' env3 = some env4) : evE P cf (.mcall c mm f a es) env = some (r, env4) := by
  have h0 : insM c mm (frzM (evE P cf a)) env = some (.dt (.ins c fs), env2) := by
    unfold insM frzM; rw [ho]; simp only [hf, opD, hk, and_self, if_true]
  unfold evE callM
  rw [hm]
  simp only [consR, h0, List.drop_succ_cons, List.drop_zero, h, callF, slotsOf, nd, if_true, argSl, ha, hc]
  cases r with
  | sl i => exact (hr i rfl).elim
  | dt d => simp only [hl, Option.map]
  | nw d => simp only [hl, Option.map]
theorem e_mcallK {c f : Nat} {mm : Str} {es : Es} {perm : List Nat} {mt : List Bool} {ds ds' : List D} {ss ss' : List Sl} {fs : List (Str × D)} (hm : mtOf P f = false :: mt) (ho : evE P cf a env = some (x, env1)) (hf : frz x env1 = some (.ins c fs, env2)) (hk : fs.lookup mm = none) (h : evV P cf es env2 = some (ds, env3)) (hp : permute perm ds = some ds') (nd : (slotsOf (ds'.map .dt)).Nodup) (ha : argSl env3 (ds'.map .dt) mt = some ss) (hc : cf f (.va (.ins c fs) :: ss) = some (r, ss')) (hr : ∀ i, r ≠ .sl i) (hl : lentBack (.dt (.ins c fs) :: ds'.map .dt) ss' env3 = some env3) : evE P cf (.mcallK c mm f perm a es) env = some (r, env3) := by
  have h0 : insM c mm (frzM (evE P cf a)) env = some (.dt (.ins c fs), env2) := by
    unfold insM frzM; rw [ho]; simp only [hf, opD, hk, and_self, if_true]
  unfold evE callM
  rw [hm]
  simp only [consR, h0, dataR, permM, h, hp, Option.map, callF, slotsOf, nd, if_true, argSl, ha, hc]
  cases r with
  | sl i => exact (hr i rfl).elim
  | dt d => simp only [hl, Option.map]
  | nw d => simp only [hl, Option.map]
/-! lists that change -/
theorem e_append {l : List D} {bb : Bool} (hi : isOw env i = true) (ha : evE P cf a env = some (x, env1)) (hf : frz x env1 = some (d, env2)) (h : env2[i]? = some (.ow bb (.lst l))) (hz : l.length < sizeLine) : evE P cf (.bx .append i a) env = some (.dt .non, env2.set i (.ow bb (.lst (l ++ [d])))) := by
  unfold evE; simp only [appendM, hi, if_true, frzM]; rw [ha]; simp only [hf, h, hz, if_true]
theorem e_extend {l m : List D} {bb : Bool} (hi : isOw env i = true) (ha : evE P cf a env = some (x, env1)) (hx : pzR x = .dt (.lst m)) (h : env1[i]? = some (.ow bb (.lst l))) (hz : l.length + m.length ≤ sizeLine) : evE P cf (.bx .extend i a) env = some (.dt .non, env1.set i (.ow bb (.lst (l ++ m)))) := by
  unfold evE; simp only [extendM, hi, if_true]; rw [pz_some ha, hx]; simp only [h, hz, if_true]
theorem e_pop {l : List D} {bb : Bool} {k : Int} {j : Nat} (hi : isOw env i = true) (ha : evE P cf a env = some (.dt (.int k), env1)) (h : env1[i]? = some (.ow bb (.lst l))) (hk : -(2 ^ 63) ≤ k ∧ k < 2 ^ 63) (hj : seqIndex? k l.length = some j) (hy : l[j]? = some d) : evE P cf (.bx .popAt i a) env = some (.dt d, env1.set i (.ow bb (.lst (l.eraseIdx j)))) := by
  unfold evE; simp only [popM, hi, if_true]; rw [pz_some ha]; simp only [pzR, h, hk, if_true, hj, hy, and_self]
/-! what is walked -/
theorem i_seq {l : List D} (ha : evE P cf a env = some (x, env1)) (hf : frz x env1 = some (d, env2)) (h : seqD d = some l) : evI P cf (.seq a) env = some (l, env2) := by
  unfold evI seqM frzM; rw [ha]; simp only [hf, h, Option.map]
theorem i_enm {l : List D} (ha : evE P cf a env = some (x, env1)) (hf : frz x env1 = some (d, env2)) (h : enmD d = some l) : evI P cf (.enm a) env = some (l, env2) := by
  unfold evI enmM frzM; rw [ha]; simp only [hf, h, Option.map]
theorem i_zip2 {l : List D} (h : evV P cf (.cons a (.cons b .nil)) env = some ([d, e], env1)) (hz : zipD d e = some l) : evI P cf (.zip2 a b) env = some (l, env1) := by
  unfold evI zipM; unfold evV at h; unfold evV at h; unfold evV at h; rw [h]; simp only [hz, Option.map]
def rngT (n : Int) : Option (List Int) := if -(2 ^ 62) ≤ n ∧ n < 2 ^ 62 then some ((List.range n.toNat).map fun (k : Nat) => (k : Int)) else none
def rng2T (lo hi : Int) : Option (List Int) := if -(2 ^ 62) ≤ lo ∧ lo < 2 ^ 62 ∧ -(2 ^ 62) ≤ hi ∧ hi < 2 ^ 62 then some ((List.range (hi - lo).toNat).map fun (k : Nat) => lo + (k : Int)) else none
theorem i_rng1 {n : Int} {l : List Int} (ha : evE P cf a env = some (.dt (.int n), env1)) (h : rngT n = some l) : evI P cf (.rng1 a) env = some (l.map enc, env1) := by
  unfold rngT at h
  split at h
  · cases h
    rename_i hh
    unfold evI rng1M; rw [ha]
    simp only [if_pos hh, List.map_map]
    congr 2
    refine List.map_congr_left fun k _ => ?_
    show D.int _ = D.int _
    rw [Int.zero_add]
  · cases h
theorem i_rng2 {n m : Int} {l : List Int} (ha : evE P cf a env = some (.dt (.int n), env1)) (hb : evE P cf b env1 = some (.dt (.int m), env2)) (h : rng2T n m = some l) : evI P cf (.rng2 a b) env = some (l.map enc, env2) := by
  unfold rng2T at h
  split at h
  · cases h
    rename_i hh
    unfold evI rng2M; rw [ha]
    simp only [hb, if_pos hh, List.map_map]
    rfl
  · cases h
end
end VI
/-! statements and loops over typed data -/
namespace VI
open PySem L2 Enc
/-- how the body of a loop ends -/
inductive Fw (σ ρ : Type) where
  | nx (s : σ)
  | bk (s : σ)
  | rt (r : ρ)
section
variable {α β σ ρ : Type}
def foldT (f : α → σ → Option σ) : List α → σ → Option σ
  | [], s => some s
  | x :: xs, s => (f x s).bind fun s1 => foldT f xs s1
def forT (f : α → σ → Option (Fw σ ρ)) : List α → σ → Option (Fw σ ρ)
  | [], s => some (.nx s)
  | x :: xs, s => (f x s).bind fun o => match o with
    | .nx s1 => forT f xs s1
    | .bk s1 => some (.nx s1)
    | .rt r => some (.rt r)
def whlT (c : σ → Option Bool) (f : σ → Option (Fw σ ρ)) : Nat → σ → Option (Fw σ ρ)
  | 0, _ => none
  | n + 1, s => (c s).bind fun b => if b = true then (f s).bind fun o => match o with
      | .nx s1 => whlT c f n s1
      | .bk s1 => some (.nx s1)
      | .rt r => some (.rt r)
    else some (.nx s)
/-- comprehensions: none where the condition does not hold -/
def lcGo (f : α → Option (Option β)) : List α → Option (List β)
  | [] => some []
  | x :: xs => (f x).bind fun o => (lcGo f xs).bind fun l => some (match o with
    | some y => y :: l
    | none => l)
def lcP (f : α → Option (Option β)) (xs : List α) : Option (List β) := if xs.length ≤ sizeLine then lcGo f xs else none
def lcGoS (f : α → σ → Option (Option β × σ)) : List α → σ → Option (List β × σ)
  | [], s => some ([], s)
  | x :: xs, s => (f x s).bind fun o => (lcGoS f xs o.2).bind fun l => some (match o.1 with
    | some y => (y :: l.1, l.2)
    | none => l)
def lcS (f : α → σ → Option (Option β × σ)) (xs : List α) (s : σ) : Option (List β × σ) := if xs.length ≤ sizeLine then lcGoS f xs s else none
/-- two loops of a comprehension -/
def lc2Go (f : α → Option (List β)) : List α → Nat → Option (List β)
  | [], _ => some []
  | x :: xs, n => (f x).bind fun l => if n + l.length ≤ sizeLine then (lc2Go f xs (n + l.length)).bind fun m => some (l ++ m) else none
def lc2P (f : α → Option (List β)) (xs : List α) : Option (List β) := lc2Go f xs 0
end
/-- what is shown of a run -/
def Gq (Q : Option (Fl × Env') → Prop) (m : Option (Fl × Env')) : Prop := Q m
def FinQ (n : Nat) (X : R × List Sl) (m : Option (Fl × Env')) : Prop := endR m n = some X
def BdyQ {σ ρ : Type} (vs : List Nat) (E : σ → Env') (n : Nat) (pr : ρ → R × List Sl) (o : Fw σ ρ) (m : Option (Fl × Env')) : Prop :=
  match o with
  | .nx s => ∃ fl env', m = some (fl, env') ∧ (fl = .next ∨ fl = .cnt) ∧ wipeE env' vs = E s
  | .bk s => ∃ env', m = some (.brk, env') ∧ wipeE env' vs = E s
  | .rt r => ∃ env', m = some (.ret (pr r).1, env') ∧ cleanE n env' = (pr r).2
def BfQ {σ : Type} (vs : List Nat) (E : σ → Env') (s : σ) (m : Option (Fl × Env')) : Prop :=
  ∃ fl env', m = some (fl, env') ∧ (fl = .next ∨ fl = .cnt) ∧ wipeE env' vs = E s
/-- a block, and what comes behind it -/
def blk (P : Pg) (cf : Nat → List Sl → Option (R × List Sl)) (ss : Ss) (K : Env' → Option (Fl × Env')) : Env' → Option (Fl × Env') := consM (exSs P cf ss) K
section
variable {P : Pg} {cf : Nat → List Sl → Option (R × List Sl)} {env env1 env2 env3 : Env'} {a b c e : E} {x y r : R} {d : D} {i : Nat} {s : S} {ss : Ss} {K : Env' → Option (Fl × Env')} {Q : Option (Fl × Env') → Prop}
theorem blk_nil : blk P cf .nil K env = K env := by unfold blk; simp only [exSs, consM, nextM]
theorem blk_top : consM (exSs P cf ss) nextM env = exSs P cf ss env := by
  unfold consM
  cases h : exSs P cf ss env with
  | none => rfl
  | some p => obtain ⟨fl, env'⟩ := p; cases fl <;> rfl
theorem consM_assoc {A B C : Env' → Option (Fl × Env')} : consM (consM A B) C env = consM A (consM B C) env := by
  unfold consM
  cases h : A env with
  | none => rfl
  | some p => obtain ⟨fl, env'⟩ := p; cases fl <;> rfl
theorem blk_cons : blk P cf (.cons s ss) K env = consM (exS P cf s) (blk P cf ss K) env := by
  unfold blk; rw [show exSs P cf (.cons s ss) = consM (exS P cf s) (exSs P cf ss) by rw [exSs]]; exact consM_assoc
theorem g_top {n : Nat} {X : R × List Sl} (h : Gq (FinQ n X) (blk P cf ss nextM env)) : endR (exSs P cf ss env) n = some X := by
  unfold Gq FinQ blk at h; rw [blk_top] at h; exact h
theorem g_body (h : Gq Q (blk P cf ss nextM env)) : Q (exSs P cf ss env) := by
  unfold Gq blk at h; rw [blk_top] at h; exact h
theorem g_nil (h : Gq Q (K env)) : Gq Q (blk P cf .nil K env) := by unfold Gq at h ⊢; rw [blk_nil]; exact h
theorem g_next (h : exS P cf s env = some (.next, env1)) (g : Gq Q (blk P cf ss K env1)) : Gq Q (blk P cf (.cons s ss) K env) := by
  unfold Gq at g ⊢; rw [blk_cons]; simp only [consM, h]; exact g
theorem g_wipe {vs : List Nat} (h : wipeE env vs = env1) (g : Gq Q (blk P cf ss K env1)) : Gq Q (blk P cf (.wipe vs ss) K env) := by
  subst h
  unfold Gq blk at g ⊢
  simp only [consM, exSs, wipeM] at g ⊢
  exact g
theorem g_fz (h : fzE i env = env1) (g : Gq Q (blk P cf ss K env1)) : Gq Q (blk P cf (.fz i ss) K env) := by
  subst h
  unfold Gq blk at g ⊢
  simp only [consM, exSs, fzM] at g ⊢
  exact g
theorem g_ite {A B : Ss} {t : Bool} (hc : evE P cf c env = some (.dt (.bl t), env1)) (h1 : t = true → Gq Q (blk P cf A (blk P cf ss K) env1)) (h2 : t = false → Gq Q (blk P cf B (blk P cf ss K) env1)) : Gq Q (blk P cf (.cons (.ite c A B) ss) K env) := by
  unfold Gq at h1 h2 ⊢
  rw [blk_cons]
  have e0 : exS P cf (.ite c A B) env = (if t = true then exSs P cf A env1 else exSs P cf B env1) := by
    unfold exS; simp only [iteM, boolM, hc]; cases t <;> rfl
  cases t with
  | true =>
    simp only [if_true] at e0
    have := h1 rfl
    unfold blk at this
    simp only [consM, e0] at this ⊢
    exact this
  | false =>
    simp only [Bool.false_eq_true, if_false] at e0
    have := h2 rfl
    unfold blk at this
    simp only [consM, e0] at this ⊢
    exact this
def retF (x : R) (env1 : Env') : Option (Fl × Env') := match x with
    | .dt d => some (.ret (.dt d), env1)
    | .nw d => some (.ret (.nw d), env1)
    | .sl i => match env1[i]? with
      | some (.ow false d) => some (.ret (.nw d), env1.set i .no)
      | _ => none
theorem exS_ret (h : evE P cf e env = some (x, env1)) : exS P cf (.ret e) env = retF x env1 := by
  unfold exS retM; rw [h]; cases x <;> rfl
theorem g_ret (h : evE P cf e env = some (x, env1)) (hx : retF x env1 = some (.ret r, env2)) (g : Gq Q (some (.ret r, env2))) : Gq Q (blk P cf (.cons (.ret e) ss) K env) := by
  unfold Gq at g ⊢
  rw [blk_cons]
  have e0 := (exS_ret h).trans hx
  simp only [consM, e0]; exact g
theorem g_retN (g : Gq Q (some (.ret (.dt .non), env))) : Gq Q (blk P cf (.cons .retN ss) K env) := by
  unfold Gq at g ⊢
  rw [blk_cons]
  have e0 : exS P cf .retN env = some (.ret (.dt .non), env) := by unfold exS; rfl
  simp only [consM, e0]; exact g
theorem g_cnt (g : Gq Q (some (.cnt, env))) : Gq Q (blk P cf (.cons .cnt ss) K env) := by
  unfold Gq at g ⊢
  rw [blk_cons]
  have e0 : exS P cf .cnt env = some (.cnt, env) := by unfold exS; rfl
  simp only [consM, e0]; exact g
theorem g_brk (g : Gq Q (some (.brk, env))) : Gq Q (blk P cf (.cons .brk ss) K env) := by
  unfold Gq at g ⊢
  rw [blk_cons]
  have e0 : exS P cf .brk env = some (.brk, env) := by unfold exS; rfl
  simp only [consM, e0]; exact g
/-! single statements -/
theorem s_asg (h : evE P cf e env = some (x, env1)) (hk : keepR x env1 = some (y, env2)) (hp : putSl i y env2 = some env3) : exS P cf (.asg (.nm i) e) env = some (.next, env3) := by
  unfold exS; simp only [asgM, keepM]; rw [h]; simp only [hk, hp, Option.map]
theorem s_asgTu {is : List Nat} {ds : List D} (h : evE P cf e env = some (x, env1)) (hf : frz x env1 = some (.tup ds, env2)) (hp : putAll is ds env2 = some env3) : exS P cf (.asg (.tu is) e) env = some (.next, env3) := by
  unfold exS; simp only [asgTuM, frzM]; rw [h]; simp only [hf, hp, Option.map]
theorem s_par {is : List Nat} {es : Es} {rs : List R} (h : evR P cf es env = some (rs, env1)) (hp : parPut is rs env1 = some env2) : exS P cf (.par is es) env = some (.next, env2) := by
  unfold exS parM; rw [h]; simp only [hp, Option.map]
theorem s_ex (h : evE P cf e env = some (x, env1)) : exS P cf (.ex e) env = some (.next, env1) := by
  unfold exS exM; rw [h]
theorem s_pass : exS P cf .pass env = some (.next, env) := by unfold exS; rfl
theorem s_setIx {k : Int} {ix : E} (h : evE P cf e env = some (x, env1)) (hf : frz x env1 = some (d, env2)) (hi : isOw env2 i = true) (hk : evE P cf ix env2 = some (.dt (.int k), env3)) {env4 : Env'} (hs : setAt i k d env3 = some env4) : exS P cf (.setIx i ix e) env = some (.next, env4) := by
  unfold exS; simp only [setIxM, frzM]; rw [h]; simp only [hf, hi, if_true]; rw [pz_some hk]; simp only [pzR, hs, Option.map]
/-! loops -/
theorem g_for {α σ ρ : Type} [Enc α] {vs : List Nat} {t : Tg} {it : It} {B : Ss} {n : Nat} {xs : List α} {l : List D} {o : Fw σ ρ} (f : α → σ → Option (Fw σ ρ)) (E : σ → Env') (pr : ρ → R × List Sl) {s0 : σ}
    (hit : evI P cf it env = some (l, env1)) (hl : l = xs.map enc) (hE : wipeE env1 vs = E s0) (hf : forT f xs s0 = some o)
    (hb : ∀ x s o, f x s = some o → ∃ env3, putTg t (enc x) (E s) = some env3 ∧ BdyQ vs E n pr o (exSs P cf B env3))
    (hn : ∀ s, o = .nx s → Gq Q (blk P cf ss K (E s)))
    (hr : ∀ r, o = .rt r → ∀ env', cleanE n env' = (pr r).2 → Gq Q (some (.ret (pr r).1, env'))) :
    Gq Q (blk P cf (.cons (.forW vs t it B) ss) K env) := by
  subst hl
  have key : ∀ (xs : List α) (s0 : σ) (env1 : Env'), wipeE env1 vs = E s0 → forT f xs s0 = some o →
      (∃ s, o = .nx s ∧ forWL vs t (exSs P cf B) (xs.map enc) env1 = some (.next, E s)) ∨ (∃ r env', o = .rt r ∧ forWL vs t (exSs P cf B) (xs.map enc) env1 = some (.ret (pr r).1, env') ∧ cleanE n env' = (pr r).2) := by
    intro xs
    induction xs with
    | nil =>
      intro s0 env1 hE hf
      cases hf
      exact .inl ⟨s0, rfl, by simp only [List.map_nil, forWL, hE]⟩
    | cons x xs ih =>
      intro s0 env1 hE hf
      obtain ⟨o1, h1, h2⟩ := bnd hf
      obtain ⟨env3, h3, h4⟩ := hb x s0 o1 h1
      rw [List.map_cons]
      unfold forWL
      rw [hE]
      simp only [h3]
      cases o1 with
      | nx s1 =>
        obtain ⟨fl, env', h5, h6, h7⟩ := h4
        rw [h5]
        rcases h6 with rfl | rfl
        · exact ih s1 env' h7 h2
        · exact ih s1 env' h7 h2
      | bk s1 =>
        obtain ⟨env', h5, h7⟩ := h4
        cases h2
        exact .inl ⟨s1, rfl, by rw [h5]; simp only [h7]⟩
      | rt r =>
        obtain ⟨env', h5, h7⟩ := h4
        cases h2
        exact .inr ⟨r, env', rfl, by rw [h5], h7⟩
  unfold Gq
  rw [blk_cons]
  have e0 : exS P cf (.forW vs t it B) env = forWL vs t (exSs P cf B) (xs.map enc) env1 := by unfold exS forWM; rw [hit]
  rcases key xs s0 env1 hE hf with ⟨s, h1, h2⟩ | ⟨r, env', h1, h2, h3⟩
  · simp only [consM, e0, h2]; exact hn s h1
  · simp only [consM, e0, h2]; exact hr r h1 env' h3
theorem g_fold {α σ : Type} [Enc α] {vs : List Nat} {t : Tg} {it : It} {B : Ss} {xs : List α} {l : List D} {s1 : σ} (f : α → σ → Option σ) (E : σ → Env') {s0 : σ}
    (hit : evI P cf it env = some (l, env1)) (hl : l = xs.map enc) (hE : wipeE env1 vs = E s0) (hf : foldT f xs s0 = some s1)
    (hb : ∀ x s s', f x s = some s' → ∃ env3, putTg t (enc x) (E s) = some env3 ∧ BfQ vs E s' (exSs P cf B env3))
    (g : Gq Q (blk P cf ss K (E s1))) :
    Gq Q (blk P cf (.cons (.forW vs t it B) ss) K env) := by
  subst hl
  have key : ∀ (xs : List α) (s0 : σ) (env1 : Env'), wipeE env1 vs = E s0 → foldT f xs s0 = some s1 → forWL vs t (exSs P cf B) (xs.map enc) env1 = some (.next, E s1) := by
    intro xs
    induction xs with
    | nil =>
      intro s0 env1 hE hf
      cases hf
      simp only [List.map_nil, forWL, hE]
    | cons x xs ih =>
      intro s0 env1 hE hf
      obtain ⟨s2, h1, h2⟩ := bnd hf
      obtain ⟨env3, h3, fl, env', h5, h6, h7⟩ := hb x s0 s2 h1
      rw [List.map_cons]
      unfold forWL
      rw [hE]
      simp only [h3]
      rw [h5]
      rcases h6 with rfl | rfl
      · exact ih s2 env' h7 h2
      · exact ih s2 env' h7 h2
  unfold Gq at g ⊢
  rw [blk_cons]
  have e0 : exS P cf (.forW vs t it B) env = forWL vs t (exSs P cf B) (xs.map enc) env1 := by unfold exS forWM; rw [hit]
  simp only [consM, e0, key xs s0 env1 hE hf]; exact g
theorem g_whl {σ ρ : Type} {vs : List Nat} {c : E} {B : Ss} {n : Nat} {o : Fw σ ρ} (ct : σ → Option Bool) (f : σ → Option (Fw σ ρ)) (E : σ → Env') (pr : ρ → R × List Sl) {s0 : σ}
    (hE : wipeE env vs = E s0) (hf : whlT ct f P.wf s0 = some o)
    (hc : ∀ s b, ct s = some b → evE P cf c (E s) = some (.dt (.bl b), E s))
    (hb : ∀ s o, f s = some o → BdyQ vs E n pr o (exSs P cf B (E s)))
    (hn : ∀ s, o = .nx s → Gq Q (blk P cf ss K (E s)))
    (hr : ∀ r, o = .rt r → ∀ env', cleanE n env' = (pr r).2 → Gq Q (some (.ret (pr r).1, env'))) :
    Gq Q (blk P cf (.cons (.whlW vs c B) ss) K env) := by
  have key : ∀ (m : Nat) (s0 : σ) (env1 : Env'), wipeE env1 vs = E s0 → whlT ct f m s0 = some o →
      (∃ s, o = .nx s ∧ whlWL vs (boolM (evE P cf c)) (exSs P cf B) m env1 = some (.next, E s)) ∨ (∃ r env', o = .rt r ∧ whlWL vs (boolM (evE P cf c)) (exSs P cf B) m env1 = some (.ret (pr r).1, env') ∧ cleanE n env' = (pr r).2) := by
    intro m
    induction m with
    | zero => intro s0 env1 hE hf; cases hf
    | succ m ih =>
      intro s0 env1 hE hf
      obtain ⟨b, h1, h2⟩ := bnd hf
      unfold whlWL
      rw [hE]
      simp only [boolM, hc s0 b h1]
      cases b with
      | false =>
        simp only [Bool.false_eq_true, if_false] at h2
        cases h2
        exact .inl ⟨s0, rfl, rfl⟩
      | true =>
        simp only [if_true] at h2
        obtain ⟨o1, h3, h4⟩ := bnd h2
        have h5 := hb s0 o1 h3
        cases o1 with
        | nx s1 =>
          obtain ⟨fl, env', h6, h7, h8⟩ := h5
          simp only [h6]
          rcases h7 with rfl | rfl
          · exact ih s1 env' h8 h4
          · exact ih s1 env' h8 h4
        | bk s1 =>
          obtain ⟨env', h6, h8⟩ := h5
          cases h4
          exact .inl ⟨s1, rfl, by simp only [h6, h8]⟩
        | rt r =>
          obtain ⟨env', h6, h8⟩ := h5
          cases h4
          exact .inr ⟨r, env', rfl, by simp only [h6], h8⟩
  unfold Gq
  rw [blk_cons]
  have e0 : exS P cf (.whlW vs c B) env = whlWL vs (boolM (evE P cf c)) (exSs P cf B) P.wf env := by unfold exS; rfl
  rcases key P.wf s0 env hE hf with ⟨s, h1, h2⟩ | ⟨r, env', h1, h2, h3⟩
  · simp only [consM, e0, h2]; exact hn s h1
  · simp only [consM, e0, h2]; exact hr r h1 env' h3
/-! comprehensions -/
theorem lc_len {α β : Type} {f : α → Option (Option β)} : ∀ {xs : List α} {l : List β}, lcGo f xs = some l → l.length ≤ xs.length
  | [], l, h => by cases h; simp
  | x :: xs, l, h => by
    obtain ⟨o, h1, h2⟩ := bnd h
    obtain ⟨m, h3, h4⟩ := bnd h2
    have := lc_len h3
    cases o <;> cases h4 <;> simp <;> omega
theorem lc_lenS {α β σ : Type} {f : α → σ → Option (Option β × σ)} : ∀ {xs : List α} {s : σ} {l : List β × σ}, lcGoS f xs s = some l → l.1.length ≤ xs.length
  | [], s, l, h => by cases h; simp
  | x :: xs, s, l, h => by
    obtain ⟨⟨o, s1⟩, h1, h2⟩ := bnd h
    obtain ⟨m, h3, h4⟩ := bnd h2
    have := lc_lenS h3
    cases o <;> cases h4 <;> simp <;> omega
theorem lcL_ok {α β σ : Type} [Enc α] [Enc β] {vs : List Nat} {t : Tg} {mc : Env' → Option (Bool × Env')} {me : Env' → Option (R × Env')} (f : α → σ → Option (Option β × σ)) (E : σ → Env')
    (hb : ∀ x s o, f x s = some o → ∃ env1, putTg t (enc x) (E s) = some env1 ∧ (o.1 = none → ∃ env2, mc env1 = some (false, env2) ∧ wipeE env2 vs = E o.2) ∧ (∀ y, o.1 = some y → ∃ env2 x env3 env4, mc env1 = some (true, env2) ∧ me env2 = some (x, env3) ∧ frz x env3 = some (enc y, env4) ∧ wipeE env4 vs = E o.2)) :
    ∀ (xs : List α) (s : σ) (env : Env') (acc : List D) (l : List β × σ), lcGoS f xs s = some l → wipeE env vs = E s → acc.length + l.1.length ≤ sizeLine →
      ∃ env', lcL t vs mc me (xs.map enc) acc env = some (acc ++ l.1.map enc, env') ∧ wipeE env' vs = E l.2 := by
  intro xs
  induction xs with
  | nil =>
    intro s env acc l h hE hz
    cases h
    exact ⟨env, by simp [lcL], hE⟩
  | cons x xs ih =>
    intro s env acc l h hE hz
    obtain ⟨o, h1, h2⟩ := bnd h
    obtain ⟨m, h3, h4⟩ := bnd h2
    obtain ⟨env1, p1, p2, p3⟩ := hb x s o h1
    rw [List.map_cons]
    unfold lcL
    rw [hE, p1]
    simp only
    cases ho : o.1 with
    | none =>
      obtain ⟨env2, q1, q2⟩ := p2 ho
      rw [ho] at h4
      cases h4
      simp only [q1]
      exact ih o.2 env2 acc m h3 q2 hz
    | some y =>
      obtain ⟨env2, x', env3, env4, q1, q2, q3, q4⟩ := p3 y ho
      rw [ho] at h4
      cases h4
      simp only [q1, frzM, q2, q3]
      simp only [List.length_cons] at hz
      rw [if_pos (by omega)]
      obtain ⟨env', k1, k2⟩ := ih o.2 env4 (acc ++ [enc y]) m h3 q4 (by simp; omega)
      exact ⟨env', by rw [k1]; simp, k2⟩
theorem lcGo_S {α β : Type} {f : α → Option (Option β)} : ∀ {xs : List α} {l : List β}, lcGo f xs = some l → lcGoS (fun x (_ : Unit) => (f x).bind fun o => some (o, ())) xs () = some (l, ())
  | [], l, h => by cases h; rfl
  | x :: xs, l, h => by
    obtain ⟨o, h1, h2⟩ := bnd h
    obtain ⟨m, h3, h4⟩ := bnd h2
    have := lcGo_S h3
    cases h4
    simp only [lcGoS, h1, Option.bind_some, this]
    cases o <;> rfl
theorem e_lcS {α β σ : Type} [Enc α] [Enc β] {vs : List Nat} {t : Tg} {it : It} {c : Eo} {e : E} {xs : List α} {l : List D} {o : List β × σ} {s0 : σ} (f : α → σ → Option (Option β × σ)) (E : σ → Env')
    (hit : evI P cf it env = some (l, env1)) (hl : l = xs.map enc) (hp : plainAt env1 vs = true) (hE : wipeE env1 vs = E s0) (hf : lcS f xs s0 = some o)
    (hb : ∀ x s o, f x s = some o → ∃ env1, putTg t (enc x) (E s) = some env1 ∧ (o.1 = none → ∃ env2, evC P cf c env1 = some (false, env2) ∧ wipeE env2 vs = E o.2) ∧ (∀ y, o.1 = some y → ∃ env2 x env3 env4, evC P cf c env1 = some (true, env2) ∧ evE P cf e env2 = some (x, env3) ∧ frz x env3 = some (enc y, env4) ∧ wipeE env4 vs = E o.2))
    (hr : ∀ env', wipeE env' vs = E o.2 → backE env1 env' vs = env2) :
    evE P cf (.lc vs t it c e) env = some (.nw (enc o.1), env2) := by
  subst hl
  unfold lcS at hf
  split at hf
  · rename_i hz
    obtain ⟨env', k1, k2⟩ := lcL_ok f E hb xs s0 env1 [] o hf hE (by have := lc_lenS hf; simp; omega)
    rw [List.nil_append] at k1
    unfold evE lcM
    rw [hit]
    simp only [hp, if_true, k1]
    rw [hr env' k2]
    rfl
  · cases hf
/-- what the names were before -/
theorem back_eq {env1 env' : Env'} {vs : List Nat} (h : wipeE env' vs = wipeE env1 vs) : backE env1 env' vs = env1 := by
  have wl : ∀ (e : Env') (vs : List Nat), (wipeE e vs).length = e.length := fun e vs => by
    induction vs with
    | nil => rfl
    | cons v vs ih => simp [wipeE, ih]
  have wo : ∀ (e : Env') (i : Nat) (vs : List Nat), i ∉ vs → (wipeE e vs)[i]? = e[i]? := fun e i vs => by
    induction vs with
    | nil => intro _; rfl
    | cons v vs ih =>
      intro hi
      simp only [List.mem_cons, not_or] at hi
      simp only [wipeE]
      rw [List.getElem?_set_ne (fun q => hi.1 q.symm)]
      exact ih hi.2
  have bl : ∀ (e e' : Env') (vs : List Nat), (backE e e' vs).length = e'.length := fun e e' vs => by
    induction vs with
    | nil => rfl
    | cons v vs ih => simp [backE, ih]
  have bo : ∀ (e e' : Env') (i : Nat) (vs : List Nat), i ∉ vs → (backE e e' vs)[i]? = e'[i]? := fun e e' i vs => by
    induction vs with
    | nil => intro _; rfl
    | cons v vs ih =>
      intro hi
      simp only [List.mem_cons, not_or] at hi
      simp only [backE]
      rw [List.getElem?_set_ne (fun q => hi.1 q.symm)]
      exact ih hi.2
  have bi : ∀ (e e' : Env') (i : Nat) (vs : List Nat), i ∈ vs → i < e'.length → (backE e e' vs)[i]? = some (e.getD i .no) := fun e e' i vs => by
    induction vs with
    | nil => intro hi; cases hi
    | cons v vs ih =>
      intro hi hl
      simp only [backE]
      by_cases q : v = i
      · subst q
        rw [List.getElem?_set_self (by rw [bl]; exact hl)]
      · rw [List.getElem?_set_ne q]
        rcases List.mem_cons.mp hi with rfl | hi
        · exact (q rfl).elim
        · exact ih hi hl
  have hlen : env'.length = env1.length := by
    have := congrArg List.length h
    rwa [wl, wl] at this
  refine List.ext_getElem? fun i => ?_
  by_cases hi : i ∈ vs
  · by_cases hl : i < env1.length
    · rw [bi env1 env' i vs hi (by rw [hlen]; exact hl), List.getD_eq_getElem?_getD, List.getElem?_eq_getElem hl]
      rfl
    · rw [List.getElem?_eq_none (by rw [bl, hlen]; omega), List.getElem?_eq_none (by omega)]
  · rw [bo _ _ _ _ hi, ← wo env' i vs hi, h, wo _ _ _ hi]
theorem e_lc {α β : Type} [Enc α] [Enc β] {vs : List Nat} {t : Tg} {it : It} {c : Eo} {e : E} {xs : List α} {l : List D} {o : List β} {Ew : Env'} (f : α → Option (Option β))
    (hit : evI P cf it env = some (l, env1)) (hl : l = xs.map enc) (hp : plainAt env1 vs = true) (hE : wipeE env1 vs = Ew) (hf : lcP f xs = some o)
    (hb : ∀ x o, f x = some o → ∃ env1, putTg t (enc x) Ew = some env1 ∧ (o = none → ∃ env2, evC P cf c env1 = some (false, env2) ∧ wipeE env2 vs = Ew) ∧ (∀ y, o = some y → ∃ env2 x env3 env4, evC P cf c env1 = some (true, env2) ∧ evE P cf e env2 = some (x, env3) ∧ frz x env3 = some (enc y, env4) ∧ wipeE env4 vs = Ew)) :
    evE P cf (.lc vs t it c e) env = some (.nw (enc o), env1) := by
  unfold lcP at hf
  split at hf
  · rename_i hz
    refine e_lcS (o := (o, ())) (s0 := ()) (fun x (_ : Unit) => (f x).bind fun o => some (o, ())) (fun _ => Ew) hit hl hp hE (by unfold lcS; rw [if_pos hz]; exact lcGo_S hf) (fun x s o ho => ?_) (fun env' h => back_eq (h.trans hE.symm))
    obtain ⟨o1, h1, h2⟩ := bnd ho
    cases h2
    exact hb x o1 h1
  · cases hf
/-- the inner loop of a comprehension -/
def In2 {β : Type} [Enc β] (P : Pg) (cf : Nat → List Sl → Option (R × List Sl)) (c : Eo) (it1 : It) (t1 : Tg) (vs vs1 : List Nat) (c1 : Eo) (e : E) (Ew env1 : Env') (o : List β) : Prop :=
  (o = [] ∧ ∃ env2, evC P cf c env1 = some (false, env2) ∧ wipeE env2 vs = Ew) ∨
  (∃ env2 l env3, evC P cf c env1 = some (true, env2) ∧ evI P cf it1 env2 = some (l, env3) ∧ ∀ acc : List D, acc.length + o.length ≤ sizeLine → ∃ env', lcL t1 vs1 (evC P cf c1) (evE P cf e) l acc env3 = some (acc ++ o.map enc, env') ∧ wipeE env' vs = Ew)
theorem in2_ok {β γ : Type} [Enc β] [Enc γ] {c c1 : Eo} {it1 : It} {t1 : Tg} {vs vs1 : List Nat} {e : E} {Ew Ew1 env1 env2 env3 : Env'} {l : List D} {ys : List γ} {o : List β} (g : γ → Option (Option β))
    (hc : evC P cf c env1 = some (true, env2)) (hit : evI P cf it1 env2 = some (l, env3)) (hl : l = ys.map enc) (hE : wipeE env3 vs1 = Ew1) (hf : lcGo g ys = some o)
    (hb : ∀ x o, g x = some o → ∃ env1, putTg t1 (enc x) Ew1 = some env1 ∧ (o = none → ∃ env2, evC P cf c1 env1 = some (false, env2) ∧ wipeE env2 vs1 = Ew1) ∧ (∀ y, o = some y → ∃ env2 x env3 env4, evC P cf c1 env1 = some (true, env2) ∧ evE P cf e env2 = some (x, env3) ∧ frz x env3 = some (enc y, env4) ∧ wipeE env4 vs1 = Ew1))
    (hw : ∀ env', wipeE env' vs1 = Ew1 → wipeE env' vs = Ew) : In2 P cf c it1 t1 vs vs1 c1 e Ew env1 o := by
  subst hl
  refine .inr ⟨env2, _, env3, hc, hit, fun acc hz => ?_⟩
  obtain ⟨env', k1, k2⟩ := lcL_ok (t := t1) (vs := vs1) (mc := evC P cf c1) (me := evE P cf e) (fun x (_ : Unit) => (g x).bind fun o => some (o, ())) (fun _ => Ew1) (fun x s o ho => by
    obtain ⟨o1, h1, h2⟩ := bnd ho
    cases h2
    exact hb x o1 h1) ys () env3 acc (o, ()) (lcGo_S hf) hE hz
  exact ⟨env', k1, hw env' k2⟩
theorem lc2L_ok {α β : Type} [Enc α] [Enc β] {vs vs1 : List Nat} {t t1 : Tg} {c c1 : Eo} {it1 : It} {e : E} {Ew : Env'} (f : α → Option (List β))
    (hb : ∀ x o, f x = some o → ∃ env1, putTg t (enc x) Ew = some env1 ∧ In2 P cf c it1 t1 vs vs1 c1 e Ew env1 o) :
    ∀ (xs : List α) (env : Env') (acc : List D) (o : List β), lc2Go f xs acc.length = some o → wipeE env vs = Ew →
      ∃ env', lcL2 t vs (evC P cf c) (evI P cf it1) t1 vs1 (evC P cf c1) (evE P cf e) (xs.map enc) acc env = some (acc ++ o.map enc, env') ∧ wipeE env' vs = Ew := by
  intro xs
  induction xs with
  | nil =>
    intro env acc o h hE
    cases h
    exact ⟨env, by simp [lcL2], hE⟩
  | cons x xs ih =>
    intro env acc o h hE
    obtain ⟨l, h1, h2⟩ := bnd h
    split at h2
    · rename_i hz
      obtain ⟨m, h3, h4⟩ := bnd h2
      cases h4
      obtain ⟨env1, p1, p2⟩ := hb x l h1
      rw [List.map_cons]
      unfold lcL2
      rw [hE, p1]
      simp only
      rcases p2 with ⟨rfl, env2, q1, q2⟩ | ⟨env2, l', env3, q1, q2, q3⟩
      · simp only [q1]
        obtain ⟨env', k1, k2⟩ := ih env2 acc m h3 q2
        exact ⟨env', by rw [k1]; simp, k2⟩
      · obtain ⟨env4, k1, k2⟩ := q3 acc hz
        simp only [q1, q2, k1]
        obtain ⟨env', k3, k4⟩ := ih env4 (acc ++ l.map enc) m (by rw [List.length_append, List.length_map]; exact h3) k2
        exact ⟨env', by rw [k3]; simp, k4⟩
    · cases h2
theorem e_lc2 {α β : Type} [Enc α] [Enc β] {vs vs1 : List Nat} {t t1 : Tg} {it it1 : It} {c c1 : Eo} {e : E} {xs : List α} {l : List D} {o : List β} {Ew : Env'} (f : α → Option (List β))
    (hit : evI P cf it env = some (l, env1)) (hl : l = xs.map enc) (hp : plainAt env1 vs = true) (hE : wipeE env1 vs = Ew) (hf : lc2P f xs = some o)
    (hb : ∀ x o, f x = some o → ∃ env1, putTg t (enc x) Ew = some env1 ∧ In2 P cf c it1 t1 vs vs1 c1 e Ew env1 o) :
    evE P cf (.lc2 vs vs1 t it c t1 it1 c1 e) env = some (.nw (enc o), env1) := by
  subst hl
  obtain ⟨env', k1, k2⟩ := lc2L_ok f hb xs env1 [] o hf hE
  rw [List.nil_append] at k1
  unfold evE lcM2
  rw [hit]
  simp only [hp, if_true, k1]
  rw [back_eq (k2.trans hE.symm)]
  rfl
theorem c_no : evC P cf .no env = some (true, env) := by unfold evC; rfl
theorem c_so {t : Bool} (h : evE P cf e env = some (.dt (.bl t), env1)) : evC P cf (.so e) env = some (t, env1) := by unfold evC; simp only [boolM, h]
end
end VI
/-! operations over typed data -/
namespace VI
open PySem L2 Enc
class BinC (o : BO) (α β : Type) (γ : outParam Type) [Enc α] [Enc β] [Enc γ] where
  nw : Bool
  f : α → β → Option γ
  law : ∀ {a b c}, f a b = some c → binD o (enc a) (enc b) = some (mkR nw (enc c))
theorem ite_some {p : Prop} [Decidable p] {α : Type} {x y : α} (h : (if p then some x else none) = some y) : p ∧ x = y := by
  split at h
  · cases h; exact ⟨by assumption, rfl⟩
  · cases h
instance bAddI : BinC .add Int Int Int := ⟨false, fun a b => some (a + b), fun h => by cases h; rfl⟩
instance bSubI : BinC .sub Int Int Int := ⟨false, fun a b => some (a - b), fun h => by cases h; rfl⟩
instance bMulI : BinC .mul Int Int Int := ⟨false, fun a b => if CMul a b then some (a * b) else none, fun {a b c} h => by
  obtain ⟨h1, rfl⟩ := ite_some h
  show (if CMul a b then _ else _) = _
  rw [if_pos h1]; rfl⟩
instance bModI : BinC .mod Int Int Int := ⟨false, fun a b => if 0 < b then some (a % b) else none, fun {a b c} h => by
  obtain ⟨h1, rfl⟩ := ite_some h
  show (if 0 < b then _ else _) = _
  rw [if_pos h1]; rfl⟩
instance bDivI : BinC .fdiv Int Int Int := ⟨false, fun a b => if CDiv a b then some (a / b) else none, fun {a b c} h => by
  obtain ⟨h1, rfl⟩ := ite_some h
  show (if CDiv a b then _ else _) = _
  rw [if_pos h1]; rfl⟩
instance bPowI : BinC .pow Int Int Int := ⟨false, fun a b => if CPow a b then some (a ^ b.toNat) else none, fun {a b c} h => by
  obtain ⟨h1, rfl⟩ := ite_some h
  show (if CPow a b then _ else _) = _
  rw [if_pos h1]; rfl⟩
instance bAddS : BinC .add Str Str Str := ⟨false, fun a b => if a.length + b.length ≤ sizeLine then some (a ++ b) else none, fun {a b c} h => by
  obtain ⟨h1, rfl⟩ := ite_some h
  show (if a.length + b.length ≤ sizeLine then _ else _) = _
  rw [if_pos h1]; rfl⟩
section
variable {α : Type} [Enc α]
instance bAddT : BinC .add (Tup α) (Tup α) (Tup α) := ⟨false, fun a b => if a.l.length + b.l.length ≤ sizeLine then some ⟨a.l ++ b.l⟩ else none, fun {a b c} h => by
  obtain ⟨h1, rfl⟩ := ite_some h
  show (if (a.l.map enc).length + (b.l.map enc).length ≤ sizeLine then some (R.dt (.tup (a.l.map enc ++ b.l.map enc))) else _) = some (R.dt (.tup ((a.l ++ b.l).map enc)))
  rw [List.length_map, List.length_map, if_pos h1, List.map_append]⟩
instance bAddL : BinC .add (List α) (List α) (List α) := ⟨true, fun a b => if a.length + b.length ≤ sizeLine then some (a ++ b) else none, fun {a b c} h => by
  obtain ⟨h1, rfl⟩ := ite_some h
  show (if (a.map enc).length + (b.map enc).length ≤ sizeLine then some (R.nw (.lst (a.map enc ++ b.map enc))) else _) = some (R.nw (.lst ((a ++ b).map enc)))
  rw [List.length_map, List.length_map, if_pos h1, List.map_append]⟩
instance bMulL : BinC .mul (List α) Int (List α) := ⟨true, fun a k => if -(2 ^ 63) ≤ k ∧ k < 2 ^ 63 ∧ a.length * k.toNat ≤ sizeLine then some (List.replicate k.toNat a).flatten else none, fun {a k c} h => by
  obtain ⟨h1, rfl⟩ := ite_some h
  show (if -(2 ^ 63) ≤ k ∧ k < 2 ^ 63 ∧ (a.map enc).length * k.toNat ≤ sizeLine then some (R.nw (.lst (List.replicate k.toNat (a.map enc)).flatten)) else _) = some (R.nw (.lst ((List.replicate k.toNat a).flatten.map enc)))
  rw [List.length_map, if_pos h1, List.map_flatten, List.map_replicate]⟩
end
/-! places -/
class IxC (γ κ : Type) (β : outParam Type) [Enc γ] [Enc κ] [Enc β] where
  f : γ → κ → Option β
  law : ∀ {c k v}, f c k = some v → ixD (enc c) (enc k) = some (enc v)
theorem atI_mapE {α β : Type} (f : α → β) (l : List α) (i : Int) : atI (l.map f) i = (atI l i).map f := by
  unfold atI
  rw [List.length_map]
  cases ixN l.length i with
  | none => rfl
  | some j => simp
section
variable {α : Type} [Enc α]
instance iTup : IxC (Tup α) Int α := ⟨fun c k => atI c.l k, fun {c k v} h => by show atI (c.l.map enc) k = _; rw [atI_mapE, h]; rfl⟩
instance iLst : IxC (List α) Int α := ⟨fun c k => atI c k, fun {c k v} h => by show atI (c.map enc) k = _; rw [atI_mapE, h]; rfl⟩
end
instance iScr : IxC Scr Int Int := ⟨fun c k => atI c.l k, fun {c k v} h => by show (atI c.l k).map D.int = _; rw [h]; rfl⟩
theorem dLook_map {ν : Type} [Enc ν] {k : Str} {v : ν} : ∀ {l : List (Str × ν)}, l.lookup k = some v → dLook k (l.map fun p => (enc p.1, enc p.2)) = some (enc v)
  | [], h => by cases h
  | (x, y) :: l, h => by
    rw [List.lookup_cons] at h
    rw [List.map_cons]
    show (if x = k then some (enc y) else dLook k _) = _
    by_cases q : x = k
    · subst q; rw [if_pos rfl]; simp at h; rw [h]
    · rw [if_neg q]
      have : (k == x) = false := by simpa using fun w => q w.symm
      rw [this] at h
      exact dLook_map h
instance iDc {ν : Type} [Enc ν] : IxC (Dc Str ν) Str ν := ⟨fun c k => c.l.lookup k, fun {c k v} h => dLook_map h⟩
/-- a written place -/
class IxN (n : Int) (γ : Type) (β : outParam Type) [Enc γ] [Enc β] where
  f : γ → Option β
  law : ∀ {c v}, f c = some v → ixD (enc c) (.int n) = some (enc v)
section
variable {α β γ : Type} [Enc α] [Enc β] [Enc γ]
instance nTup {n : Int} : IxN n (Tup α) α := ⟨fun c => atI c.l n, fun h => iTup.law h⟩
instance nLst {n : Int} : IxN n (List α) α := ⟨fun c => atI c n, fun h => iLst.law h⟩
instance nPr0 : IxN 0 (α × β) α := ⟨fun c => some c.1, fun h => by cases h; rfl⟩
instance nPr1 : IxN 1 (α × β) β := ⟨fun c => some c.2, fun h => by cases h; rfl⟩
instance nTr0 : IxN 0 (Tr α β γ) α := ⟨fun c => some c.a, fun h => by cases h; rfl⟩
instance nTr1 : IxN 1 (Tr α β γ) β := ⟨fun c => some c.b, fun h => by cases h; rfl⟩
instance nTr2 : IxN 2 (Tr α β γ) γ := ⟨fun c => some c.c, fun h => by cases h; rfl⟩
end
/-! slices -/
def cutL {α : Type} (l : List α) (lo hi : Option Int) : List α := (l.drop (HT.sIx l.length 0 lo)).take (HT.sIx l.length l.length hi - HT.sIx l.length 0 lo)
theorem cutD_map {α : Type} (f : α → D) (l : List α) (lo hi : Option Int) : cutD (l.map f) lo hi = (cutL l lo hi).map f := by
  unfold cutD cutL; rw [List.length_map, List.map_take, List.map_drop]
class SliC (γ : Type) (δ : outParam Type) [Enc γ] [Enc δ] where
  nw : Bool
  f : γ → Option Int → Option Int → Option δ
  law : ∀ {c lo hi d}, f c lo hi = some d → sliD (enc c) lo hi = some (mkR nw (enc d))
section
variable {α : Type} [Enc α]
instance sTup : SliC (Tup α) (Tup α) := ⟨false, fun c lo hi => some ⟨cutL c.l lo hi⟩, fun {c lo hi d} h => by cases h; show some (R.dt (.tup (cutD (c.l.map enc) lo hi))) = _; rw [cutD_map]; rfl⟩
instance sLst : SliC (List α) (List α) := ⟨true, fun c lo hi => some (cutL c lo hi), fun {c lo hi d} h => by cases h; show some (R.nw (.lst (cutD (c.map enc) lo hi))) = _; rw [cutD_map]; rfl⟩
end
instance sScr : SliC Scr (List Int) := ⟨true, fun c lo hi => some (cutL c.l lo hi), fun {c lo hi d} h => by cases h; show some (R.nw (.lst (cutD (c.l.map D.int) lo hi))) = _; rw [cutD_map]; rfl⟩
instance sStr : SliC Str Str := ⟨false, fun c lo hi => if c.length ≤ sizeLine then some (cutS c lo hi) else none, fun {c lo hi d} h => by
  obtain ⟨h1, rfl⟩ := ite_some h
  show (if c.length ≤ sizeLine then _ else _) = _
  rw [if_pos h1]; rfl⟩
/-! walks -/
class SeqC (γ : Type) (α : outParam Type) [Enc γ] [Enc α] where
  f : γ → List α
  law : ∀ c, seqD (enc c) = some ((f c).map enc)
class EnmC (γ : Type) (α : outParam Type) [Enc γ] [Enc α] where
  f : γ → List (Int × α)
  law : ∀ c, enmD (enc c) = some ((f c).map enc)
section
variable {α β : Type} [Enc α] [Enc β]
instance qTup : SeqC (Tup α) α := ⟨fun c => c.l, fun c => rfl⟩
instance qLst : SeqC (List α) α := ⟨fun c => c, fun c => rfl⟩
def enmL (l : List α) : List (Int × α) := l.zipIdx.map fun p => ((p.2 : Int), p.1)
theorem enm_map (l : List α) : ((l.map enc).zipIdx.map fun p => D.tup [.int (p.2 : Nat), p.1]) = (enmL l).map enc := by
  unfold enmL
  rw [List.zipIdx_map, List.map_map, List.map_map]
  rfl
instance mTup : EnmC (Tup α) α := ⟨fun c => enmL c.l, fun c => congrArg some (enm_map c.l)⟩
instance mLst : EnmC (List α) α := ⟨fun c => enmL c, fun c => congrArg some (enm_map c)⟩
end
instance qStr : SeqC Str Str := ⟨fun z => z.cps.toList.map fun c => ⟨#[c]⟩, fun z => by
  show some (z.cps.toList.map fun c => D.str ⟨#[c]⟩) = _
  rw [List.map_map]; rfl⟩
instance qScr : SeqC Scr Int := ⟨fun z => z.l, fun z => rfl⟩
class ZipC (γ δ : Type) (α β : outParam Type) [Enc γ] [Enc δ] [Enc α] [Enc β] where
  f : γ → δ → List (α × β)
  law : ∀ c d, zipD (enc c) (enc d) = some ((f c d).map enc)
section
variable {α β : Type} [Enc α] [Enc β]
theorem zip_mapE (l : List α) (m : List β) : (((l.map enc).zip (m.map enc)).map fun p => D.tup [p.1, p.2]) = (l.zip m).map enc := by
  rw [List.zip_map, List.map_map]; rfl
instance zTup : ZipC (Tup α) (Tup β) α β := ⟨fun c d => c.l.zip d.l, fun c d => congrArg some (zip_mapE c.l d.l)⟩
instance zLst : ZipC (List α) (List β) α β := ⟨fun c d => c.zip d, fun c d => congrArg some (zip_mapE c d)⟩
end
/-! built-in functions -/
class LenC (γ : Type) [Enc γ] where
  f : γ → Option Int
  law : ∀ {c n}, f c = some n → biLen [enc c] = some (.dt (enc n))
section
variable {α β : Type} [Enc α] [Enc β]
instance lTup : LenC (Tup α) := ⟨fun c => some c.l.length, fun {c n} h => by cases h; show some (R.dt (.int ((c.l.map enc).length : Nat))) = _; rw [List.length_map]; rfl⟩
instance lLst : LenC (List α) := ⟨fun c => some c.length, fun {c n} h => by cases h; show some (R.dt (.int ((c.map enc).length : Nat))) = _; rw [List.length_map]; rfl⟩
instance lDc : LenC (Dc α β) := ⟨fun c => some c.l.length, fun {c n} h => by cases h; show some (R.dt (.int ((c.l.map _).length : Nat))) = _; rw [List.length_map]; rfl⟩
end
instance lScr : LenC Scr := ⟨fun c => some c.l.length, fun h => by cases h; rfl⟩
instance lStr : LenC Str := ⟨fun c => if c.length ≤ sizeLine then some c.length else none, fun {c n} h => by
  obtain ⟨h1, rfl⟩ := ite_some h
  show (if c.length ≤ sizeLine then _ else _) = _
  rw [if_pos h1]; rfl⟩
class TupC (γ : Type) (α : outParam Type) [Enc γ] [Enc α] where
  f : γ → Tup α
  law : ∀ c, biTuple [enc c] = some (.dt (enc (f c)))
class LstC (γ : Type) (α : outParam Type) [Enc γ] [Enc α] where
  f : γ → List α
  law : ∀ c, biList [enc c] = some (.nw (enc (f c)))
section
variable {α : Type} [Enc α]
instance tLst : TupC (List α) α := ⟨fun c => ⟨c⟩, fun c => rfl⟩
instance tTup : TupC (Tup α) α := ⟨fun c => c, fun c => rfl⟩
instance kLst : LstC (List α) α := ⟨fun c => c, fun c => rfl⟩
instance kTup : LstC (Tup α) α := ⟨fun c => c.l, fun c => rfl⟩
end
theorem boolsE : ∀ l : List Bool, bools (l.map enc) = some l
  | [] => rfl
  | b :: l => by rw [List.map_cons]; show (bools (l.map enc)).map (b :: ·) = _; rw [boolsE l]; rfl
theorem bi_allT (l : List Bool) : biD .all [enc l] = some (.dt (enc (l.all id))) := by
  show (bools (l.map enc)).map _ = _; rw [boolsE]; rfl
theorem bi_anyT (l : List Bool) : biD .any [enc l] = some (.dt (enc (l.any id))) := by
  show (bools (l.map enc)).map _ = _; rw [boolsE]; rfl
class IntC (γ : Type) [Enc γ] where
  f : γ → Int
  law : ∀ c, biInt [enc c] = some (.dt (enc (f c)))
instance nInt : IntC Int := ⟨fun c => c, fun c => rfl⟩
instance nBool : IntC Bool := ⟨fun c => if c then 1 else 0, fun c => rfl⟩
def absT (i : Int) : Int := if i < 0 then -i else i
def max2T (i j : Int) : Int := if j > i then j else i
def min2T (i j : Int) : Int := if j < i then j else i
def divmodT (i j : Int) : Option (Int × Int) := if CDiv i j then some (i / j, i % j) else none
theorem bi_absT (i : Int) : biD .abs [enc i] = some (.dt (enc (absT i))) := rfl
theorem bi_max2T (i j : Int) : biD .max2 [enc i, enc j] = some (.dt (enc (max2T i j))) := rfl
theorem bi_min2T (i j : Int) : biD .min2 [enc i, enc j] = some (.dt (enc (min2T i j))) := rfl
theorem bi_divmodT {i j : Int} {p : Int × Int} (h : divmodT i j = some p) : biD .divmod [enc i, enc j] = some (.dt (enc p)) := by
  obtain ⟨h1, rfl⟩ := ite_some h
  show (if CDiv i j then _ else _) = _
  rw [if_pos h1]; rfl
def reprT {α : Type} [Enc α] (a : α) : Option Str := match biRepr [enc a] with
  | some (.dt (.str s)) => some s
  | _ => none
theorem bi_reprT {α : Type} [Enc α] {a : α} {s : Str} (h : reprT a = some s) : biD .repr [enc a] = some (.dt (enc s)) := by
  unfold reprT at h
  split at h
  · rename_i q; cases h; exact q
  · cases h
theorem insK_mapT {α β : Type} (f : α → β) (k : β → Sk) (x : α) : ∀ l : List α, insK k (f x) (l.map f) = (insK (fun a => k (f a)) x l).map f
  | [] => rfl
  | y :: l => by
    rw [List.map_cons]
    unfold insK
    rw [insK_mapT f k x l]
    split <;> rfl
theorem sortK_mapT {α β : Type} (f : α → β) (k : β → Sk) (l : List α) : sortK k (l.map f) = (sortK (fun a => k (f a)) l).map f := by
  unfold sortK
  have : ∀ (l acc : List α), List.foldl (fun acc x => insK k x acc) (acc.map f) (l.map f) = (List.foldl (fun acc x => insK (fun a => k (f a)) x acc) acc l).map f := by
    intro l
    induction l with
    | nil => intro acc; rfl
    | cons x l ih => intro acc; rw [List.map_cons, List.foldl_cons, List.foldl_cons, insK_mapT]; exact ih _
  exact this l []
def sortedT {α : Type} [Enc α] (l : List α) : Option (List α) := if sortable (l.map enc) = true then some (sortK (fun a => keyOf (enc a)) l) else none
theorem bi_sortedT {α : Type} [Enc α] {l m : List α} (h : sortedT l = some m) : biD .sorted [enc l] = some (.nw (enc m)) := by
  obtain ⟨h1, rfl⟩ := ite_some h
  show (if sortable (l.map enc) = true then some (R.nw (.lst (sortK keyOf (l.map enc)))) else _) = _
  rw [if_pos h1, sortK_mapT]; rfl
/-! texts -/
theorem txtsE : ∀ l : List Str, txts (l.map enc) = some l
  | [] => rfl
  | b :: l => by rw [List.map_cons]; show (txts (l.map enc)).map (b :: ·) = _; rw [txtsE l]; rfl
class JoinC (γ : Type) [Enc γ] where
  f : Str → γ → Option Str
  law : ∀ {z c s}, f z c = some s → bmJoin (enc z) [enc c] = some (.dt (enc s))
def joinT (z : Str) (ys : List Str) : Option Str := if (ys.map (·.length)).sum + ys.length * z.length ≤ 16777216 then some (Txt.join z ys) else none
instance jLst : JoinC (List Str) := ⟨joinT, fun {z c s} h => by
  obtain ⟨h1, rfl⟩ := ite_some h
  show (txts (c.map enc)).bind _ = _
  rw [txtsE]
  show (if _ then _ else _) = _
  rw [if_pos h1]; rfl⟩
instance jTup : JoinC (Tup Str) := ⟨fun z c => joinT z c.l, fun {z c s} h => by
  obtain ⟨h1, rfl⟩ := ite_some h
  show (txts (c.l.map enc)).bind _ = _
  rw [txtsE]
  show (if _ then _ else _) = _
  rw [if_pos h1]; rfl⟩
def splitT (a b : Str) : Option (List Str) := if (b.length == 0) = false ∧ a.length + 2 ≤ sizeLine then some (Txt.split a b) else none
theorem bm_splitT {a b : Str} {l : List Str} (h : splitT a b = some l) : bmD .split (enc a) [enc b] = some (.nw (enc l)) := by
  obtain ⟨h1, rfl⟩ := ite_some h
  show (if _ then _ else _) = _
  rw [if_pos h1]; rfl
def partT (a b : Str) : Option (Tr Str Str Str) := if (b.length == 0) = false ∧ a.length ≤ sizeLine then some ⟨(Txt.partition a b).1, (Txt.partition a b).2.1, (Txt.partition a b).2.2⟩ else none
theorem bm_partT {a b : Str} {l : Tr Str Str Str} (h : partT a b = some l) : bmD .partition (enc a) [enc b] = some (.dt (enc l)) := by
  obtain ⟨h1, rfl⟩ := ite_some h
  show (if _ then _ else _) = _
  rw [if_pos h1]; rfl
def indexT (t : Tup Str) (x : Str) : Option Int := if x ∈ t.l then some (t.l.idxOf x : Nat) else none
theorem bm_indexT {t : Tup Str} {x : Str} {n : Int} (h : indexT t x = some n) : bmD .index (enc t) [enc x] = some (.dt (enc n)) := by
  obtain ⟨h1, rfl⟩ := ite_some h
  show (txts (t.l.map enc)).bind _ = _
  rw [txtsE]
  show (if _ then _ else _) = _
  rw [if_pos h1]; rfl
/-! lists that change -/
theorem eraseIdx_mapE {α β : Type} (f : α → β) : ∀ (l : List α) (j : Nat), (l.map f).eraseIdx j = (l.eraseIdx j).map f
  | [], _ => rfl
  | x :: l, 0 => rfl
  | x :: l, j + 1 => by rw [List.map_cons, List.eraseIdx_cons_succ, List.eraseIdx_cons_succ, List.map_cons, eraseIdx_mapE f l j]
section
variable {α : Type} [Enc α] {P : Pg} {cf : Nat → List Sl → Option (R × List Sl)} {env env1 env2 env3 : Env'} {a b c e : E} {x y r : R} {d : D} {i : Nat} {bb : Bool}
def appT (l : List α) (x : α) : Option (List α) := if l.length < sizeLine then some (l ++ [x]) else none
def extT (l m : List α) : Option (List α) := if l.length + m.length ≤ sizeLine then some (l ++ m) else none
def popT (l : List α) (k : Int) : Option (α × List α) := if -(2 ^ 63) ≤ k ∧ k < 2 ^ 63 then match seqIndex? k l.length with
  | some j => match l[j]? with
    | some y => some (y, l.eraseIdx j)
    | none => none
  | none => none
  else none
def setT (l : List α) (k : Int) (x : α) : Option (List α) := match ixN l.length k with
  | some j => some (l.set j x)
  | none => none
theorem t_append {l m : List α} {u : α} (hi : isOw env i = true) (ha : evE P cf a env = some (x, env1)) (hf : frz x env1 = some (enc u, env2)) (h : env2[i]? = some (.ow bb (enc l))) (hz : appT l u = some m) (hs : env2.set i (.ow bb (enc m)) = env3) : evE P cf (.bx .append i a) env = some (.dt .non, env3) := by
  obtain ⟨h1, rfl⟩ := ite_some hz
  subst hs
  have := e_append (l := l.map enc) hi ha hf h (by rw [List.length_map]; exact h1)
  rw [this]
  show some (R.dt D.non, env2.set i (.ow bb (.lst (l.map enc ++ [enc u])))) = some (R.dt D.non, env2.set i (.ow bb (.lst ((l ++ [u]).map enc))))
  rw [List.map_append]; rfl
theorem t_extend {l m n : List α} (hi : isOw env i = true) (ha : evE P cf a env = some (x, env1)) (hx : pzR x = .dt (enc m)) (h : env1[i]? = some (.ow bb (enc l))) (hz : extT l m = some n) (hs : env1.set i (.ow bb (enc n)) = env2) : evE P cf (.bx .extend i a) env = some (.dt .non, env2) := by
  obtain ⟨h1, rfl⟩ := ite_some hz
  subst hs
  have := e_extend (l := l.map enc) (m := m.map enc) hi ha hx h (by rw [List.length_map, List.length_map]; exact h1)
  rw [this]
  show some (R.dt D.non, env1.set i (.ow bb (.lst (l.map enc ++ m.map enc)))) = some (R.dt D.non, env1.set i (.ow bb (.lst ((l ++ m).map enc))))
  rw [List.map_append]
theorem t_pop {l : List α} {k : Int} {p : α × List α} (hi : isOw env i = true) (ha : evE P cf a env = some (.dt (enc k), env1)) (h : env1[i]? = some (.ow bb (enc l))) (hz : popT l k = some p) (hs : env1.set i (.ow bb (enc p.2)) = env2) : evE P cf (.bx .popAt i a) env = some (.dt (enc p.1), env2) := by
  subst hs
  unfold popT at hz
  split at hz
  · rename_i hk
    split at hz
    · rename_i j hj
      split at hz
      · rename_i y hy
        cases hz
        have := e_pop (l := l.map enc) (d := enc y) (j := j) hi ha h hk (by rw [List.length_map]; exact hj) (by rw [List.getElem?_map, hy]; rfl)
        rw [this]
        show some (R.dt (enc y), env1.set i (.ow bb (.lst ((l.map enc).eraseIdx j)))) = some (R.dt (enc y), env1.set i (.ow bb (.lst ((l.eraseIdx j).map enc))))
        rw [eraseIdx_mapE]
      · cases hz
    · cases hz
  · cases hz
theorem t_setAt {l m : List α} {u : α} {k : Int} (h : env[i]? = some (.ow bb (enc l))) (hz : setT l k u = some m) (hs : env.set i (.ow bb (enc m)) = env1) : setAt i k (enc u) env = some env1 := by
  subst hs
  unfold setT at hz
  split at hz
  · rename_i j hj
    cases hz
    have h' : env[i]? = some (.ow bb (.lst (l.map enc))) := h
    unfold setAt
    rw [h']
    simp only [List.length_map, hj]
    show some (env.set i (.ow bb (.lst ((l.map enc).set j (enc u))))) = some (env.set i (.ow bb (.lst ((l.set j u).map enc))))
    rw [List.map_set]
  · cases hz
end
end VI
/-! texts of sound signs, comparisons of typed data -/
namespace VI
open PySem L2 Enc
/-- a text of sound signs -/
structure Sx where
  s : Str
  ok : PyData.strOk s = true
deriving DecidableEq
instance : Enc Sx := ⟨fun x => D.str x.s⟩
theorem Sx.ext' {a b : Sx} (h : a.s = b.s) : a = b := by cases a; cases b; cases h; rfl
theorem sx_inj {a b : Sx} : decide (a.s = b.s) = decide (a = b) := by
  by_cases h : a = b
  · subst h; simp
  · have : a.s ≠ b.s := fun q => h (Sx.ext' q)
    simp [h, this]
theorem ok_append {a b : Str} (ha : PyData.strOk a = true) (hb : PyData.strOk b = true) : PyData.strOk (a ++ b) = true := by
  unfold PyData.strOk at ha hb ⊢
  show (a.cps ++ b.cps).all _ = true
  rw [Array.all_append, ha, hb]; rfl
def Sx.app (a b : Sx) : Sx := ⟨a.s ++ b.s, ok_append a.ok b.ok⟩
instance : Append Sx := ⟨Sx.app⟩
instance bAddX : BinC .add Sx Sx Sx := ⟨false, fun a b => if a.s.length + b.s.length ≤ sizeLine then some (a ++ b) else none, fun {a b c} h => by
  obtain ⟨h1, rfl⟩ := ite_some h
  show (if a.s.length + b.s.length ≤ sizeLine then _ else _) = _
  rw [if_pos h1]; rfl⟩
/-! data that are compared -/
class PyC (α : Type) [Enc α] where
  toPy : α → PyData
  dp : Nat
  h1 : ∀ a, py (enc a) = some (toPy a)
  h2 : ∀ a, (toPy a).canLay0 = true
  h3 : ∀ a, (toPy a).depth ≤ dp
  h4 : ∀ a b, a ≠ b → PyData.eqv (toPy a) (toPy b) = false
  h5 : ∀ a, PyData.eqv (toPy a) (toPy a) = true
open PyC
/-- the data are not None -/
class NoN (α : Type) [Enc α] [PyC α] where
  h : ∀ a : α, PyData.eqv .none (toPy a) = false ∧ PyData.eqv (toPy a) .none = false
instance pInt : PyC Int := ⟨.int, 0, fun a => rfl, fun a => rfl, fun a => Nat.le_of_eq rfl, fun a b h => by simp [PyData.eqv, h], fun a => by simp [PyData.eqv]⟩
instance pBool : PyC Bool := ⟨.bool, 0, fun a => rfl, fun a => rfl, fun a => Nat.le_of_eq rfl, fun a b h => by simp [PyData.eqv, h], fun a => by simp [PyData.eqv]⟩
instance pUnit : PyC Unit := ⟨fun _ => .none, 0, fun a => rfl, fun a => rfl, fun a => Nat.le_of_eq rfl, fun a b h => (h rfl).elim, fun a => rfl⟩
instance pSx : PyC Sx := ⟨fun x => .str x.s, 0, fun a => rfl, fun a => by simp only [PyData.canLay0]; exact a.ok, fun a => Nat.le_of_eq rfl, fun a b h => by
  simp only [PyData.eqv]; simpa using fun q => h (Sx.ext' q), fun a => by simp [PyData.eqv]⟩
section
variable {α β γ : Type} [Enc α] [Enc β] [Enc γ] [PyC α] [PyC β] [PyC γ]
theorem pyAllE : ∀ l : List α, pyAll (l.map enc) = some (l.map toPy)
  | [] => rfl
  | a :: l => by rw [List.map_cons]; unfold pyAll; rw [h1, pyAllE l]; rfl
theorem layAllE : ∀ l : List α, PyData.canLayAll0 (l.map toPy) = true
  | [] => rfl
  | a :: l => by rw [List.map_cons]; unfold PyData.canLayAll0; rw [h2, layAllE l]; rfl
theorem depthAllE : ∀ l : List α, PyData.depthAll (l.map toPy) ≤ dp α
  | [] => by simp [PyData.depthAll]
  | a :: l => by
    have := depthAllE l
    have := h3 a
    rw [List.map_cons]; simp only [PyData.depthAll]; omega
theorem eqvAllN : ∀ l m : List α, l ≠ m → PyData.eqvAll (l.map toPy) (m.map toPy) = false
  | [], [], h => (h rfl).elim
  | [], _ :: _, _ => by simp [PyData.eqvAll]
  | _ :: _, [], _ => by simp [PyData.eqvAll]
  | x :: l, y :: m, h => by
    simp only [List.map_cons, PyData.eqvAll]
    by_cases q : x = y
    · subst q
      rw [eqvAllN l m fun q => h (by rw [q]), Bool.and_false]
    · rw [h4 x y q, Bool.false_and]
theorem eqvAllS : ∀ l : List α, PyData.eqvAll (l.map toPy) (l.map toPy) = true
  | [] => by simp [PyData.eqvAll]
  | x :: l => by simp only [List.map_cons, PyData.eqvAll, h5, eqvAllS l]; rfl
instance pTup : PyC (Tup α) := ⟨fun t => .tuple (t.l.map toPy), dp α + 1, fun a => by show (pyAll (a.l.map enc)).map _ = _; rw [pyAllE]; rfl, fun a => by simp only [PyData.canLay0]; exact layAllE a.l, fun a => by simp only [PyData.depth]; exact Nat.succ_le_succ (depthAllE a.l), fun a b h => by simp only [PyData.eqv]; exact eqvAllN a.l b.l fun q => h (by cases a; cases b; cases q; rfl), fun a => by simp only [PyData.eqv]; exact eqvAllS a.l⟩
instance pLst : PyC (List α) := ⟨fun t => .list (t.map toPy), dp α + 1, fun a => by show (pyAll (a.map enc)).map _ = _; rw [pyAllE]; rfl, fun a => by simp only [PyData.canLay0]; exact layAllE a, fun a => by simp only [PyData.depth]; exact Nat.succ_le_succ (depthAllE a), fun a b h => by simp only [PyData.eqv]; exact eqvAllN a b h, fun a => by simp only [PyData.eqv]; exact eqvAllS a⟩
instance pPr : PyC (α × β) := ⟨fun t => .tuple [toPy t.1, toPy t.2], max (dp α) (dp β) + 1, fun a => by
    show (pyAll [enc a.1, enc a.2]).map _ = _; simp only [pyAll, h1, Option.map], fun a => by simp only [PyData.canLay0, PyData.canLayAll0, h2, Bool.and_self], fun a => by have := h3 a.1; have := h3 a.2; simp only [PyData.depth, PyData.depthAll]; omega, fun a b h => by
      simp only [PyData.eqv, PyData.eqvAll]
      by_cases q : a.1 = b.1
      · have : a.2 ≠ b.2 := fun w => h (Prod.ext q w)
        rw [h4 _ _ this]; simp
      · rw [h4 _ _ q]; simp, fun a => by simp only [PyData.eqv, PyData.eqvAll, h5, Bool.and_self]⟩
instance pTr : PyC (Tr α β γ) := ⟨fun t => .tuple [toPy t.a, toPy t.b, toPy t.c], max (dp α) (max (dp β) (dp γ)) + 1, fun a => by
    show (pyAll [enc a.a, enc a.b, enc a.c]).map _ = _; simp only [pyAll, h1, Option.map], fun a => by simp only [PyData.canLay0, PyData.canLayAll0, h2, Bool.and_self], fun a => by have := h3 a.a; have := h3 a.b; have := h3 a.c; simp only [PyData.depth, PyData.depthAll]; omega, fun a b h => by
      simp only [PyData.eqv, PyData.eqvAll]
      by_cases q : a.a = b.a
      · by_cases q2 : a.b = b.b
        · have : a.c ≠ b.c := fun w => h (by cases a; cases b; cases q; cases q2; cases w; rfl)
          rw [h4 _ _ this]; simp
        · rw [h4 _ _ q2]; simp
      · rw [h4 _ _ q]; simp, fun a => by simp only [PyData.eqv, PyData.eqvAll, h5, Bool.and_self]⟩
instance noInt : NoN Int := ⟨fun a => ⟨rfl, rfl⟩⟩
instance noBool : NoN Bool := ⟨fun a => ⟨rfl, rfl⟩⟩
instance noSx : NoN Sx := ⟨fun a => ⟨rfl, rfl⟩⟩
instance noTup : NoN (Tup α) := ⟨fun a => ⟨rfl, rfl⟩⟩
instance noLst : NoN (List α) := ⟨fun a => ⟨rfl, rfl⟩⟩
instance noPr : NoN (α × β) := ⟨fun a => ⟨rfl, rfl⟩⟩
instance noTr : NoN (Tr α β γ) := ⟨fun a => ⟨rfl, rfl⟩⟩
def oPy : Option α → PyData
  | none => .none
  | some a => toPy a
instance pOpt [NoN α] : PyC (Option α) := ⟨oPy, dp α, fun a => by cases a with | none => rfl | some a => exact h1 a, fun a => by cases a with | none => rfl | some a => exact h2 a, fun a => by cases a with | none => exact Nat.zero_le _ | some a => exact h3 a, fun a b h => by
    cases a with
    | none => cases b with
      | none => exact (h rfl).elim
      | some b => exact (NoN.h b).1
    | some a => cases b with
      | none => exact (NoN.h a).2
      | some b => exact h4 a b fun q => h (by rw [q]), fun a => by cases a with | none => rfl | some a => exact h5 a⟩
theorem shapedE (hd : dp α ≤ 64) (a : α) : SeqAt.shaped (toPy a) = true := by
  have := h3 a
  simp only [SeqAt.shaped, h2, Bool.true_and, decide_eq_true_eq]; omega
theorem eqvE [DecidableEq α] (a b : α) : PyData.eqv (toPy a) (toPy b) = decide (a = b) := by
  by_cases h : a = b
  · subst h; rw [h5]; simp
  · rw [h4 a b h]; simp [h]
theorem eqT [DecidableEq α] (hd : dp α ≤ 64) (a b : α) : eqD (enc a) (enc b) = some (decide (a = b)) := by
  have e := eqvE a b
  have ha := shapedE hd a
  have hb := shapedE hd b
  unfold eqD
  rw [h1 a, h1 b]
  simp only []
  generalize toPy a = p at *
  generalize toPy b = q at *
  split
  · rw [← e]
    simp only [PyData.eqv]
    rfl
  · rw [if_pos ⟨ha, hb⟩, e]
theorem neT [DecidableEq α] (hd : dp α ≤ 64) (a b : α) : cmpD .ne (enc a) (enc b) = some (decide (a ≠ b)) := by
  show (eqD (enc a) (enc b)).map _ = _
  rw [eqT hd]
  by_cases h : a = b <;> simp [h]
end
section
variable {α : Type} [Enc α] [PyC α]
theorem any_eqv [DecidableEq α] (x : α) : ∀ l : List α, ((l.map toPy).any fun z => PyData.eqv z (toPy x)) = decide (x ∈ l)
  | [] => rfl
  | y :: l => by
    rw [List.map_cons, List.any_cons, any_eqv x l, eqvE]
    by_cases q : x = y
    · simp [q]
    · have : ¬ y = x := fun w => q w.symm
      simp [q, this]
end
theorem flatsX : ∀ l : List Sx, flats (l.map enc) = some (l.map fun x => V.str x.s)
  | [] => rfl
  | x :: l => by rw [List.map_cons]; show (match scalD (D.str x.s), flats (l.map enc) with | some v, some vs => some (v :: vs) | _, _ => none) = _; rw [flatsX l]; rfl
theorem inV_X (x : Sx) : ∀ l : List Sx, inV (V.str x.s) (l.map fun x => V.str x.s) = decide (x ∈ l)
  | [] => rfl
  | y :: l => by
    have := inV_X x l
    unfold inV at this ⊢
    rw [List.map_cons, List.any_cons, this]
    by_cases q : y = x
    · subst q; simp [eqV]
    · have h1 : y.s ≠ x.s := fun w => q (Sx.ext' w)
      have h2 : ¬ x = y := fun w => q w.symm
      simp [eqV, h1, h2]
theorem flatsI : ∀ l : List Int, flats (l.map enc) = some (l.map V.int)
  | [] => rfl
  | x :: l => by rw [List.map_cons]; show (match scalD (D.int x), flats (l.map enc) with | some v, some vs => some (v :: vs) | _, _ => none) = _; rw [flatsI l]; rfl
theorem inV_I (x : Int) : ∀ l : List Int, inV (V.int x) (l.map V.int) = decide (x ∈ l)
  | [] => rfl
  | y :: l => by
    have := inV_I x l
    unfold inV at this ⊢
    rw [List.map_cons, List.any_cons, this]
    by_cases q : y = x
    · subst q; simp [eqV]
    · have h2 : ¬ x = y := fun w => q w.symm
      simp [eqV, q, h2]
/-- in -/
class InC (α γ : Type) [Enc α] [Enc γ] where
  f : α → γ → Bool
  law : ∀ a c, inD (enc a) (enc c) = some (f a c)
instance inXT : InC Sx (Tup Sx) := ⟨fun a c => decide (a ∈ c.l), fun a c => by
  show (match scalD (D.str a.s), flats (c.l.map enc) with | some v, some vs => some (inV v vs) | _, _ => _) = _
  rw [flatsX]; show some (inV (V.str a.s) _) = _; rw [inV_X]⟩
instance inXL : InC Sx (List Sx) := ⟨fun a c => decide (a ∈ c), fun a c => by
  show (match scalD (D.str a.s), flats (c.map enc) with | some v, some vs => some (inV v vs) | _, _ => _) = _
  rw [flatsX]; show some (inV (V.str a.s) _) = _; rw [inV_X]⟩
instance inIL : InC Int (List Int) := ⟨fun a c => decide (a ∈ c), fun a c => by
  show (match scalD (D.int a), flats (c.map enc) with | some v, some vs => some (inV v vs) | _, _ => _) = _
  rw [flatsI]; show some (inV (V.int a) _) = _; rw [inV_I]⟩
instance inIT : InC Int (Tup Int) := ⟨fun a c => decide (a ∈ c.l), fun a c => by
  show (match scalD (D.int a), flats (c.l.map enc) with | some v, some vs => some (inV v vs) | _, _ => _) = _
  rw [flatsI]; show some (inV (V.int a) _) = _; rw [inV_I]⟩
/-- data that are no scalars -/
class NoS (α : Type) [Enc α] where
  h : ∀ a : α, scalD (enc a) = none
section
variable {α β γ : Type} [Enc α] [Enc β] [Enc γ]
instance nsTup : NoS (Tup α) := ⟨fun a => rfl⟩
instance nsLst : NoS (List α) := ⟨fun a => rfl⟩
instance nsPr : NoS (α × β) := ⟨fun a => rfl⟩
instance nsTr : NoS (Tr α β γ) := ⟨fun a => rfl⟩
theorem in_lst [PyC α] [NoS α] [DecidableEq α] (hd : dp α + 1 ≤ 64) (a : α) (c : List α) : inD (enc a) (enc c) = some (decide (a ∈ c)) := by
  show (match scalD (enc a), flats (c.map enc) with | some v, some vs => some (inV v vs) | _, _ => match py (enc a), pyAll (c.map enc) with
      | some p, some ps => if SeqAt.shaped p = true ∧ SeqAt.shaped (.list ps) = true then some (ps.any fun z => PyData.eqv z p) else none
      | _, _ => none) = _
  rw [NoS.h]
  simp only [h1, pyAllE]
  have s2 : SeqAt.shaped (.list (c.map toPy)) = true := shapedE (α := List α) hd c
  rw [if_pos ⟨shapedE (by omega) a, s2⟩, any_eqv]
end
instance inXS : InC Sx Sx := ⟨fun a c => !(Builtin.Str.occurrences c.s a.s 0 c.s.length 1).isEmpty, fun a c => rfl⟩
section
variable {ν : Type} [Enc ν]
theorem dc_any (k : Sx) : ∀ l : List (Sx × ν), (l.map fun p => (enc p.1, enc p.2)).any (keyB k.s) = decide (k ∈ l.map Prod.fst)
  | [] => rfl
  | (x, v) :: l => by
    rw [List.map_cons, List.any_cons, dc_any k l]
    show (decide (x.s = k.s) || _) = _
    rw [sx_inj]
    by_cases q : x = k
    · subst q; simp
    · have : ¬ k = x := fun w => q w.symm
      simp [q, this]
instance inXM : InC Sx (Dc Sx ν) := ⟨fun a c => decide (a ∈ c.l.map Prod.fst), fun a c => by
  show some ((c.l.map fun p => (enc p.1, enc p.2)).any (keyB a.s)) = _
  rw [dc_any]⟩
theorem dLookX {k : Sx} {v : ν} : ∀ {l : List (Sx × ν)}, l.lookup k = some v → dLook k.s (l.map fun p => (enc p.1, enc p.2)) = some (enc v)
  | [], h => by cases h
  | (x, y) :: l, h => by
    rw [List.lookup_cons] at h
    rw [List.map_cons]
    show (if x.s = k.s then some (enc y) else dLook k.s _) = _
    by_cases q : x = k
    · subst q; rw [if_pos rfl]; simp at h; rw [h]
    · rw [if_neg fun w => q (Sx.ext' w)]
      have : (k == x) = false := by simpa using fun w => q w.symm
      rw [this] at h
      exact dLookX h
instance iDcX : IxC (Dc Sx ν) Sx ν := ⟨fun c k => c.l.lookup k, fun {c k v} h => dLookX h⟩
/-- a key's value set -/
def dcPut (l : List (Sx × ν)) (k : Sx) (v : ν) : List (Sx × ν) := if k ∈ l.map Prod.fst then l.map fun p => if p.1 = k then (p.1, v) else p else l ++ [(k, v)]
theorem dcPut_enc (l : List (Sx × ν)) (k : Sx) (v : ν) : dPut (l.map fun p => (enc p.1, enc p.2)) k.s (enc v) = (dcPut l k v).map fun p => (enc p.1, enc p.2) := by
  unfold dPut dcPut
  rw [dc_any]
  by_cases h : k ∈ l.map Prod.fst
  · rw [if_pos h, if_pos (by simpa using h), List.map_map, List.map_map]
    refine List.map_congr_left fun p _ => ?_
    show (if keyB k.s (enc p.1, enc p.2) = true then _ else _) = _
    have : keyB k.s (enc p.1, enc p.2) = decide (p.1 = k) := sx_inj
    rw [this]
    by_cases q : p.1 = k <;> simp [q]
  · rw [if_neg h, if_neg (by simpa using h), List.map_append]; rfl
end
/-! texts -/
instance lSx : LenC Sx := ⟨fun c => if c.s.length ≤ sizeLine then some c.s.length else none, fun {c n} h => by
  obtain ⟨h1, rfl⟩ := ite_some h
  show (if c.s.length ≤ sizeLine then _ else _) = _
  rw [if_pos h1]; rfl⟩
theorem ok_sign {z : Sx} {c : Nat} (h : c ∈ z.s.cps.toList) : PyData.strOk ⟨#[c]⟩ = true := by
  have := z.ok
  unfold PyData.strOk at this ⊢
  rw [Array.all_eq_true_iff_forall_mem] at this
  simpa using this c (by simpa using h)
def signs (z : Sx) : List Sx := z.s.cps.toList.attach.map fun c => ⟨⟨#[c.1]⟩, ok_sign c.2⟩
instance qSx : SeqC Sx Sx := ⟨signs, fun z => by
  show some (z.s.cps.toList.map fun c => D.str ⟨#[c]⟩) = some ((signs z).map fun x => D.str x.s)
  unfold signs
  rw [List.map_map]
  congr 1
  exact (List.attach_map_val (l := z.s.cps.toList) (f := fun c => D.str ⟨#[c]⟩)).symm⟩
def cutX (c : Sx) (lo hi : Option Int) : Option Sx := if h : c.s.length ≤ sizeLine ∧ PyData.strOk (cutS c.s lo hi) = true then some ⟨cutS c.s lo hi, h.2⟩ else none
theorem dite_some {p : Prop} [Decidable p] {α : Type} {x : p → α} {y : α} (h : (if q : p then some (x q) else none) = some y) : ∃ q : p, x q = y := by
  split at h
  · cases h; exact ⟨by assumption, rfl⟩
  · cases h
instance sSx : SliC Sx Sx := ⟨false, cutX, fun {c lo hi d} h => by
  obtain ⟨h1, rfl⟩ := dite_some h
  show (if c.s.length ≤ sizeLine then _ else _) = _
  rw [if_pos h1.1]; rfl⟩
theorem txtsX : ∀ l : List Sx, txts (l.map enc) = some (l.map Sx.s)
  | [] => rfl
  | b :: l => by rw [List.map_cons]; show (txts (l.map enc)).map (b.s :: ·) = _; rw [txtsX l]; rfl
def joinX (z : Sx) (ys : List Sx) : Option Sx := if h : (ys.map (·.s.length)).sum + ys.length * z.s.length ≤ 16777216 ∧ PyData.strOk (Txt.join z.s (ys.map Sx.s)) = true then some ⟨Txt.join z.s (ys.map Sx.s), h.2⟩ else none
instance jLstX : JoinC (List Str) := jLst
class JoinX (γ : Type) [Enc γ] where
  f : Sx → γ → Option Sx
  law : ∀ {z c s}, f z c = some s → bmJoin (enc z) [enc c] = some (.dt (enc s))
instance jxLst : JoinX (List Sx) := ⟨joinX, fun {z c s} h => by
  obtain ⟨h1, rfl⟩ := dite_some h
  show (txts (c.map enc)).bind _ = _
  rw [txtsX]
  show (if _ then _ else _) = _
  rw [if_pos (by rw [List.map_map, List.length_map]; exact h1.1)]; rfl⟩
instance jxTup : JoinX (Tup Sx) := ⟨fun z c => joinX z c.l, fun {z c s} h => by
  obtain ⟨h1, rfl⟩ := dite_some h
  show (txts (c.l.map enc)).bind _ = _
  rw [txtsX]
  show (if _ then _ else _) = _
  rw [if_pos (by rw [List.map_map, List.length_map]; exact h1.1)]; rfl⟩
/-- texts as sound texts, if they are -/
def toX (a : Str) : Option Sx := if h : PyData.strOk a = true then some ⟨a, h⟩ else none
def toXs : List Str → Option (List Sx)
  | [] => some []
  | a :: l => (toX a).bind fun x => (toXs l).bind fun xs => some (x :: xs)
theorem toX_eq {a : Str} {x : Sx} (h : toX a = some x) : D.str a = enc x := by
  obtain ⟨_, rfl⟩ := dite_some h; rfl
theorem toXs_eq : ∀ {l : List Str} {xs : List Sx}, toXs l = some xs → l.map D.str = xs.map enc
  | [], xs, h => by cases h; rfl
  | a :: l, xs, h => by
    obtain ⟨x, h1, h2⟩ := bnd h
    obtain ⟨ys, h3, h4⟩ := bnd h2
    cases h4
    rw [List.map_cons, List.map_cons, toX_eq h1, toXs_eq h3]
def splitX (a b : Sx) : Option (List Sx) := if (b.s.length == 0) = false ∧ a.s.length + 2 ≤ sizeLine then toXs (Txt.split a.s b.s) else none
theorem bm_splitX {a b : Sx} {l : List Sx} (h : splitX a b = some l) : bmD .split (enc a) [enc b] = some (.nw (enc l)) := by
  unfold splitX at h
  split at h
  · rename_i h1
    show (if _ then some (R.nw (.lst ((Txt.split a.s b.s).map .str))) else _) = _
    rw [if_pos h1, toXs_eq h]; rfl
  · cases h
def partX (a b : Sx) : Option (Tr Sx Sx Sx) := if (b.s.length == 0) = false ∧ a.s.length ≤ sizeLine then (toX (Txt.partition a.s b.s).1).bind fun x => (toX (Txt.partition a.s b.s).2.1).bind fun y => (toX (Txt.partition a.s b.s).2.2).bind fun z => some ⟨x, y, z⟩ else none
theorem bm_partX {a b : Sx} {l : Tr Sx Sx Sx} (h : partX a b = some l) : bmD .partition (enc a) [enc b] = some (.dt (enc l)) := by
  unfold partX at h
  split at h
  · rename_i hh
    obtain ⟨x, h1, h⟩ := bnd h
    obtain ⟨y, h2, h⟩ := bnd h
    obtain ⟨z, h3, h⟩ := bnd h
    cases h
    show (if _ then some (R.dt (.tup [D.str (Txt.partition a.s b.s).1, D.str (Txt.partition a.s b.s).2.1, D.str (Txt.partition a.s b.s).2.2])) else _) = _
    rw [if_pos hh, toX_eq h1, toX_eq h2, toX_eq h3]; rfl
  · cases h
def indexX (t : Tup Sx) (x : Sx) : Option Int := if x ∈ t.l then some (t.l.idxOf x : Nat) else none
theorem idxX (x : Sx) : ∀ l : List Sx, (l.map Sx.s).idxOf x.s = l.idxOf x
  | [] => rfl
  | y :: l => by
    rw [List.map_cons, List.idxOf_cons, List.idxOf_cons, idxX x l]
    have : (y.s == x.s) = (y == x) := by
      by_cases q : y = x
      · subst q; simp
      · have h1 : y.s ≠ x.s := fun w => q (Sx.ext' w)
        rw [beq_eq_false_iff_ne.mpr h1, beq_eq_false_iff_ne.mpr q]
    rw [this]
theorem bm_indexX {t : Tup Sx} {x : Sx} {n : Int} (h : indexX t x = some n) : bmD .index (enc t) [enc x] = some (.dt (enc n)) := by
  obtain ⟨h1, rfl⟩ := ite_some h
  show (txts (t.l.map enc)).bind _ = _
  rw [txtsX]
  show (if x.s ∈ t.l.map Sx.s then some (R.dt (.int ((t.l.map Sx.s).idxOf x.s : Nat))) else _) = _
  rw [if_pos (List.mem_map_of_mem h1), idxX]; rfl
def reprX {α : Type} [Enc α] (a : α) : Option Sx := (reprT a).bind toX
theorem bi_reprX {α : Type} [Enc α] {a : α} {s : Sx} (h : reprX a = some s) : biD .repr [enc a] = some (.dt (enc s)) := by
  obtain ⟨t, h1, h2⟩ := bnd h
  rw [bi_reprT h1]
  exact congrArg (fun d => some (R.dt d)) (toX_eq h2)
/-! dict(zip(..)) -/
def dzT {ν : Type} (a : Tup Sx) (b : Tup ν) : Option (Dc Sx ν) := if a.l.Nodup ∧ a.l.length ≤ sizeLine then some ⟨a.l.zip b.l⟩ else none
section
variable {P : Pg} {cf : Nat → List Sl → Option (R × List Sl)} {env env1 env2 env3 : Env'} {a b c e : E} {x y r : R} {d : D} {i : Nat}
theorem nodupX : ∀ {l : List Sx}, l.Nodup → (l.map Sx.s).Nodup
  | [], _ => by simp
  | x :: l, h => by
    rw [List.nodup_cons] at h
    rw [List.map_cons, List.nodup_cons]
    exact ⟨fun q => by obtain ⟨y, hy, e⟩ := List.mem_map.mp q; exact h.1 (Sx.ext' e ▸ hy), nodupX h.2⟩
theorem e_dz {ν : Type} [Enc ν] {u : Tup Sx} {v : Tup ν} {w : Dc Sx ν} (h : evV P cf (.cons a (.cons b .nil)) env = some ([enc u, enc v], env1)) (hz : dzT u v = some w) : evE P cf (.dz a b) env = some (.nw (enc w), env1) := by
  obtain ⟨h1, rfl⟩ := ite_some hz
  unfold evV at h; unfold evV at h; unfold evV at h
  unfold evE dzM; rw [h]
  show (match txts (u.l.map enc) with | some ys => _ | none => none) = _
  rw [txtsX]
  show (if _ then some (R.nw (.dic (((u.l.map Sx.s).zip (v.l.map enc)).map fun p : Str × D => (D.str p.1, p.2))), env1) else none) = _
  rw [if_pos ⟨nodupX h1.1, by rw [List.length_map]; exact h1.2⟩, List.zip_map, List.map_map]
  rfl
theorem e_dn0 {ν : Type} [Enc ν] : evE P cf .dn0 env = some (.nw (enc (⟨[]⟩ : Dc Sx ν)), env) := by unfold evE; rfl
theorem e_dn1 {ν : Type} [Enc ν] {u : Sx} {v : ν} (h : evV P cf (.cons a (.cons b .nil)) env = some ([enc u, enc v], env1)) : evE P cf (.dn1 a b) env = some (.nw (enc (⟨[(u, v)]⟩ : Dc Sx ν)), env1) := by
  unfold evV at h; unfold evV at h; unfold evV at h
  unfold evE dn1M; rw [h]; rfl
def setK {ν : Type} (m : Dc Sx ν) (k : Sx) (v : ν) : Option (Dc Sx ν) := if m.l.length < sizeLine then some ⟨dcPut m.l k v⟩ else none
theorem s_setK {ν : Type} [Enc ν] {k : Sx} {v : ν} {m m' : Dc Sx ν} {bb : Bool} {kk : E} (h : evE P cf e env = some (x, env1)) (hf : frz x env1 = some (enc v, env2)) (hi : isOwD env2 i = true) (hk : evE P cf kk env2 = some (.dt (enc k), env3)) (hs : env3[i]? = some (.ow bb (enc m))) (hz : setK m k v = some m') {env4 : Env'} (h4 : env3.set i (.ow bb (enc m')) = env4) : exS P cf (.setK i kk e) env = some (.next, env4) := by
  subst h4
  obtain ⟨h1, rfl⟩ := ite_some hz
  have hk' : evE P cf kk env2 = some (.dt (.str k.s), env3) := hk
  have hs' : env3[i]? = some (.ow bb (.dic (m.l.map fun p => (enc p.1, enc p.2)))) := hs
  unfold exS; simp only [setKM, frzM]; rw [h]; simp only [hf, hi, if_true]; rw [pz_some hk']; simp only [pzR, hs', List.length_map, h1, if_true]
  rw [dcPut_enc]
  rfl
/-- comprehensions of dicts, without effects -/
def dcGo {α ν : Type} (f : α → Option (Option (Sx × ν))) : List α → List (Sx × ν) → Option (List (Sx × ν))
  | [], acc => some acc
  | x :: xs, acc => (f x).bind fun o => match o with
    | some p => dcGo f xs (dcPut acc p.1 p.2)
    | none => dcGo f xs acc
def dcP {α ν : Type} (f : α → Option (Option (Sx × ν))) (xs : List α) : Option (Dc Sx ν) := if xs.length ≤ sizeLine then (dcGo f xs []).bind fun l => some ⟨l⟩ else none
theorem dcPut_len {ν : Type} (l : List (Sx × ν)) (k : Sx) (v : ν) : (dcPut l k v).length ≤ l.length + 1 := by
  unfold dcPut; split <;> simp
theorem dcL_ok {α ν : Type} [Enc α] [Enc ν] {vs : List Nat} {t : Tg} {mc : Env' → Option (Bool × Env')} {mk me : Env' → Option (R × Env')} {Ew : Env'} (f : α → Option (Option (Sx × ν)))
    (hb : ∀ x o, f x = some o → ∃ env1, putTg t (enc x) Ew = some env1 ∧ (o = none → ∃ env2, mc env1 = some (false, env2) ∧ wipeE env2 vs = Ew) ∧ (∀ y, o = some y → ∃ env2 x env3 env4 x' env5 env6, mc env1 = some (true, env2) ∧ mk env2 = some (x, env3) ∧ frz x env3 = some (enc y.1, env4) ∧ me env4 = some (x', env5) ∧ frz x' env5 = some (enc y.2, env6) ∧ wipeE env6 vs = Ew)) :
    ∀ (xs : List α) (env : Env') (acc l : List (Sx × ν)), dcGo f xs acc = some l → wipeE env vs = Ew → acc.length + xs.length ≤ sizeLine →
      ∃ env', dcL t vs mc mk me (xs.map enc) (acc.map fun p : Sx × ν => (enc p.1, enc p.2)) env = some (l.map (fun p : Sx × ν => (enc p.1, enc p.2)), env') ∧ wipeE env' vs = Ew := by
  intro xs
  induction xs with
  | nil =>
    intro env acc l h hE hz
    cases h
    exact ⟨env, by simp [dcL], hE⟩
  | cons x xs ih =>
    intro env acc l h hE hz
    obtain ⟨o, h1, h2⟩ := bnd h
    obtain ⟨env1, p1, p2, p3⟩ := hb x o h1
    rw [List.map_cons]
    unfold dcL
    rw [hE, p1]
    simp only
    rw [List.length_cons] at hz
    cases o with
    | none =>
      obtain ⟨env2, q1, q2⟩ := p2 rfl
      simp only [q1]
      exact ih env2 acc l h2 q2 (by omega)
    | some y =>
      obtain ⟨env2, x', env3, env4, x2, env5, env6, q1, q2, q3, q4, q5, q6⟩ := p3 y rfl
      have q3' : frz x' env3 = some (.str y.1.s, env4) := q3
      simp only [q1, frzM, q2, q3', q4, q5, List.length_map]
      rw [if_pos (by omega), dcPut_enc]
      exact ih env6 (dcPut acc y.1 y.2) l h2 q6 (by have := dcPut_len acc y.1 y.2; omega)
theorem e_dc {α ν : Type} [Enc α] [Enc ν] {vs : List Nat} {t : Tg} {it : It} {c : Eo} {k e : E} {xs : List α} {l : List D} {o : Dc Sx ν} {Ew : Env'} (f : α → Option (Option (Sx × ν)))
    (hit : evI P cf it env = some (l, env1)) (hl : l = xs.map enc) (hp : plainAt env1 vs = true) (hE : wipeE env1 vs = Ew) (hf : dcP f xs = some o)
    (hb : ∀ x o, f x = some o → ∃ env1, putTg t (enc x) Ew = some env1 ∧ (o = none → ∃ env2, evC P cf c env1 = some (false, env2) ∧ wipeE env2 vs = Ew) ∧ (∀ y, o = some y → ∃ env2 x env3 env4 x' env5 env6, evC P cf c env1 = some (true, env2) ∧ evE P cf k env2 = some (x, env3) ∧ frz x env3 = some (enc y.1, env4) ∧ evE P cf e env4 = some (x', env5) ∧ frz x' env5 = some (enc y.2, env6) ∧ wipeE env6 vs = Ew)) :
    evE P cf (.dc vs t it c k e) env = some (.nw (enc o), env1) := by
  subst hl
  unfold dcP at hf
  split at hf
  · rename_i hz
    obtain ⟨l, h1, h2⟩ := bnd hf
    cases h2
    obtain ⟨env', k1, k2⟩ := dcL_ok f hb xs env1 [] l h1 hE (by simpa using hz)
    rw [List.map_nil] at k1
    unfold evE dcM
    rw [hit]
    simp only [hp, if_true, k1]
    rw [back_eq (k2.trans hE.symm)]
    rfl
  · cases hf
end
end VI
/-! rules for texts that a program prints -/
namespace VI
open PySem L2 Enc
theorem iteB {α : Type} {b : Bool} {t f : Option α} {o : α} (h : (if b = true then t else f) = some o) : (b = true ∧ t = some o) ∨ (b = false ∧ f = some o) := by
  cases b with
  | true => exact .inl ⟨rfl, h⟩
  | false => exact .inr ⟨rfl, h⟩
theorem run_ok {P : Pg} {k f : Nat} {fn : Fn} {ss : List Sl} {X : R × List Sl} (hf : P.fns[f]? = some fn) (hl : ss.length = fn.ps.length) (h : endR (exSs P (runN P k) fn.body (startE fn.n ss)) fn.ps.length = some X) : runN P (k + 1) f ss = some X := by
  show (match P.fns[f]? with | some fn => if ss.length = fn.ps.length then _ else none | none => none) = _
  rw [hf]
  simp only [hl, if_true]
  exact h
/-! lists of unlike data -/
class EncL (α : Type) where
  encL : α → List D
open EncL
structure Hn where
deriving DecidableEq
structure Hc (α β : Type) where
  h : α
  t : β
deriving DecidableEq
instance : EncL Hn := ⟨fun _ => []⟩
instance instHc {α β : Type} [Enc α] [EncL β] : EncL (Hc α β) := ⟨fun x => enc x.h :: encL x.t⟩
/-- a list of unlike data -/
structure Hl (α : Type) where
  x : α
deriving DecidableEq
instance instHl {α : Type} [EncL α] : Enc (Hl α) := ⟨fun x => D.lst (encL x.x)⟩
/-- a tuple of unlike data -/
structure Ht (α : Type) where
  x : α
deriving DecidableEq
instance instHt {α : Type} [EncL α] : Enc (Ht α) := ⟨fun x => D.tup (encL x.x)⟩
section
variable {P : Pg} {cf : Nat → List Sl → Option (R × List Sl)} {env env1 env2 env3 env4 : Env'} {a b c e : E} {x y r : R} {d : D} {i : Nat} {s : S} {ss : Ss} {K : Env' → Option (Fl × Env')} {Q : Option (Fl × Env') → Prop}
theorem re_dt {α : Type} [Enc α] {u v : α} (h : some u = some v) (g : evE P cf e env = some (.dt (enc u), env1)) : evE P cf e env = some (.dt (enc v), env1) := by cases h; exact g
theorem re_nw {α : Type} [Enc α] {u v : α} (h : some u = some v) (g : evE P cf e env = some (.nw (enc u), env1)) : evE P cf e env = some (.nw (enc v), env1) := by cases h; exact g
/-- a value that is there -/
theorem re_opt {α : Type} [Enc α] {u : Option α} {v : α} (h : u = some v) (g : evE P cf e env = some (.dt (enc u), env1)) : evE P cf e env = some (.dt (enc v), env1) := by cases h; exact g
theorem g_iteT {A B : Ss} {t : Bool} (hc : evE P cf c env = some (.dt (.bl t), env1)) (ht : t = true) (g : Gq Q (blk P cf A (blk P cf ss K) env1)) : Gq Q (blk P cf (.cons (.ite c A B) ss) K env) :=
  g_ite hc (fun _ => g) (fun q => by rw [ht] at q; cases q)
theorem g_iteF {A B : Ss} {t : Bool} (hc : evE P cf c env = some (.dt (.bl t), env1)) (ht : t = false) (g : Gq Q (blk P cf B (blk P cf ss K) env1)) : Gq Q (blk P cf (.cons (.ite c A B) ss) K env) :=
  g_ite hc (fun q => by rw [ht] at q; cases q) (fun _ => g)
theorem e_andP {t u : Bool} (ha : evE P cf a env = some (.dt (.bl t), env1)) (hb : evE P cf b env1 = some (.dt (.bl u), env1)) : evE P cf (.and a b) env = some (.dt (.bl (t && u)), env1) := by
  unfold evE andM; rw [ha]; cases t with
  | true => simp only [hb, Bool.true_and]
  | false => rfl
theorem e_orP {t u : Bool} (ha : evE P cf a env = some (.dt (.bl t), env1)) (hb : evE P cf b env1 = some (.dt (.bl u), env1)) : evE P cf (.or a b) env = some (.dt (.bl (t || u)), env1) := by
  unfold evE orM; rw [ha]; cases t with
  | true => rfl
  | false => simp only [hb, Bool.false_or]
theorem e_ifeP {α : Type} [Enc α] {t : Bool} {u v : α} (hc : evE P cf c env = some (.dt (.bl t), env1)) (ha : evE P cf a env1 = some (.dt (enc u), env1)) (hb : evE P cf b env1 = some (.dt (enc v), env1)) : evE P cf (.ife c a b) env = some (.dt (enc (if t = true then u else v)), env1) := by
  unfold evE ifeM; rw [hc]; cases t with
  | true => simp only [ha, if_true]
  | false => simp only [hb, Bool.false_eq_true, if_false]
theorem e_ifePn {α : Type} [Enc α] {t : Bool} {u v : α} (hc : evE P cf c env = some (.dt (.bl t), env1)) (ha : evE P cf a env1 = some (.nw (enc u), env1)) (hb : evE P cf b env1 = some (.nw (enc v), env1)) : evE P cf (.ife c a b) env = some (.nw (enc (if t = true then u else v)), env1) := by
  unfold evE ifeM; rw [hc]; cases t with
  | true => simp only [ha, if_true]
  | false => simp only [hb, Bool.false_eq_true, if_false]
theorem e_chainI {o o' : CO} {t u : Bool} {i j k : Int} (ha : evE P cf a env = some (.dt (.int i), env)) (hb : evE P cf b env = some (.dt (.int j), env)) (hc : evE P cf c env = some (.dt (.int k), env)) (h1 : cmpD o (.int i) (.int j) = some t) (h2 : cmpD o' (.int j) (.int k) = some u) : evE P cf (.chain o o' a b c) env = some (.dt (.bl (t && u)), env) :=
  e_chain ha hb hc rfl rfl rfl (by unfold chnT; rw [h1]; cases t with | true => simpa using h2 | false => rfl)
/-! the second operand changes something -/
theorem e_andT {σ : Type} {t : Option (Bool × σ)} {q : Bool × σ} {s0 : σ} {b1 : Bool} (E : σ → Env') (ha : evE P cf a env = some (.dt (.bl b1), E s0)) (h : (if b1 = true then t else some (false, s0)) = some q) (hb : ∀ q, t = some q → evE P cf b (E s0) = some (.dt (.bl q.1), E q.2)) : evE P cf (.and a b) env = some (.dt (.bl q.1), E q.2) :=
  e_and (fun q : Bool × σ => q.1) (fun q => E q.2) ha h rfl rfl hb
theorem e_orT {σ : Type} {t : Option (Bool × σ)} {q : Bool × σ} {s0 : σ} {b1 : Bool} (E : σ → Env') (ha : evE P cf a env = some (.dt (.bl b1), E s0)) (h : (if b1 = true then some (true, s0) else t) = some q) (hb : ∀ q, t = some q → evE P cf b (E s0) = some (.dt (.bl q.1), E q.2)) : evE P cf (.or a b) env = some (.dt (.bl q.1), E q.2) :=
  e_or (fun q : Bool × σ => q.1) (fun q => E q.2) ha h rfl rfl hb
theorem e_ifeT {α σ : Type} [Enc α] {t u : Option (α × σ)} {q : α × σ} {s0 : σ} {b1 : Bool} (E : σ → Env') (hc : evE P cf c env = some (.dt (.bl b1), E s0)) (h : (if b1 = true then t else u) = some q) (ha : ∀ q, t = some q → evE P cf a (E s0) = some (.dt (enc q.1), E q.2)) (hb : ∀ q, u = some q → evE P cf b (E s0) = some (.dt (enc q.1), E q.2)) : evE P cf (.ife c a b) env = some (.dt (enc q.1), E q.2) :=
  e_ife (fun q : α × σ => .dt (enc q.1)) (fun q => E q.2) hc h ha hb
theorem e_ifeTn {α σ : Type} [Enc α] {t u : Option (α × σ)} {q : α × σ} {s0 : σ} {b1 : Bool} (E : σ → Env') (hc : evE P cf c env = some (.dt (.bl b1), E s0)) (h : (if b1 = true then t else u) = some q) (ha : ∀ q, t = some q → evE P cf a (E s0) = some (.nw (enc q.1), E q.2)) (hb : ∀ q, u = some q → evE P cf b (E s0) = some (.nw (enc q.1), E q.2)) : evE P cf (.ife c a b) env = some (.nw (enc q.1), E q.2) :=
  e_ife (fun q : α × σ => .nw (enc q.1)) (fun q => E q.2) hc h ha hb
/-! comprehensions -/
def LcB {β σ : Type} [Enc β] (P : Pg) (cf : Nat → List Sl → Option (R × List Sl)) (c : Eo) (e : E) (vs : List Nat) (E : σ → Env') (env1 : Env') (o : Option β × σ) : Prop :=
  (o.1 = none → ∃ env2, evC P cf c env1 = some (false, env2) ∧ wipeE env2 vs = E o.2) ∧ (∀ y, o.1 = some y → ∃ env2 x env3 env4, evC P cf c env1 = some (true, env2) ∧ evE P cf e env2 = some (x, env3) ∧ frz x env3 = some (enc y, env4) ∧ wipeE env4 vs = E o.2)
theorem lcb_f {β σ : Type} [Enc β] {c : Eo} {vs : List Nat} {E : σ → Env'} {s : σ} {t : Bool} (h : evC P cf c env1 = some (t, env2)) (ht : t = false) (hw : wipeE env2 vs = E s) : LcB (β := β) P cf c e vs E env1 (none, s) :=
  ⟨fun _ => ⟨env2, by rw [h, ht], hw⟩, fun y q => (by cases q)⟩
theorem lcb_t {β σ : Type} [Enc β] {c : Eo} {vs : List Nat} {E : σ → Env'} {s : σ} {t : Bool} {y : β} (h : evC P cf c env1 = some (t, env2)) (ht : t = true) (he : evE P cf e env2 = some (x, env3)) (hf : frz x env3 = some (enc y, env4)) (hw : wipeE env4 vs = E s) : LcB P cf c e vs E env1 (some y, s) :=
  ⟨fun q => (by cases q), fun z q => by cases q; exact ⟨env2, x, env3, env4, by rw [h, ht], he, hf, hw⟩⟩
theorem x_lcS {α β σ : Type} [Enc α] [Enc β] {vs : List Nat} {t : Tg} {it : It} {c : Eo} {e : E} {xs : List α} {l : List D} {o : List β × σ} {s0 : σ} (f : α → σ → Option (Option β × σ)) (E : σ → Env')
    (hit : evI P cf it env = some (l, env1)) (hl : l = xs.map enc) (hp : plainAt env1 vs = true) (hE : wipeE env1 vs = E s0) (hf : lcS f xs s0 = some o)
    (hb : ∀ x s o, f x s = some o → ∃ env1, putTg t (enc x) (E s) = some env1 ∧ LcB P cf c e vs E env1 o)
    (hr : ∀ env', wipeE env' vs = E o.2 → backE env1 env' vs = env2) :
    evE P cf (.lc vs t it c e) env = some (.nw (enc o.1), env2) := e_lcS f E hit hl hp hE hf hb hr
/-- what stands behind a comprehension: the names as before, the rest as the walk left it -/
theorem back_at {env1 envz env' : Env'} {vs : List Nat} (hp : (vs.map fun v => env1[v]?) = vs.map fun v => envz[v]?) (h : wipeE env' vs = wipeE envz vs) : backE env1 env' vs = envz := by
  have key : backE env1 env' vs = backE envz env' vs := by
    have : ∀ vs : List Nat, ((vs.map fun v => env1[v]?) = vs.map fun v => envz[v]?) → backE env1 env' vs = backE envz env' vs := by
      intro vs
      induction vs with
      | nil => intro _; rfl
      | cons v vs ih =>
        intro h
        rw [List.map_cons, List.map_cons] at h
        obtain ⟨h1, h2⟩ := List.cons.inj h
        simp only [backE]
        rw [ih h2, List.getD_eq_getElem?_getD, List.getD_eq_getElem?_getD, h1]
    exact this vs hp
  rw [key]; exact back_eq h
theorem x_lc {α β : Type} [Enc α] [Enc β] {vs : List Nat} {t : Tg} {it : It} {c : Eo} {e : E} {xs : List α} {l : List D} {o : List β} {Ew : Env'} (f : α → Option (Option β))
    (hit : evI P cf it env = some (l, env1)) (hl : l = xs.map enc) (hp : plainAt env1 vs = true) (hE : wipeE env1 vs = Ew) (hf : lcP f xs = some o)
    (hb : ∀ x o, f x = some o → ∃ env1, putTg t (enc x) Ew = some env1 ∧ LcB P cf c e vs (fun _ : Unit => Ew) env1 (o, ())) :
    evE P cf (.lc vs t it c e) env = some (.nw (enc o), env1) := e_lc f hit hl hp hE hf hb
theorem x_in2 {β γ : Type} [Enc β] [Enc γ] {c c1 : Eo} {it1 : It} {t1 : Tg} {vs vs1 : List Nat} {e : E} {Ew Ew1 env1 env2 env3 : Env'} {l : List D} {ys : List γ} {o : List β} {t : Bool} (g : γ → Option (Option β))
    (hc : evC P cf c env1 = some (t, env2)) (ht : t = true) (hit : evI P cf it1 env2 = some (l, env3)) (hl : l = ys.map enc) (hE : wipeE env3 vs1 = Ew1) (hf : lcGo g ys = some o)
    (hb : ∀ x o, g x = some o → ∃ env1, putTg t1 (enc x) Ew1 = some env1 ∧ LcB P cf c1 e vs1 (fun _ : Unit => Ew1) env1 (o, ()))
    (hw : ∀ env', wipeE env' vs1 = Ew1 → wipeE env' vs = Ew) : In2 P cf c it1 t1 vs vs1 c1 e Ew env1 o := in2_ok g (by rw [hc, ht]) hit hl hE hf hb hw
theorem x_in2F {β : Type} [Enc β] {c c1 : Eo} {it1 : It} {t1 : Tg} {vs vs1 : List Nat} {e : E} {Ew env1 env2 : Env'} {t : Bool}
    (hc : evC P cf c env1 = some (t, env2)) (ht : t = false) (hw : wipeE env2 vs = Ew) : In2 (β := β) P cf c it1 t1 vs vs1 c1 e Ew env1 [] := .inl ⟨rfl, env2, by rw [hc, ht], hw⟩
theorem wipe_up {env' Ew1 : Env'} {vs1 vs : List Nat} (h : wipeE env' vs1 = Ew1) (hs : ∀ v ∈ vs1, v ∈ vs) : wipeE env' vs = wipeE Ew1 vs := by
  have wl : ∀ (e : Env') (vs : List Nat), (wipeE e vs).length = e.length := fun e vs => by
    induction vs with
    | nil => rfl
    | cons v vs ih => simp [wipeE, ih]
  have wo : ∀ (e : Env') (i : Nat) (vs : List Nat), i ∉ vs → (wipeE e vs)[i]? = e[i]? := fun e i vs => by
    induction vs with
    | nil => intro _; rfl
    | cons v vs ih =>
      intro hi
      simp only [List.mem_cons, not_or] at hi
      simp only [wipeE]
      rw [List.getElem?_set_ne (fun q => hi.1 q.symm)]
      exact ih hi.2
  have wi : ∀ (e : Env') (i : Nat) (vs : List Nat), i ∈ vs → i < e.length → (wipeE e vs)[i]? = some .no := fun e i vs => by
    induction vs with
    | nil => intro hi; cases hi
    | cons v vs ih =>
      intro hi hl
      simp only [wipeE]
      by_cases q : v = i
      · subst q; rw [List.getElem?_set_self (by rw [wl]; exact hl)]
      · rw [List.getElem?_set_ne q]
        rcases List.mem_cons.mp hi with rfl | hi
        · exact (q rfl).elim
        · exact ih hi hl
  subst h
  refine List.ext_getElem? fun i => ?_
  by_cases hi : i ∈ vs
  · by_cases hl : i < env'.length
    · rw [wi _ _ _ hi hl, wi _ _ _ hi (by rw [wl]; exact hl)]
    · rw [List.getElem?_eq_none (by rw [wl]; omega), List.getElem?_eq_none (by rw [wl, wl]; omega)]
  · rw [wo _ _ _ hi, wo _ _ _ hi, wo _ _ _ (fun q => hi (hs i q))]
/-! statements -/
theorem s_setF {f : Str} {c : Nat} {fs : List (Str × D)} {bb : Bool} (h : evE P cf e env = some (x, env1)) (hf : frz x env1 = some (d, env2)) (hi : env2[i]? = some (.ow bb (.ins c fs))) (hl : fs.length < 1000) (hn : fs.lookup f = none) (hs : env2.set i (.ow bb (.ins c (fs ++ [(f, d)]))) = env3) : exS P cf (.setF i f e) env = some (.next, env3) := by
  subst hs
  unfold exS setFM frzM; rw [h]; simp only [hf, hi, hl, hn, and_self, if_true]
theorem s_setIxT {α : Type} [Enc α] {u : α} {l m : List α} {k : Int} {ix : E} {bb : Bool} (h : evE P cf e env = some (x, env1)) (hf : frz x env1 = some (enc u, env2)) (hi : isOw env2 i = true) (hk : evE P cf ix env2 = some (.dt (.int k), env3)) (ho : env3[i]? = some (.ow bb (enc l))) (hz : setT l k u = some m) (hs : env3.set i (.ow bb (enc m)) = env4) : exS P cf (.setIx i ix e) env = some (.next, env4) :=
  s_setIx h hf hi hk (t_setAt ho hz hs)
theorem s_asgT {ts : Ts} {ds : List D} (h : evE P cf e env = some (x, env1)) (hf : frz x env1 = some (.tup ds, env2)) (hk : exT P cf ts ds env2 = some env3) : exS P cf (.asgT ts e) env = some (.next, env3) := by
  unfold exS; simp only [asgTM, frzM]; rw [h]; simp only [hf, hk, Option.map]
theorem t_nil : exT P cf .nil [] env = some env := by unfold exT; rfl
theorem t_nm {ts : Ts} {ds : List D} (hp : putSl i (.dt d) env = some env1) (hk : exT P cf ts ds env1 = some env2) : exT P cf (.nm i ts) (d :: ds) env = some env2 := by
  unfold exT tNmM; simp only [hp]; exact hk
theorem t_ix {α : Type} [Enc α] {u : α} {l m : List α} {k : Int} {bb : Bool} {ts : Ts} {ds : List D} (hi : isOw env i = true) (ha : evE P cf a env = some (.dt (.int k), env1)) (ho : env1[i]? = some (.ow bb (enc l))) (hz : setT l k u = some m) (hs : env1.set i (.ow bb (enc m)) = env2) (hk : exT P cf ts ds env2 = some env3) : exT P cf (.ix i a ts) (enc u :: ds) env = some env3 := by
  unfold exT tIxM; simp only [hi, if_true]; rw [pz_some ha]; simp only [pzR, t_setAt ho hz hs]; exact hk
end
/-! operations with a bound -/
def mulT (a b : Int) : Option Int := if CMul a b then some (a * b) else none
def modT (a b : Int) : Option Int := if 0 < b then some (a % b) else none
def divT (a b : Int) : Option Int := if CDiv a b then some (a / b) else none
def powT (a b : Int) : Option Int := if CPow a b then some (a ^ b.toNat) else none
def catX (a b : Sx) : Option Sx := if a.s.length + b.s.length ≤ sizeLine then some (a ++ b) else none
def catT {α : Type} (a b : Tup α) : Option (Tup α) := if a.l.length + b.l.length ≤ sizeLine then some ⟨a.l ++ b.l⟩ else none
def catL {α : Type} (a b : List α) : Option (List α) := if a.length + b.length ≤ sizeLine then some (a ++ b) else none
def repL {α : Type} (a : List α) (k : Int) : Option (List α) := if -(2 ^ 63) ≤ k ∧ k < 2 ^ 63 ∧ a.length * k.toNat ≤ sizeLine then some (List.replicate k.toNat a).flatten else none
theorem b_mul {a b c : Int} (h : mulT a b = some c) : binD .mul (enc a) (enc b) = some (.dt (enc c)) := bMulI.law h
theorem b_mod {a b c : Int} (h : modT a b = some c) : binD .mod (enc a) (enc b) = some (.dt (enc c)) := bModI.law h
theorem b_div {a b c : Int} (h : divT a b = some c) : binD .fdiv (enc a) (enc b) = some (.dt (enc c)) := bDivI.law h
theorem b_pow {a b c : Int} (h : powT a b = some c) : binD .pow (enc a) (enc b) = some (.dt (enc c)) := bPowI.law h
theorem b_catX {a b c : Sx} (h : catX a b = some c) : binD .add (enc a) (enc b) = some (.dt (enc c)) := bAddX.law h
theorem b_catT {α : Type} [Enc α] {a b c : Tup α} (h : catT a b = some c) : binD .add (enc a) (enc b) = some (.dt (enc c)) := bAddT.law h
theorem b_catL {α : Type} [Enc α] {a b c : List α} (h : catL a b = some c) : binD .add (enc a) (enc b) = some (.nw (enc c)) := bAddL.law h
theorem b_repL {α : Type} [Enc α] {a : List α} {k : Int} {c : List α} (h : repL a k = some c) : binD .mul (enc a) (enc k) = some (.nw (enc c)) := bMulL.law h
theorem b_modP {a b : Int} (h : 0 < b) : binD .mod (enc a) (enc b) = some (.dt (enc (a % b))) := bModI.law (show (if 0 < b then some (a % b) else none) = _ by rw [if_pos h])
theorem b_divP {a b : Int} (h : 0 < b ∧ b < 1073741824) : binD .fdiv (enc a) (enc b) = some (.dt (enc (a / b))) := bDivI.law (show (if CDiv a b then some (a / b) else none) = _ by rw [if_pos (show CDiv a b from h)])
theorem isNB_opt {α : Type} [Enc α] (hn : ∀ a : α, isNB (enc a) = false) : ∀ o : Option α, isNB (enc o) = o.isNone
  | none => rfl
  | some a => hn a
section
variable {P : Pg} {cf : Nat → List Sl → Option (R × List Sl)} {env env1 : Env'} {a : E} {x : R} {α : Type} [Enc α]
theorem e_isNo {o : Option α} (hn : ∀ a : α, isNB (enc a) = false) (ha : evE P cf a env = some (x, env1)) (hx : pzR x = .dt (enc o)) : evE P cf (.isN a) env = some (.dt (.bl o.isNone), env1) := by
  rw [e_isN ha hx, isNB_opt hn]
theorem e_notNo {o : Option α} (hn : ∀ a : α, isNB (enc a) = false) (ha : evE P cf a env = some (x, env1)) (hx : pzR x = .dt (enc o)) : evE P cf (.notN a) env = some (.dt (.bl o.isSome), env1) := by
  rw [e_notN ha hx, isNB_opt hn]; cases o <;> rfl
section
variable {P : Pg} {cf : Nat → List Sl → Option (R × List Sl)} {env env1 env2 : Env'} {a b o : E} {x y r : R} {d e : D}
theorem e_bi1 {f : Bi} (ha : evE P cf a env = some (x, env1)) (hx : opD env1 (pzR x) = some d) (hf : biD f [d] = some r) : evE P cf (.bi f (.cons a .nil)) env = some (r, env1) :=
  e_bi (p_cons ha p_nil) (by simp only [List.mapM_cons, List.mapM_nil, hx]; rfl) hf
theorem e_bi2 {f : Bi} (ha : evE P cf a env = some (x, env1)) (hb : evE P cf b env1 = some (y, env2)) (hx : opD env2 (pzR x) = some d) (hy : opD env2 (pzR y) = some e) (hf : biD f [d, e] = some r) : evE P cf (.bi f (.cons a (.cons b .nil))) env = some (r, env2) :=
  e_bi (p_cons ha (p_cons hb p_nil)) (by simp only [List.mapM_cons, List.mapM_nil, hx, hy]; rfl) hf
theorem e_bm1 {m : Bm} (ho : evE P cf o env = some (x, env1)) (hx : pzR x = .dt d) (ha : evE P cf a env1 = some (y, env2)) (hy : opD env2 (pzR y) = some e) (hf : bmD m d [e] = some r) : evE P cf (.bm m o (.cons a .nil)) env = some (r, env2) :=
  e_bm ho hx (p_cons ha p_nil) (by simp only [List.mapM_cons, List.mapM_nil, hy]; rfl) hf
end
section
variable {α β ν : Type} [Enc α] [Enc β] [Enc ν]
theorem bl_tup (c : Tup α) : biD .len [enc c] = some (.dt (enc (c.l.length : Int))) := lTup.law rfl
theorem bl_lst (c : List α) : biD .len [enc c] = some (.dt (enc (c.length : Int))) := lLst.law rfl
theorem bl_dc (c : Dc α β) : biD .len [enc c] = some (.dt (enc (c.l.length : Int))) := lDc.law rfl
theorem bl_scr (c : Scr) : biD .len [enc c] = some (.dt (enc (c.l.length : Int))) := lScr.law rfl
def lenX (c : Sx) : Option Int := if c.s.length ≤ sizeLine then some c.s.length else none
theorem bl_sx {c : Sx} {n : Int} (h : lenX c = some n) : biD .len [enc c] = some (.dt (enc n)) := lSx.law h
theorem ix_tup {c : Tup α} {k : Int} {v : α} (h : atI c.l k = some v) : ixD (enc c) (enc k) = some (enc v) := iTup.law h
theorem ix_lst {c : List α} {k : Int} {v : α} (h : atI c k = some v) : ixD (enc c) (enc k) = some (enc v) := iLst.law h
theorem ix_scr {c : Scr} {k : Int} {v : Int} (h : atI c.l k = some v) : ixD (enc c) (enc k) = some (enc v) := iScr.law h
theorem ix_dcX {c : Dc Sx ν} {k : Sx} {v : ν} (h : c.l.lookup k = some v) : ixD (enc c) (enc k) = some (enc v) := iDcX.law h
theorem c_eq [PyC α] [DecidableEq α] (hd : PyC.dp α ≤ 64) (a b : α) : cmpD .eq (enc a) (enc b) = some (decide (a = b)) := eqT hd a b
theorem c_ne [PyC α] [DecidableEq α] (hd : PyC.dp α ≤ 64) (a b : α) : cmpD .ne (enc a) (enc b) = some (decide (a ≠ b)) := neT hd a b
theorem c_inXT (a : Sx) (c : Tup Sx) : inD (enc a) (enc c) = some (decide (a ∈ c.l)) := inXT.law a c
theorem c_inXL (a : Sx) (c : List Sx) : inD (enc a) (enc c) = some (decide (a ∈ c)) := inXL.law a c
theorem c_inIL (a : Int) (c : List Int) : inD (enc a) (enc c) = some (decide (a ∈ c)) := inIL.law a c
theorem c_inIT (a : Int) (c : Tup Int) : inD (enc a) (enc c) = some (decide (a ∈ c.l)) := inIT.law a c
theorem c_inXS (a c : Sx) : inD (enc a) (enc c) = some (InC.f a c) := inXS.law a c
theorem c_inXD (a : Sx) (c : Dc Sx ν) : inD (enc a) (enc c) = some (decide (a ∈ c.l.map Prod.fst)) := inXM.law a c
def inL {α : Type} [DecidableEq α] (a : α) (l : List α) : Bool := decide (a ∈ l)
theorem inL_iff {α : Type} [DecidableEq α] {a : α} {l : List α} : inL a l = true ↔ a ∈ l := by unfold inL; exact decide_eq_true_iff
theorem c_inL [PyC α] [NoS α] [DecidableEq α] (hd : PyC.dp α + 1 ≤ 64) (a : α) (c : List α) : inD (enc a) (enc c) = some (inL a c) := in_lst hd a c
end
/-! sorted texts, least and greatest numbers, tuples of data -/
def sortedX (l : List Sx) : Option (List Sx) := if l.length < 64 then some (sortK (fun a => keyOf (enc a)) l) else none
theorem bi_sortedX {l m : List Sx} (h : sortedX l = some m) : biD .sorted [enc l] = some (.nw (enc m)) := by
  obtain ⟨h1, rfl⟩ := ite_some h
  show (if sortable (l.map enc) = true then some (R.nw (.lst (sortK keyOf (l.map enc)))) else match txts (l.map enc) with
    | some ys => if ys.length < 64 then some (.nw (.lst (sortK keyOf (l.map enc)))) else none
    | none => none) = _
  rw [txtsX]
  simp only [List.length_map, h1, if_true, ite_self]
  rw [sortK_mapT]; rfl
theorem intsE : ∀ l : List Int, intsD (l.map enc) = some l
  | [] => rfl
  | x :: l => by rw [List.map_cons]; show (intsD (l.map enc)).map (x :: ·) = _; rw [intsE l]; rfl
def maxL : List Int → Option Int
  | [] => none
  | n :: ns => some (maxI n ns)
def minL : List Int → Option Int
  | [] => none
  | n :: ns => some (minI n ns)
theorem bi_maxL {l : List Int} {m : Int} (h : maxL l = some m) : biD .max2 [enc l] = some (.dt (enc m)) := by
  show (match intsD (l.map enc) with | some (n :: ns) => some (R.dt (.int (maxI n ns))) | _ => none) = _
  rw [intsE]
  cases l with
  | nil => cases h
  | cons n ns => cases h; rfl
theorem bi_minL {l : List Int} {m : Int} (h : minL l = some m) : biD .min2 [enc l] = some (.dt (enc m)) := by
  show (match intsD (l.map enc) with | some (n :: ns) => some (R.dt (.int (minI n ns))) | _ => none) = _
  rw [intsE]
  cases l with
  | nil => cases h
  | cons n ns => cases h; rfl
theorem c_inT {α : Type} [Enc α] [PyC α] [NoS α] [DecidableEq α] (hd : PyC.dp α + 1 ≤ 64) (a : α) (c : Tup α) : inD (enc a) (enc c) = some (inL a c.l) := by
  show (match scalD (enc a), flats (c.l.map enc) with | some v, some vs => some (inV v vs) | _, _ => match py (enc a), pyAll (c.l.map enc) with
      | some p, some ps => if SeqAt.shaped p = true ∧ SeqAt.shaped (.tuple ps) = true then some (ps.any fun z => PyData.eqv z p) else none
      | _, _ => none) = _
  rw [NoS.h]
  simp only [PyC.h1, pyAllE]
  have s2 : SeqAt.shaped (.tuple (c.l.map PyC.toPy)) = true := shapedE (α := Tup α) hd c
  rw [if_pos ⟨shapedE (by omega) a, s2⟩, any_eqv]
  rfl
theorem fin_rt {n : Nat} {r : R} {sl : List Sl} {env' : Env'} (h : cleanE n env' = sl) : Gq (FinQ n (r, sl)) (some (.ret r, env')) := by
  show endR _ _ = _
  simp only [endR, h]
theorem notin_of {a b : D} {t : Bool} (h : inD a b = some t) : cmpD .notin a b = some (!t) := by
  show (inD a b).map _ = _
  rw [h]; rfl
theorem e_makeK {P : Pg} {cf : Nat → List Sl → Option (R × List Sl)} {env env1 : Env'} {c ci : Nat} {es : Es} {perm : List Nat} {ds ds' : List D} {d : D} {ss' : List Sl} (hi : initOf P c = ci) (h : evV P cf es env = some (ds, env1)) (hp : permute perm ds = some ds') (hc : cf ci (.ow true (.ins c []) :: ds'.map .va) = some (.dt .non, .ow true d :: ss')) : evE P cf (.makeK c perm es) env = some (.nw d, env1) := by
  unfold evE makeM permM
  rw [hi, h]
  simp only [hp, Option.map, hc]
end
end VI
namespace VI
open PySem L2 Enc
def e0_is_name : E := (.lc [1] (.nm 1) (.seq (.var 0)) .no (.cmp .isin (.var 1) (.cst (.str "abcdefghijklmnopqrstuvwxyz"))))
def b_is_name : Ss := (.cons (.ite (.or (.not (.isi .isStr (.var 0))) (.or (.not (.chain .le .le (.cst (.int 1)) (.bi .len (.cons (.var 0) .nil)) (.cst (.int 8)))) (.cmp .eq (.var 0) (.cst (.str "none"))))) (.cons (.ret (.cst (.bl false)))
    .nil) .nil)
    (.cons (.ret (.bi .all (.cons e0_is_name .nil)))
    .nil))
def f_is_name : Fn := ⟨"is_name", true, ["value"], [false], 2, b_is_name⟩
def n_is_name : List Str := ["value", "letter"]
def b0_wrong_name : Ss := (.cons (.ite (.or (.cmp .eq (.var 3) (.var 1)) (.or (.not (.call 0 (.cons (.var 4) .nil))) (.or (.cmp .isin (.var 4) (.sli (.var 0) .no (.so (.var 3)))) (.cmp .isin (.var 4) (.var 2))))) (.cons (.ret (.var 3))
    .nil) .nil)
    .nil)
def s1_wrong_name : S := (.forW [3, 4] (.tu [3, 4]) (.enm (.var 0)) b0_wrong_name)
def b_wrong_name : Ss := (.cons s1_wrong_name
    (.cons (.ret (.cst .non))
    .nil))
def f_wrong_name : Fn := ⟨"wrong_name", true, ["value", "most", "others"], [false, false, false], 5, b_wrong_name⟩
def n_wrong_name : List Str := ["value", "most", "others", "index", "name"]
def e0_is_ascending : E := (.lc [4] (.nm 4) (.rng1 (.bin .sub (.bi .len (.cons (.var 2) .nil)) (.cst (.int 1)))) .no (.cmp .lt (.ix (.var 2) (.var 4)) (.ix (.var 2) (.bin .add (.var 4) (.cst (.int 1))))))
def e1_is_ascending : E := (.lc [3] (.nm 3) (.seq (.var 0)) .no (.bm .index (.var 1) (.cons (.var 3) .nil)))
def e2_is_ascending : E := (.lc [3] (.nm 3) (.seq (.var 0)) .no (.and (.isi .isStr (.var 3)) (.cmp .isin (.var 3) (.var 1))))
def b_is_ascending : Ss := (.cons (.ite (.or (.not (.isi .isTuple (.var 0))) (.not (.bi .all (.cons e2_is_ascending .nil)))) (.cons (.ret (.cst (.bl false)))
    .nil) .nil)
    (.cons (.asg (.nm 2) e1_is_ascending)
    (.cons (.ret (.bi .all (.cons e0_is_ascending .nil)))
    .nil)))
def f_is_ascending : Fn := ⟨"is_ascending", true, ["value", "names"], [false, false], 5, b_is_ascending⟩
def n_is_ascending : List Str := ["value", "names", "places", "name", "k"]
def b_check_guests : Ss := (.cons (.ite (.or (.not (.isi .isTuple (.var 0))) (.cmp .eq (.var 0) (.tup .nil))) (.cons .bad
    .nil) .nil)
    (.cons (.asg (.nm 1) (.call 1 (.cons (.var 0) (.cons (.cst (.int 6)) (.cons (.tup .nil) .nil)))))
    (.cons (.ite (.notN (.var 1)) (.cons .bad
    .nil) .nil)
    .nil)))
def f_check_guests : Fn := ⟨"check_guests", true, ["guests"], [false], 2, b_check_guests⟩
def n_check_guests : List Str := ["guests", "wrong"]
def b_check_rooms : Ss := (.cons (.ite (.or (.not (.isi .isTuple (.var 0))) (.cmp .eq (.var 0) (.tup .nil))) (.cons .bad
    .nil) .nil)
    (.cons (.asg (.nm 2) (.call 1 (.cons (.var 0) (.cons (.cst (.int 8)) (.cons (.var 1) .nil)))))
    (.cons (.ite (.notN (.var 2)) (.cons .bad
    .nil) .nil)
    .nil)))
def f_check_rooms : Fn := ⟨"check_rooms", true, ["rooms", "guests"], [false, false], 3, b_check_rooms⟩
def n_check_rooms : List Str := ["rooms", "guests", "wrong"]
def b0_check_accepted : Ss := (.cons (.ite (.or (.cmp .eq (.var 3) (.var 1)) (.not (.call 2 (.cons (.var 4) (.cons (.var 2) .nil))))) (.cons .bad
    .nil) .nil)
    .nil)
def s1_check_accepted : S := (.forW [3, 4] (.tu [3, 4]) (.enm (.var 0)) b0_check_accepted)
def b_check_accepted : Ss := (.cons (.ite (.or (.not (.isi .isTuple (.var 0))) (.cmp .lt (.bi .len (.cons (.var 0) .nil)) (.var 1))) (.cons .bad
    .nil) .nil)
    (.cons s1_check_accepted
    .nil))
def f_check_accepted : Fn := ⟨"check_accepted", true, ["accepted", "many", "rooms"], [false, false, false], 5, b_check_accepted⟩
def n_check_accepted : List Str := ["accepted", "many", "rooms", "index", "some"]
def b_House_init : Ss := (.cons (.ex (.call 3 (.cons (.var 1) .nil)))
    (.cons (.ex (.call 4 (.cons (.var 2) (.cons (.var 1) .nil))))
    (.cons (.ex (.call 5 (.cons (.var 3) (.cons (.bi .len (.cons (.var 1) .nil)) (.cons (.var 2) .nil)))))
    (.cons (.setF 0 "guests" (.var 1))
    (.cons (.setF 0 "rooms" (.var 2))
    (.cons (.setF 0 "accepted" (.var 3))
    (.cons (.setF 0 "lists" (.dz (.var 1) (.var 3)))
    .nil)))))))
def f_House_init : Fn := ⟨"__init__", false, ["self", "guests", "rooms", "accepted"], [true, false, false, false], 4, b_House_init⟩
def n_House_init : List Str := ["self", "guests", "rooms", "accepted"]
def b_check_house : Ss := (.cons (.ite (.not (.isi (.isCls 0) (.var 0))) (.cons .bad
    .nil) .nil)
    .nil)
def f_check_house : Fn := ⟨"check_house", true, ["house"], [false], 1, b_check_house⟩
def n_check_house : List Str := ["house"]
def e0_all_placings : E := (.lc2 [3, 4] [4] (.nm 3) (.seq (.var 1)) .no (.nm 4) (.seq (.var 2)) (.so (.cmp .notin (.var 4) (.var 3))) (.bin .add (.var 3) (.tup (.cons (.var 4) .nil))))
def b1_all_placings : Ss := (.cons (.asg (.nm 1) e0_all_placings)
    .nil)
def s2_all_placings : S := (.forW [2] (.nm 2) (.seq (.fld (.var 0) "accepted")) b1_all_placings)
def b_all_placings : Ss := (.cons (.asg (.nm 1) (.lst (.cons (.tup .nil) .nil)))
    (.cons s2_all_placings
    (.cons (.ret (.var 1))
    .nil)))
def f_all_placings : Fn := ⟨"all_placings", true, ["house"], [false], 5, b_all_placings⟩
def n_all_placings : List Str := ["house", "found", "some", "placing", "room"]
def b_has_some : Ss := (.cons (.ret (.cmp .ne (.call 8 (.cons (.var 0) .nil)) (.lst .nil)))
    .nil)
def f_has_some : Fn := ⟨"has_some", true, ["house"], [false], 1, b_has_some⟩
def n_has_some : List Str := ["house"]
def b_has_placing : Ss := (.cons (.ex (.call 7 (.cons (.var 0) .nil)))
    (.cons (.ret (.call 9 (.cons (.var 0) .nil)))
    .nil))
def f_has_placing : Fn := ⟨"has_placing", true, ["house"], [false], 1, b_has_placing⟩
def n_has_placing : List Str := ["house"]
def e0_are_places : E := (.dc [3] (.nm 3) (.seq (.var 0)) .no (.var 3) (.cst (.bl true)))
def e1_are_places : E := (.lc [3] (.nm 3) (.seq (.var 0)) .no (.and (.isi .isStr (.var 3)) (.cmp .isin (.var 3) (.var 2))))
def b_are_places : Ss := (.cons (.ite (.or (.not (.isi .isTuple (.var 0))) (.cmp .ne (.bi .len (.cons (.var 0) .nil)) (.bi .len (.cons (.var 1) .nil)))) (.cons (.ret (.cst (.bl false)))
    .nil) .nil)
    (.cons (.ite (.not (.bi .all (.cons e1_are_places .nil))) (.cons (.ret (.cst (.bl false)))
    .nil) .nil)
    (.cons (.ret (.cmp .eq (.bi .len (.cons e0_are_places .nil)) (.bi .len (.cons (.var 0) .nil))))
    .nil)))
def f_are_places : Fn := ⟨"are_places", true, ["value", "guests", "rooms"], [false, false, false], 4, b_are_places⟩
def n_are_places : List Str := ["value", "guests", "rooms", "room"]
def e0_is_good : E := (.lc [2, 3] (.tu [2, 3]) (.zip2 (.var 1) (.fld (.var 0) "accepted")) .no (.cmp .isin (.var 2) (.var 3)))
def b_is_good : Ss := (.cons (.ite (.not (.call 11 (.cons (.var 1) (.cons (.fld (.var 0) "guests") (.cons (.fld (.var 0) "rooms") .nil))))) (.cons (.ret (.cst (.bl false)))
    .nil) .nil)
    (.cons (.ret (.bi .all (.cons e0_is_good .nil)))
    .nil))
def f_is_good : Fn := ⟨"is_good", true, ["house", "value"], [false, false], 4, b_is_good⟩
def n_is_good : List Str := ["house", "value", "room", "some"]
def b_check_placing : Ss := (.cons (.ite (.not (.call 12 (.cons (.var 0) (.cons (.var 1) .nil)))) (.cons .bad
    .nil) .nil)
    .nil)
def f_check_placing : Fn := ⟨"check_placing", true, ["house", "value"], [false, false], 2, b_check_placing⟩
def n_check_placing : List Str := ["house", "value"]
def e0_frees : E := (.lc [2] (.nm 2) (.seq (.fld (.var 0) "rooms")) (.so (.cmp .notin (.var 2) (.var 1))) (.var 2))
def b_frees : Ss := (.cons (.ret e0_frees)
    .nil)
def f_frees : Fn := ⟨"frees", true, ["house", "placing"], [false, false], 3, b_frees⟩
def n_frees : List Str := ["house", "placing", "room"]
def b0_shortest_chain : Ss := (.cons (.ite (.cmp .notin (.var 9) (.var 4)) (.cons (.setK 4 (.var 9) (.bin .add (.ix (.var 4) (.var 7)) (.tup (.cons (.tup (.cons (.ix (.fld (.var 0) "guests") (.var 8)) (.cons (.var 9) .nil))) .nil))))
    (.cons (.ex (.bx .append 6 (.var 9)))
    .nil)) .nil)
    .nil)
def s1_shortest_chain : S := (.forW [9] (.nm 9) (.seq (.ix (.fld (.var 0) "accepted") (.var 8))) b0_shortest_chain)
def b2_shortest_chain : Ss := (.cons (.ite (.cmp .isin (.var 7) (.var 3)) (.cons (.ret (.ix (.var 4) (.var 7)))
    .nil) .nil)
    (.cons (.asg (.nm 8) (.bm .index (.var 1) (.cons (.var 7) .nil)))
    (.cons s1_shortest_chain
    .nil)))
def s3_shortest_chain : S := (.forW [7, 8, 9] (.nm 7) (.seq (.var 5)) b2_shortest_chain)
def b4_shortest_chain : Ss := (.cons (.asg (.nm 6) (.lst .nil))
    (.cons s3_shortest_chain
    (.cons (.asg (.nm 5) (.var 6))
    .nil)))
def s5_shortest_chain : S := (.whlW [6, 7, 8, 9] (.cmp .ne (.var 5) (.lst .nil)) b4_shortest_chain)
def b_shortest_chain : Ss := (.cons (.par [3, 4, 5] (.cons (.call 14 (.cons (.var 0) (.cons (.var 1) .nil))) (.cons (.dn1 (.var 2) (.tup .nil)) (.cons (.lst (.cons (.var 2) .nil)) .nil))))
    (.fz 5 (.cons s5_shortest_chain
    (.cons (.ret (.cst .non))
    .nil))))
def f_shortest_chain : Fn := ⟨"shortest_chain", true, ["house", "placing", "room"], [false, false, false], 10, b_shortest_chain⟩
def n_shortest_chain : List Str := ["house", "placing", "room", "some", "known", "layer", "later", "here", "place", "there"]
def b_check_lain : Ss := (.cons (.ex (.call 7 (.cons (.var 0) .nil)))
    (.cons (.ex (.call 13 (.cons (.var 0) (.cons (.var 1) .nil))))
    .nil))
def f_check_lain : Fn := ⟨"check_lain", true, ["house", "placing"], [false, false], 2, b_check_lain⟩
def n_check_lain : List Str := ["house", "placing"]
def e0_newcomer : E := (.lc [6] (.nm 6) (.seq (.var 3)) (.so (.notN (.var 6))) (.bi .len (.cons (.var 6) .nil)))
def e1_newcomer : E := (.lc [5] (.nm 5) (.seq (.var 2)) .no (.call 15 (.cons (.var 0) (.cons (.var 1) (.cons (.var 5) .nil)))))
def b_newcomer : Ss := (.cons (.ex (.call 16 (.cons (.var 0) (.cons (.var 1) .nil))))
    (.cons (.ite (.not (.call 2 (.cons (.var 2) (.cons (.fld (.var 0) "rooms") .nil)))) (.cons .bad
    .nil) .nil)
    (.cons (.asg (.nm 3) e1_newcomer)
    (.cons (.asg (.nm 4) e0_newcomer)
    (.cons (.ret (.ife (.cmp .ne (.var 4) (.lst .nil)) (.bi .min2 (.cons (.var 4) .nil)) (.cst .non)))
    .nil)))))
def f_newcomer : Fn := ⟨"newcomer", true, ["house", "placing", "accepted"], [false, false, false], 7, b_newcomer⟩
def n_newcomer : List Str := ["house", "placing", "accepted", "found", "many", "room", "some"]
def b0_law_bag : Ss := (.cons (.asg (.nm 5) (.bin .mod (.bi .int (.cons (.bin .add (.bin .add (.bin .mul (.var 5) (.cst (.int 49727))) (.bin .mod (.bi .int (.cons (.var 2) .nil)) (.cst (.int 1000121)))) (.bin .mul (.cst (.int 17)) (.var 1))) .nil)) (.cst (.int 2147483549))))
    .nil)
def s1_law_bag : S := (.forW [2] (.nm 2) (.seq (.sli (.var 0) .no (.so (.cst (.int 7))))) b0_law_bag)
def b_law_bag : Ss := (.cons (.par [4, 5] (.cons (.ife (.cmp .lt (.var 1) (.bi .len (.cons (.var 0) .nil))) (.bi .int (.cons (.ix (.var 0) (.var 1)) .nil)) (.cst (.int 0))) (.cons (.bin .mul (.cst (.int 96013)) (.bin .add (.var 1) (.cst (.int 5)))) .nil)))
    (.cons s1_law_bag
    (.cons (.asg (.nm 3) (.ife (.or (.cmp .lt (.var 4) (.cst (.int 0))) (.cmp .ge (.var 4) (.bin .pow (.cst (.int 10)) (.cst (.int 15))))) (.bi .abs (.cons (.var 4) .nil)) (.cst (.int 0))))
    (.cons (.ret (.lst (.cons (.var 3) (.cons (.bin .mod (.bi .int (.cons (.bin .add (.var 5) (.bin .mul (.cst (.int 98009)) (.bin .mod (.bi .int (.cons (.var 4) .nil)) (.cst (.int 999931))))) .nil)) (.cst (.int 2147483549))) (.cons (.cst (.int 0)) .nil)))))
    .nil))))
def f_law_bag : Fn := ⟨"_law_bag", true, ["_law_script", "_law_k"], [false, false], 6, b_law_bag⟩
def n_law_bag : List Str := ["_law_script", "_law_k", "_law_this", "_law_held_signs", "_law_held_cell", "_law_seed"]
def b_law_draw : Ss := (.cons (.setIx 0 (.cst (.int 2)) (.bin .add (.ix (.var 0) (.cst (.int 2))) (.cst (.int 1))))
    (.cons (.ite (.cmp .gt (.ix (.var 0) (.cst (.int 0))) (.cst (.int 0))) (.cons (.asg (.nm 4) (.bin .mod (.bi .int (.cons (.ix (.var 0) (.cst (.int 0))) .nil)) (.var 1)))
    (.cons (.setIx 0 (.cst (.int 0)) (.bin .fdiv (.ix (.var 0) (.cst (.int 0))) (.var 1)))
    (.cons (.ret (.var 4))
    .nil))) .nil)
    (.cons (.asg (.nm 2) (.bin .add (.bi .int (.cons (.ix (.var 0) (.cst (.int 1))) .nil)) (.bin .mul (.cst (.int 64007)) (.ix (.var 0) (.cst (.int 2))))))
    (.cons (.asg (.nm 3) (.bin .add (.bin .mod (.bi .int (.cons (.var 2) .nil)) (.cst (.int 59009))) (.cst (.int 48017))))
    (.cons (.setIx 0 (.cst (.int 1)) (.bin .mod (.bi .int (.cons (.bin .add (.bin .add (.bin .mul (.var 2) (.var 3)) (.bin .mul (.cst (.int 11)) (.ix (.var 0) (.cst (.int 2))))) (.cst (.int 19))) .nil)) (.cst (.int 2147483549))))
    (.cons (.ret (.bin .mod (.bin .fdiv (.bi .int (.cons (.ix (.var 0) (.cst (.int 1))) .nil)) (.cst (.int 509))) (.var 1)))
    .nil))))))
def f_law_draw : Fn := ⟨"_law_draw", true, ["_law_bag_here", "_law_wide"], [true, false], 5, b_law_draw⟩
def n_law_draw : List Str := ["_law_bag_here", "_law_wide", "_law_held", "_law_times", "_law_figure"]
def b_law_one : Ss := (.cons (.ret (.ix (.var 1) (.call 19 (.cons (.var 0) (.cons (.bi .len (.cons (.var 1) .nil)) .nil)))))
    .nil)
def f_law_one : Fn := ⟨"_law_one", true, ["_law_bag_here", "_law_some"], [true, false], 2, b_law_one⟩
def n_law_one : List Str := ["_law_bag_here", "_law_some"]
def e0_law_names : E := (.lc [5] (.nm 5) (.rng1 (.var 1)) .no (.bx .popAt 3 (.call 19 (.cons (.var 0) (.cons (.bi .len (.cons (.var 3) .nil)) .nil)))))
def e1_law_names : E := (.lc [4] (.nm 4) (.seq (.var 3)) (.so (.cmp .notin (.var 4) (.var 2))) (.var 4))
def e2_law_names : E := (.lst (.cons (.cst (.str "a")) (.cons (.cst (.str "b")) (.cons (.cst (.str "c")) (.cons (.cst (.str "ab")) (.cons (.cst (.str "ann")) (.cons (.cst (.str "red")) (.cons (.cst (.str "rooms")) (.cons (.cst (.str "x")) (.cons (.cst (.str "abcdefgh")) (.cons (.cst (.str "aa")) (.cons (.cst (.str "z")) (.cons (.cst (.str "nona")) (.cons (.cst (.str "y")) (.cons (.cst (.str "ba")) (.cons (.cst (.str "p")) (.cons (.cst (.str "q")) (.cons (.cst (.str "no")) .nil))))))))))))))))))
def b_law_names : Ss := (.cons (.asg (.nm 3) e2_law_names)
    (.cons (.asg (.nm 3) e1_law_names)
    (.cons (.ret (.bi .tuple (.cons e0_law_names .nil)))
    .nil)))
def f_law_names : Fn := ⟨"_law_names", true, ["_law_bag_here", "_law_many", "_law_less"], [true, false, false], 6, b_law_names⟩
def n_law_names : List Str := ["_law_bag_here", "_law_many", "_law_less", "_law_pool", "_law_name", "_law_k"]
def e0_law_house : E := (.lc [11] (.nm 11) (.seq (.var 4)) (.so (.or (.cmp .eq (.var 11) (.var 10)) (.cmp .eq (.call 19 (.cons (.var 0) (.cons (.var 6) .nil))) (.cst (.int 0))))) (.var 11))
def b1_law_house : Ss := (.cons (.asg (.nm 10) (.ife (.and (.cmp .lt (.var 5) (.bi .len (.cons (.var 7) .nil))) (.cmp .gt (.call 19 (.cons (.var 0) (.cons (.cst (.int 12)) .nil))) (.cst (.int 0)))) (.ix (.var 7) (.var 5)) (.cst (.str ""))))
    (.cons (.ex (.bx .append 8 (.bi .tuple (.cons e0_law_house .nil))))
    .nil))
def s2_law_house : S := (.forW [5, 10] (.nm 5) (.rng1 (.bi .len (.cons (.var 3) .nil))) b1_law_house)
def b3_law_house : Ss := (.cons (.asg (.nm 9) (.call 19 (.cons (.var 0) (.cons (.bi .len (.cons (.var 4) .nil)) .nil))))
    (.cons (.asgT (.ix 7 (.var 5) (.ix 7 (.var 9) .nil)) (.tup (.cons (.ix (.var 7) (.var 9)) (.cons (.ix (.var 7) (.var 5)) .nil))))
    .nil))
def s4_law_house : S := (.forW [5, 9] (.nm 5) (.rng1 (.bi .len (.cons (.var 4) .nil))) b3_law_house)
def b_law_house : Ss := (.cons (.asg (.nm 3) (.call 21 (.cons (.var 0) (.cons (.bin .add (.cst (.int 1)) (.call 19 (.cons (.var 0) (.cons (.var 1) .nil)))) (.cons (.tup .nil) .nil)))))
    (.cons (.asg (.nm 4) (.call 21 (.cons (.var 0) (.cons (.bin .add (.cst (.int 1)) (.call 19 (.cons (.var 0) (.cons (.var 2) .nil)))) (.cons (.var 3) .nil)))))
    (.cons (.ite (.and (.cmp .gt (.call 19 (.cons (.var 0) (.cons (.cst (.int 8)) .nil))) (.cst (.int 0))) (.cmp .lt (.bi .len (.cons (.var 4) .nil)) (.bi .len (.cons (.var 3) .nil)))) (.cons (.asg (.nm 3) (.sli (.var 3) .no (.so (.bi .len (.cons (.var 4) .nil)))))
    .nil) .nil)
    (.cons (.par [7, 8] (.cons (.bi .list (.cons (.var 4) .nil)) (.cons (.lst .nil) .nil)))
    (.cons s4_law_house
    (.cons (.asg (.nm 6) (.call 20 (.cons (.var 0) (.cons (.lst (.cons (.cst (.int 2)) (.cons (.cst (.int 3)) (.cons (.cst (.int 3)) (.cons (.cst (.int 5)) .nil))))) .nil))))
    (.cons s2_law_house
    (.cons (.ret (.lst (.cons (.var 3) (.cons (.var 4) (.cons (.bi .tuple (.cons (.var 8) .nil)) .nil)))))
    .nil))))))))
def f_law_house : Fn := ⟨"_law_house", true, ["_law_bag_here", "_law_most_guests", "_law_most_rooms"], [true, false, false], 12, b_law_house⟩
def n_law_house : List Str := ["_law_bag_here", "_law_most_guests", "_law_most_rooms", "_law_guests", "_law_rooms", "_law_k", "_law_few", "_law_order", "_law_found", "_law_at", "_law_own", "_law_room"]
def b_law_made : Ss := (.cons (.ret (.make 0 (.cons (.ix (.var 0) (.cst (.int 0))) (.cons (.ix (.var 0) (.cst (.int 1))) (.cons (.ix (.var 0) (.cst (.int 2))) .nil)))))
    .nil)
def f_law_made : Fn := ⟨"_law_made", true, ["_law_parts"], [false], 1, b_law_made⟩
def n_law_made : List Str := ["_law_parts"]
def e0_law_placings : E := (.lc [5] (.nm 5) (.seq (.ix (.ix (.var 0) (.cst (.int 2))) (.var 2))) (.so (.cmp .notin (.var 5) (.var 4))) (.bin .add (.var 4) (.tup (.cons (.var 5) .nil))))
def b1_law_placings : Ss := (.cons (.asg (.nm 3) (.bin .add (.var 3) e0_law_placings))
    .nil)
def s2_law_placings : S := (.forW [4] (.nm 4) (.seq (.var 1)) b1_law_placings)
def b3_law_placings : Ss := (.cons (.asg (.nm 3) (.lst .nil))
    (.cons s2_law_placings
    (.cons (.asg (.nm 1) (.var 3))
    .nil)))
def s4_law_placings : S := (.forW [2, 3, 4] (.nm 2) (.rng1 (.bi .len (.cons (.ix (.var 0) (.cst (.int 0))) .nil))) b3_law_placings)
def b_law_placings : Ss := (.cons (.asg (.nm 1) (.lst (.cons (.tup .nil) .nil)))
    (.fz 1 (.cons s4_law_placings
    (.cons (.ret (.var 1))
    .nil))))
def f_law_placings : Fn := ⟨"_law_placings", true, ["_law_parts"], [false], 6, b_law_placings⟩
def n_law_placings : List Str := ["_law_parts", "_law_found", "_law_k", "_law_longer", "_law_head", "_law_room"]
def e0_law_right : E := (.lc [11] (.nm 11) (.seq (.var 7)) (.so (.notN (.var 11))) (.var 11))
def e1_law_right : E := (.lc [10] (.nm 10) (.seq (.var 4)) .no (.call 17 (.cons (.var 8) (.cons (.var 9) (.cons (.tup (.cons (.var 10) .nil)) .nil)))))
def e2_law_right : E := (.lc [10] (.nm 10) (.seq (.var 4)) (.so (.cmp .notin (.var 10) (.var 9))) (.var 10))
def e3_law_right : E := (.lc [10] (.nm 10) (.seq (.ix (.var 2) (.cst (.int 1)))) (.so (.cmp .eq (.call 19 (.cons (.var 0) (.cons (.cst (.int 3)) .nil))) (.cst (.int 0)))) (.var 10))
def b4_law_right : Ss := (.cons (.asg (.nm 2) (.call 22 (.cons (.var 0) (.cons (.cst (.int 5)) (.cons (.cst (.int 6)) .nil)))))
    (.cons (.asg (.nm 3) (.call 24 (.cons (.var 2) .nil)))
    (.cons (.ite (.cmp .eq (.var 3) (.lst .nil)) (.cons .cnt
    .nil) .nil)
    (.cons (.par [8, 9] (.cons (.call 23 (.cons (.var 2) .nil)) (.cons (.call 20 (.cons (.var 0) (.cons (.var 3) .nil))) .nil)))
    (.cons (.asg (.nm 4) (.bi .tuple (.cons e3_law_right .nil)))
    (.cons (.asg (.nm 5) (.make 0 (.cons (.bin .add (.ix (.var 2) (.cst (.int 0))) (.tup (.cons (.cst (.str "zzz")) .nil))) (.cons (.ix (.var 2) (.cst (.int 1))) (.cons (.bin .add (.ix (.var 2) (.cst (.int 2))) (.tup (.cons (.var 4) .nil))) .nil)))))
    (.cons (.asg (.nm 6) (.call 17 (.cons (.var 8) (.cons (.var 9) (.cons (.var 4) .nil)))))
    (.cons (.ite (.cmp .ne (.bi .repr (.cons (.callK 17 [2, 1, 0] (.cons (.var 4) (.cons (.var 9) (.cons (.var 8) .nil)))) .nil)) (.bi .repr (.cons (.var 6) .nil))) (.cons (.ret (.cst (.bl false)))
    .nil) .nil)
    (.cons (.ite (.cmp .ne (.notN (.var 6)) (.call 10 (.cons (.var 5) .nil))) (.cons (.ret (.cst (.bl false)))
    .nil) .nil)
    (.cons (.ite (.cmp .ne (.cmp .eq (.var 6) (.cst (.int 0))) (.cmp .ne e2_law_right (.lst .nil))) (.cons (.ret (.cst (.bl false)))
    .nil) .nil)
    (.cons (.asg (.nm 7) e1_law_right)
    (.cons (.asg (.nm 7) e0_law_right)
    (.cons (.ite (.or (.cmp .ne (.var 6) (.ife (.cmp .ne (.var 7) (.lst .nil)) (.bi .min2 (.cons (.var 7) .nil)) (.cst .non))) (.and (.notN (.var 6)) (.cmp .gt (.var 6) (.bi .len (.cons (.var 9) .nil))))) (.cons (.ret (.cst (.bl false)))
    .nil) .nil)
    .nil)))))))))))))
def s5_law_right : S := (.forW [1, 2, 3, 4, 5, 6, 7, 8, 9] (.nm 1) (.rng1 (.cst (.int 5))) b4_law_right)
def b_law_right : Ss := (.cons s5_law_right
    (.cons (.ret (.cst (.bl true)))
    .nil))
def f_law_right : Fn := ⟨"_law_right", true, ["_law_bag_here"], [true], 12, b_law_right⟩
def n_law_right : List Str := ["_law_bag_here", "_law_turn", "_law_parts", "_law_found", "_law_some", "_law_bigger", "_law_told", "_law_single", "_law_mine", "_law_near", "_law_room", "_law_many"]
def e0_law : E := (.lc [1] (.nm 1) (.rng1 (.bi .max2 (.cons (.cst (.int 2)) (.cons (.bi .min2 (.cons (.bi .len (.cons (.var 0) .nil)) (.cons (.cst (.int 5)) .nil))) .nil)))) .no (.call 25 (.cons (.call 18 (.cons (.var 0) (.cons (.var 1) .nil))) .nil)))
def b_law : Ss := (.cons (.ret (.bi .all (.cons e0_law .nil)))
    .nil)
def f_law : Fn := ⟨"law", true, ["_law_script"], [false], 2, b_law⟩
def n_law : List Str := ["_law_script", "_law_k"]
def Pg0 : Pg := ⟨[f_is_name, f_wrong_name, f_is_ascending, f_check_guests, f_check_rooms, f_check_accepted, f_House_init, f_check_house, f_all_placings, f_has_some, f_has_placing, f_are_places, f_is_good, f_check_placing, f_frees, f_shortest_chain, f_check_lain, f_newcomer, f_law_bag, f_law_draw, f_law_one, f_law_names, f_law_house, f_law_made, f_law_placings, f_law_right, f_law], [⟨"House", 6, []⟩], [("MOST_GUESTS", (.int 6)), ("MOST_NAME", (.int 8)), ("LETTERS", (.str "abcdefghijklmnopqrstuvwxyz")), ("MOST_ROOMS", (.int 8))], ["all", "range", "max", "min", "len", "int", "abs", "tuple", "list", "isinstance", "str", "dict", "zip", "repr", "enumerate"], ["guests", "rooms", "accepted", "lists"], [(17, ["accepted", "placing", "house"], 0, [2, 1, 0])], 4000⟩
abbrev i_is_name : Nat := 0
abbrev i_wrong_name : Nat := 1
abbrev i_is_ascending : Nat := 2
abbrev i_check_guests : Nat := 3
abbrev i_check_rooms : Nat := 4
abbrev i_check_accepted : Nat := 5
abbrev i_House_init : Nat := 6
abbrev i_check_house : Nat := 7
abbrev i_all_placings : Nat := 8
abbrev i_has_some : Nat := 9
abbrev i_has_placing : Nat := 10
abbrev i_are_places : Nat := 11
abbrev i_is_good : Nat := 12
abbrev i_check_placing : Nat := 13
abbrev i_frees : Nat := 14
abbrev i_shortest_chain : Nat := 15
abbrev i_check_lain : Nat := 16
abbrev i_newcomer : Nat := 17
abbrev i_law_bag : Nat := 18
abbrev i_law_draw : Nat := 19
abbrev i_law_one : Nat := 20
abbrev i_law_names : Nat := 21
abbrev i_law_house : Nat := 22
abbrev i_law_made : Nat := 23
abbrev i_law_placings : Nat := 24
abbrev i_law_right : Nat := 25
abbrev i_law : Nat := 26
theorem mt_is_name : mtOf Pg0 0 = [false] := rfl
theorem mt_wrong_name : mtOf Pg0 1 = [false, false, false] := rfl
theorem mt_is_ascending : mtOf Pg0 2 = [false, false] := rfl
theorem mt_check_guests : mtOf Pg0 3 = [false] := rfl
theorem mt_check_rooms : mtOf Pg0 4 = [false, false] := rfl
theorem mt_check_accepted : mtOf Pg0 5 = [false, false, false] := rfl
theorem mt_House_init : mtOf Pg0 6 = [true, false, false, false] := rfl
theorem mt_check_house : mtOf Pg0 7 = [false] := rfl
theorem mt_all_placings : mtOf Pg0 8 = [false] := rfl
theorem mt_has_some : mtOf Pg0 9 = [false] := rfl
theorem mt_has_placing : mtOf Pg0 10 = [false] := rfl
theorem mt_are_places : mtOf Pg0 11 = [false, false, false] := rfl
theorem mt_is_good : mtOf Pg0 12 = [false, false] := rfl
theorem mt_check_placing : mtOf Pg0 13 = [false, false] := rfl
theorem mt_frees : mtOf Pg0 14 = [false, false] := rfl
theorem mt_shortest_chain : mtOf Pg0 15 = [false, false, false] := rfl
theorem mt_check_lain : mtOf Pg0 16 = [false, false] := rfl
theorem mt_newcomer : mtOf Pg0 17 = [false, false, false] := rfl
theorem mt_law_bag : mtOf Pg0 18 = [false, false] := rfl
theorem mt_law_draw : mtOf Pg0 19 = [true, false] := rfl
theorem mt_law_one : mtOf Pg0 20 = [true, false] := rfl
theorem mt_law_names : mtOf Pg0 21 = [true, false, false] := rfl
theorem mt_law_house : mtOf Pg0 22 = [true, false, false] := rfl
theorem mt_law_made : mtOf Pg0 23 = [false] := rfl
theorem mt_law_placings : mtOf Pg0 24 = [false] := rfl
theorem mt_law_right : mtOf Pg0 25 = [true] := rfl
theorem mt_law : mtOf Pg0 26 = [false] := rfl
theorem in_House : initOf Pg0 0 = 6 := rfl
theorem cl_len : Pg0.cls.length = 1 := rfl
end VI
namespace VI
open PySem L2 Enc
def lx_a : Sx := ⟨"a", by decide +kernel⟩
def lx_b : Sx := ⟨"b", by decide +kernel⟩
def lx_c : Sx := ⟨"c", by decide +kernel⟩
def lx_ab : Sx := ⟨"ab", by decide +kernel⟩
def lx_ann : Sx := ⟨"ann", by decide +kernel⟩
def lx_red : Sx := ⟨"red", by decide +kernel⟩
def lx_rooms : Sx := ⟨"rooms", by decide +kernel⟩
def lx_x : Sx := ⟨"x", by decide +kernel⟩
def lx_abcdefgh : Sx := ⟨"abcdefgh", by decide +kernel⟩
def lx_aa : Sx := ⟨"aa", by decide +kernel⟩
def lx_z : Sx := ⟨"z", by decide +kernel⟩
def lx_nona : Sx := ⟨"nona", by decide +kernel⟩
def lx_y : Sx := ⟨"y", by decide +kernel⟩
def lx_ba : Sx := ⟨"ba", by decide +kernel⟩
def lx_p : Sx := ⟨"p", by decide +kernel⟩
def lx_q : Sx := ⟨"q", by decide +kernel⟩
def lx_no : Sx := ⟨"no", by decide +kernel⟩
def ly_ : Sx := ⟨"", by decide +kernel⟩
def lx_none : Sx := ⟨"none", by decide +kernel⟩
def lx_abcdefghijklmnopqrstuvwxyz : Sx := ⟨"abcdefghijklmnopqrstuvwxyz", by decide +kernel⟩
def lx_zzz : Sx := ⟨"zzz", by decide +kernel⟩
structure House where
  guests : (Tup Sx)
  rooms : (Tup Sx)
  accepted : (Tup (Tup Sx))
  lists : (Dc Sx (Tup Sx))
instance : Enc House := ⟨fun h => D.ins 0 [("guests", enc h.guests), ("rooms", enc h.rooms), ("accepted", enc h.accepted), ("lists", enc h.lists)]⟩
theorem fl_House_guests (h : House) : (([("guests", enc h.guests), ("rooms", enc h.rooms), ("accepted", enc h.accepted), ("lists", enc h.lists)] : List (Str × D)).lookup ("guests" : Str)) = some (enc h.guests) := by
  simp only [List.lookup_cons, show (("guests" : Str) == "rooms") = false from by decide +kernel, show (("guests" : Str) == "accepted") = false from by decide +kernel, show (("guests" : Str) == "lists") = false from by decide +kernel]
  simp
theorem fl_House_rooms (h : House) : (([("guests", enc h.guests), ("rooms", enc h.rooms), ("accepted", enc h.accepted), ("lists", enc h.lists)] : List (Str × D)).lookup ("rooms" : Str)) = some (enc h.rooms) := by
  simp only [List.lookup_cons, show (("rooms" : Str) == "guests") = false from by decide +kernel, show (("rooms" : Str) == "accepted") = false from by decide +kernel, show (("rooms" : Str) == "lists") = false from by decide +kernel]
  simp
theorem fl_House_accepted (h : House) : (([("guests", enc h.guests), ("rooms", enc h.rooms), ("accepted", enc h.accepted), ("lists", enc h.lists)] : List (Str × D)).lookup ("accepted" : Str)) = some (enc h.accepted) := by
  simp only [List.lookup_cons, show (("accepted" : Str) == "guests") = false from by decide +kernel, show (("accepted" : Str) == "rooms") = false from by decide +kernel, show (("accepted" : Str) == "lists") = false from by decide +kernel]
  simp
theorem fl_House_lists (h : House) : (([("guests", enc h.guests), ("rooms", enc h.rooms), ("accepted", enc h.accepted), ("lists", enc h.lists)] : List (Str × D)).lookup ("lists" : Str)) = some (enc h.lists) := by
  simp only [List.lookup_cons, show (("lists" : Str) == "guests") = false from by decide +kernel, show (("lists" : Str) == "rooms") = false from by decide +kernel, show (("lists" : Str) == "accepted") = false from by decide +kernel]
  simp
def t_law_bag (script : Scr) (k : Int) : Option ((List Int)) :=
  ((if (decide (k < (script.l.length : Int))) = true then
  (atI script.l k).bind fun w1 =>
  some (w1, ())
  else
  some ((0 : Int), ()) : Option (Int × (Unit)))).bind fun q2 =>
  (mulT (96013 : Int) (k + (5 : Int))).bind fun n3 =>
  (foldT (σ := Int) (fun (x4 : Int) (s9 : Int) =>
  (mulT s9 (49727 : Int)).bind fun n10 =>
  (mulT (17 : Int) k).bind fun n11 =>
  (some ((((n10 + (x4 % (1000121 : Int))) + n11) % (2147483549 : Int)) : Int)).bind fun seed12 =>
  some seed12) (cutL script.l none (some (7 : Int))) n3).bind fun s13 =>
  ((if (decide (q2.1 < (0 : Int))) = true then some (true, ()) else
  (powT (10 : Int) (15 : Int)).bind fun n14 =>
  some ((decide (n14 ≤ q2.1)), ()) : Option (Bool × (Unit)))).bind fun q15 =>
  (some ((if q15.1 = true then (absT q2.1) else (0 : Int)) : Int)).bind fun held_signs16 =>
  (mulT (98009 : Int) (q2.1 % (999931 : Int))).bind fun n17 =>
  some ([held_signs16, ((s13 + n17) % (2147483549 : Int)), (0 : Int)] : (List Int))
theorem ok_law_bag (kk : Nat) {script : Scr} {k : Int} {r : (List Int)} (h : t_law_bag script k = some r) : runN Pg0 (kk + 1) i_law_bag [.va (enc (script : Scr)), .va (enc (k : Int))] = some (.nw (enc r), [.no, .no]) := by
  refine run_ok (k := kk + 0) (fn := f_law_bag) rfl rfl (g_top ?_)
  show Gq (FinQ 2 (.nw (enc r), [.no, .no])) (blk Pg0 _ b_law_bag nextM [.va (enc (script : Scr)), .va (enc (k : Int)), .no, .no, .no, .no])
  unfold t_law_bag at h
  obtain ⟨q2, h_q2, h⟩ := bnd h
  obtain ⟨n3, h_n3, h⟩ := bnd h
  refine g_next (env1 := [.va (enc (script : Scr)), .va (enc (k : Int)), .no, .no, .va (enc (q2.1 : Int)), .va (enc (n3 : Int))]) (s_par (r_cons (e_ifeT (α := Int) (s0 := ()) (fun (s : Unit) => [.va (enc (script : Scr)), .va (enc (k : Int)), .no, .no, .no, .no]) (e_cmp (e_var rfl) (e_bi1 (e_var rfl) rfl (bl_scr script)) rfl rfl rfl) h_q2 (fun q hq => by
    obtain ⟨w1, h_w1, hq⟩ := bnd hq
    cases hq
    exact (e_bi1 (e_ix (e_var rfl) (e_var rfl) rfl rfl (ix_scr h_w1)) rfl rfl)) (fun q hq => by
    cases hq
    exact e_cst)) rfl (r_cons (e_bin e_cst (e_bin (e_var rfl) e_cst rfl rfl rfl) rfl rfl (b_mul h_n3)) rfl r_nil)) rfl) ?_
  obtain ⟨s13, h_s13, h⟩ := bnd h
  refine g_fold (s0 := n3) _ (fun (s9 : Int) => [.va (enc (script : Scr)), .va (enc (k : Int)), .no, .no, .va (enc (q2.1 : Int)), .va (enc (s9 : Int))]) (i_seq (e_sli (e_var rfl) o_no (o_so e_cst) rfl (sScr.law rfl)) rfl (SeqC.law _)) rfl rfl h_s13 ?_ ?_
  · intro x4 s9 o ho
    refine ⟨_, rfl, g_body ?_⟩
    obtain ⟨n10, h_n10, ho⟩ := bnd ho
    obtain ⟨n11, h_n11, ho⟩ := bnd ho
    obtain ⟨seed12, h_seed12, ho⟩ := bnd ho
    refine g_next (env1 := [.va (enc (script : Scr)), .va (enc (k : Int)), .va (enc (x4 : Int)), .no, .va (enc (q2.1 : Int)), .va (enc (seed12 : Int))]) (s_asg (re_dt h_seed12 (e_bin (e_bi1 (e_bin (e_bin (e_bin (e_var rfl) e_cst rfl rfl (b_mul h_n10)) (e_bin (e_bi1 (e_var rfl) rfl rfl) e_cst rfl rfl (b_modP (by decide))) rfl rfl rfl) (e_bin e_cst (e_var rfl) rfl rfl (b_mul h_n11)) rfl rfl rfl) rfl rfl) e_cst rfl rfl (b_modP (by decide)))) rfl rfl) ?_
    cases ho
    refine g_nil ?_
    exact ⟨_, _, rfl, .inl rfl, rfl⟩
  obtain ⟨q15, h_q15, h⟩ := bnd h
  obtain ⟨held_signs16, h_held_signs16, h⟩ := bnd h
  refine g_next (env1 := [.va (enc (script : Scr)), .va (enc (k : Int)), .no, .va (enc (held_signs16 : Int)), .va (enc (q2.1 : Int)), .va (enc (s13 : Int))]) (s_asg (re_dt h_held_signs16 (e_ifeP (α := Int) (e_orT (s0 := ()) (fun (s : Unit) => [.va (enc (script : Scr)), .va (enc (k : Int)), .no, .no, .va (enc (q2.1 : Int)), .va (enc (s13 : Int))]) (e_cmp (e_var rfl) e_cst rfl rfl rfl) h_q15 (fun q hq => by
    obtain ⟨n14, h_n14, hq⟩ := bnd hq
    cases hq
    exact (e_cmp (e_var rfl) (e_bin e_cst e_cst rfl rfl (b_pow h_n14)) rfl rfl rfl))) (e_bi1 (e_var rfl) rfl (bi_absT _)) e_cst)) rfl rfl) ?_
  obtain ⟨n17, h_n17, h⟩ := bnd h
  cases h
  refine g_ret (e_lst (v_cons (e_var rfl) rfl (v_cons (e_bin (e_bi1 (e_bin (e_var rfl) (e_bin e_cst (e_bin (e_bi1 (e_var rfl) rfl rfl) e_cst rfl rfl (b_modP (by decide))) rfl rfl (b_mul h_n17)) rfl rfl rfl) rfl rfl) e_cst rfl rfl (b_modP (by decide))) rfl (v_cons e_cst rfl v_nil))) (by decide : 3 ≤ sizeLine)) rfl ?_
  exact rfl
def t_law_draw (bag_here : (List Int)) (wide : Int) : Option (Int × (List Int)) :=
  (atI bag_here (2 : Int)).bind fun w1 =>
  (some ((w1 + (1 : Int)) : Int)).bind fun v2 =>
  (setT bag_here (2 : Int) v2).bind fun bag_here3 =>
  (atI bag_here3 (0 : Int)).bind fun w4 =>
  if (decide ((0 : Int) < w4)) = true then
  (atI bag_here3 (0 : Int)).bind fun w5 =>
  (modT w5 wide).bind fun n6 =>
  (atI bag_here3 (0 : Int)).bind fun w7 =>
  (divT w7 wide).bind fun n8 =>
  (setT bag_here3 (0 : Int) n8).bind fun bag_here9 =>
  some (n6, bag_here9)
  else
  (atI bag_here3 (1 : Int)).bind fun w10 =>
  (atI bag_here3 (2 : Int)).bind fun w11 =>
  (mulT (64007 : Int) w11).bind fun n12 =>
  (some ((w10 + n12) : Int)).bind fun held13 =>
  (some (((held13 % (59009 : Int)) + (48017 : Int)) : Int)).bind fun times14 =>
  (mulT held13 times14).bind fun n15 =>
  (atI bag_here3 (2 : Int)).bind fun w16 =>
  (mulT (11 : Int) w16).bind fun n17 =>
  (some ((((n15 + n17) + (19 : Int)) % (2147483549 : Int)) : Int)).bind fun v18 =>
  (setT bag_here3 (1 : Int) v18).bind fun bag_here19 =>
  (atI bag_here19 (1 : Int)).bind fun w20 =>
  (modT (w20 / (509 : Int)) wide).bind fun n21 =>
  some (n21, bag_here19)
theorem ok_law_draw (kk : Nat) {bag_here : (List Int)} {wide : Int} {r : Int × (List Int)} (h : t_law_draw bag_here wide = some r) : runN Pg0 (kk + 1) i_law_draw [.ow true (enc (bag_here : (List Int))), .va (enc (wide : Int))] = some (.dt (enc r.1), [.ow true (enc r.2), .no]) := by
  refine run_ok (k := kk + 0) (fn := f_law_draw) rfl rfl (g_top ?_)
  show Gq (FinQ 2 (.dt (enc r.1), [.ow true (enc r.2), .no])) (blk Pg0 _ b_law_draw nextM [.ow true (enc (bag_here : (List Int))), .va (enc (wide : Int)), .no, .no, .no])
  unfold t_law_draw at h
  obtain ⟨w1, h_w1, h⟩ := bnd h
  obtain ⟨v2, h_v2, h⟩ := bnd h
  obtain ⟨bag_here3, h_bag_here3, h⟩ := bnd h
  refine g_next (env1 := [.ow true (enc (bag_here3 : (List Int))), .va (enc (wide : Int)), .no, .no, .no]) (s_setIxT (u := (v2 : Int)) (re_dt h_v2 (e_bin (e_ix (e_sl rfl) e_cst rfl rfl (ix_lst h_w1)) e_cst rfl rfl rfl)) rfl rfl e_cst rfl h_bag_here3 rfl) ?_
  obtain ⟨w4, h_w4, h⟩ := bnd h
  rcases iteB h with ⟨hc, h⟩ | ⟨hc, h⟩
  · refine g_iteT (e_cmp (e_ix (e_sl rfl) e_cst rfl rfl (ix_lst h_w4)) e_cst rfl rfl rfl) hc ?_
    obtain ⟨w5, h_w5, h⟩ := bnd h
    obtain ⟨n6, h_n6, h⟩ := bnd h
    refine g_next (env1 := [.ow true (enc (bag_here3 : (List Int))), .va (enc (wide : Int)), .no, .no, .va (enc (n6 : Int))]) (s_asg (e_bin (e_bi1 (e_ix (e_sl rfl) e_cst rfl rfl (ix_lst h_w5)) rfl rfl) (e_var rfl) rfl rfl (b_mod h_n6)) rfl rfl) ?_
    obtain ⟨w7, h_w7, h⟩ := bnd h
    obtain ⟨n8, h_n8, h⟩ := bnd h
    obtain ⟨bag_here9, h_bag_here9, h⟩ := bnd h
    refine g_next (env1 := [.ow true (enc (bag_here9 : (List Int))), .va (enc (wide : Int)), .no, .no, .va (enc (n6 : Int))]) (s_setIxT (u := (n8 : Int)) (e_bin (e_ix (e_sl rfl) e_cst rfl rfl (ix_lst h_w7)) (e_var rfl) rfl rfl (b_div h_n8)) rfl rfl e_cst rfl h_bag_here9 rfl) ?_
    cases h
    refine g_ret (e_var rfl) rfl ?_
    exact rfl
  · refine g_iteF (e_cmp (e_ix (e_sl rfl) e_cst rfl rfl (ix_lst h_w4)) e_cst rfl rfl rfl) hc ?_
    refine g_nil ?_
    obtain ⟨w10, h_w10, h⟩ := bnd h
    obtain ⟨w11, h_w11, h⟩ := bnd h
    obtain ⟨n12, h_n12, h⟩ := bnd h
    obtain ⟨held13, h_held13, h⟩ := bnd h
    refine g_next (env1 := [.ow true (enc (bag_here3 : (List Int))), .va (enc (wide : Int)), .va (enc (held13 : Int)), .no, .no]) (s_asg (re_dt h_held13 (e_bin (e_bi1 (e_ix (e_sl rfl) e_cst rfl rfl (ix_lst h_w10)) rfl rfl) (e_bin e_cst (e_ix (e_sl rfl) e_cst rfl rfl (ix_lst h_w11)) rfl rfl (b_mul h_n12)) rfl rfl rfl)) rfl rfl) ?_
    obtain ⟨times14, h_times14, h⟩ := bnd h
    refine g_next (env1 := [.ow true (enc (bag_here3 : (List Int))), .va (enc (wide : Int)), .va (enc (held13 : Int)), .va (enc (times14 : Int)), .no]) (s_asg (re_dt h_times14 (e_bin (e_bin (e_bi1 (e_var rfl) rfl rfl) e_cst rfl rfl (b_modP (by decide))) e_cst rfl rfl rfl)) rfl rfl) ?_
    obtain ⟨n15, h_n15, h⟩ := bnd h
    obtain ⟨w16, h_w16, h⟩ := bnd h
    obtain ⟨n17, h_n17, h⟩ := bnd h
    obtain ⟨v18, h_v18, h⟩ := bnd h
    obtain ⟨bag_here19, h_bag_here19, h⟩ := bnd h
    refine g_next (env1 := [.ow true (enc (bag_here19 : (List Int))), .va (enc (wide : Int)), .va (enc (held13 : Int)), .va (enc (times14 : Int)), .no]) (s_setIxT (u := (v18 : Int)) (re_dt h_v18 (e_bin (e_bi1 (e_bin (e_bin (e_bin (e_var rfl) (e_var rfl) rfl rfl (b_mul h_n15)) (e_bin e_cst (e_ix (e_sl rfl) e_cst rfl rfl (ix_lst h_w16)) rfl rfl (b_mul h_n17)) rfl rfl rfl) e_cst rfl rfl rfl) rfl rfl) e_cst rfl rfl (b_modP (by decide)))) rfl rfl e_cst rfl h_bag_here19 rfl) ?_
    obtain ⟨w20, h_w20, h⟩ := bnd h
    obtain ⟨n21, h_n21, h⟩ := bnd h
    cases h
    refine g_ret (e_bin (e_bin (e_bi1 (e_ix (e_sl rfl) e_cst rfl rfl (ix_lst h_w20)) rfl rfl) e_cst rfl rfl (b_divP (by decide))) (e_var rfl) rfl rfl (b_mod h_n21)) rfl ?_
    exact rfl
def t_law_names (bag_here : (List Int)) (many : Int) (less : (Tup Sx)) : Option ((Tup Sx) × (List Int)) :=
  (some (([lx_a, lx_b, lx_c, lx_ab, lx_ann, lx_red, lx_rooms, lx_x, lx_abcdefgh, lx_aa, lx_z, lx_nona, lx_y, lx_ba, lx_p, lx_q, lx_no] : (List Sx)) : (List Sx))).bind fun pool1 =>
  ((lcP (β := Sx) (fun (x2 : Sx) =>
  if (!(decide (x2 ∈ less.l))) = true then
  some (some x2)
  else some none) pool1 : Option (List Sx))).bind fun l3 =>
  (rngT many).bind fun xs4 =>
  ((lcS (β := Sx) (fun (x5 : Int) (s8 : (List Int) × (List Sx)) =>
  (t_law_draw s8.1 (s8.2.length : Int)).bind fun r9 =>
  (popT s8.2 r9.1).bind fun pool10 =>
  some (some pool10.1, (r9.2, pool10.2))) xs4 (bag_here, l3) : Option (List Sx × ((List Int) × (List Sx))))).bind fun l11 =>
  some ((⟨l11.1⟩ : (Tup Sx)), l11.2.1)
theorem ok_law_names (kk : Nat) {bag_here : (List Int)} {many : Int} {less : (Tup Sx)} {r : (Tup Sx) × (List Int)} (h : t_law_names bag_here many less = some r) : runN Pg0 (kk + 2) i_law_names [.ow true (enc (bag_here : (List Int))), .va (enc (many : Int)), .va (enc (less : (Tup Sx)))] = some (.dt (enc r.1), [.ow true (enc r.2), .no, .no]) := by
  refine run_ok (k := kk + 1) (fn := f_law_names) rfl rfl (g_top ?_)
  show Gq (FinQ 3 (.dt (enc r.1), [.ow true (enc r.2), .no, .no])) (blk Pg0 _ b_law_names nextM [.ow true (enc (bag_here : (List Int))), .va (enc (many : Int)), .va (enc (less : (Tup Sx))), .no, .no, .no])
  unfold t_law_names at h
  obtain ⟨pool1, h_pool1, h⟩ := bnd h
  refine g_next (env1 := [.ow true (enc (bag_here : (List Int))), .va (enc (many : Int)), .va (enc (less : (Tup Sx))), .ow false (enc (pool1 : (List Sx))), .no, .no]) (s_asg (re_nw h_pool1 (e_lst (v_cons e_cst rfl (v_cons e_cst rfl (v_cons e_cst rfl (v_cons e_cst rfl (v_cons e_cst rfl (v_cons e_cst rfl (v_cons e_cst rfl (v_cons e_cst rfl (v_cons e_cst rfl (v_cons e_cst rfl (v_cons e_cst rfl (v_cons e_cst rfl (v_cons e_cst rfl (v_cons e_cst rfl (v_cons e_cst rfl (v_cons e_cst rfl (v_cons e_cst rfl v_nil))))))))))))))))) (by decide : 17 ≤ sizeLine))) rfl rfl) ?_
  obtain ⟨l3, h_l3, h⟩ := bnd h
  refine g_next (env1 := [.ow true (enc (bag_here : (List Int))), .va (enc (many : Int)), .va (enc (less : (Tup Sx))), .ow false (enc (l3 : (List Sx))), .no, .no]) (s_asg (x_lc (Ew := [.ow true (enc (bag_here : (List Int))), .va (enc (many : Int)), .va (enc (less : (Tup Sx))), .va (enc (pool1 : (List Sx))), .no, .no]) _ (i_seq (e_sl rfl) rfl (SeqC.law _)) rfl rfl rfl h_l3 (fun x2 o ho => ⟨_, rfl, by
    rcases iteB ho with ⟨hb, ho⟩ | ⟨hb, ho⟩
    · cases ho
      exact lcb_t (c_so (e_cmp (e_var rfl) (e_var rfl) rfl rfl (notin_of (c_inXT x2 less)))) hb (e_var rfl) rfl rfl
    · cases ho
      exact lcb_f (c_so (e_cmp (e_var rfl) (e_var rfl) rfl rfl (notin_of (c_inXT x2 less)))) hb rfl⟩)) rfl rfl) ?_
  obtain ⟨xs4, h_xs4, h⟩ := bnd h
  obtain ⟨l11, h_l11, h⟩ := bnd h
  cases h
  refine g_ret (e_bi1 (x_lcS (s0 := (bag_here, l3)) _ (fun (s : (List Int) × (List Sx)) => [.ow true (enc (s.1 : (List Int))), .va (enc (many : Int)), .va (enc (less : (Tup Sx))), .ow false (enc (s.2 : (List Sx))), .no, .no]) (i_rng1 (e_var rfl) h_xs4) rfl rfl rfl h_l11 (fun x5 s8 o ho => ⟨_, rfl, by
    obtain ⟨r9, h_r9, ho⟩ := bnd ho
    obtain ⟨pool10, h_pool10, ho⟩ := bnd ho
    cases ho
    exact lcb_t c_no rfl (t_pop rfl (e_call mt_law_draw (a_consS rfl (a_consF (e_bi1 (e_sl rfl) rfl (bl_lst s8.2)) rfl a_nil)) (by decide : ([0] : List Nat).Nodup) rfl (have q := ok_law_draw (kk + 0) h_r9; q) (fun _ q => nomatch q) rfl) rfl h_pool10 rfl) rfl rfl⟩) (fun _ q => back_at (envz := [.ow true (enc (l11.2.1 : (List Int))), .va (enc (many : Int)), .va (enc (less : (Tup Sx))), .ow false (enc (l11.2.2 : (List Sx))), .no, .no]) rfl (q.trans rfl))) rfl rfl) rfl ?_
  exact rfl
def t_law_one (bag_here : (List Int)) (some' : (List Int)) : Option (Int × (List Int)) :=
  (t_law_draw bag_here (some'.length : Int)).bind fun r1 =>
  (atI some' r1.1).bind fun w2 =>
  some (w2, r1.2)
theorem ok_law_one (kk : Nat) {bag_here : (List Int)} {some' : (List Int)} {r : Int × (List Int)} (h : t_law_one bag_here some' = some r) : runN Pg0 (kk + 2) i_law_one [.ow true (enc (bag_here : (List Int))), .va (enc (some' : (List Int)))] = some (.dt (enc r.1), [.ow true (enc r.2), .no]) := by
  refine run_ok (k := kk + 1) (fn := f_law_one) rfl rfl (g_top ?_)
  show Gq (FinQ 2 (.dt (enc r.1), [.ow true (enc r.2), .no])) (blk Pg0 _ b_law_one nextM [.ow true (enc (bag_here : (List Int))), .va (enc (some' : (List Int)))])
  unfold t_law_one at h
  obtain ⟨r1, h_r1, h⟩ := bnd h
  obtain ⟨w2, h_w2, h⟩ := bnd h
  cases h
  refine g_ret (e_ix (e_var rfl) (e_call mt_law_draw (a_consS rfl (a_consF (e_bi1 (e_var rfl) rfl (bl_lst some')) rfl a_nil)) (by decide : ([0] : List Nat).Nodup) rfl (have q := ok_law_draw (kk + 0) h_r1; q) (fun _ q => nomatch q) rfl) rfl rfl (ix_lst h_w2)) rfl ?_
  exact rfl
def t_law_house (bag_here : (List Int)) (most_guests : Int) (most_rooms : Int) : Option ((Hl (Hc (Tup Sx) (Hc (Tup Sx) (Hc (Tup (Tup Sx)) Hn)))) × (List Int)) :=
  (t_law_draw bag_here most_guests).bind fun r1 =>
  (t_law_names r1.2 ((1 : Int) + r1.1) (⟨[]⟩ : (Tup Sx))).bind fun r2 =>
  (t_law_draw r2.2 most_rooms).bind fun r3 =>
  (t_law_names r3.2 ((1 : Int) + r3.1) r2.1).bind fun r4 =>
  (t_law_draw r4.2 (8 : Int)).bind fun r5 =>
  if ((decide ((0 : Int) < r5.1)) && (decide ((r4.1.l.length : Int) < (r2.1.l.length : Int)))) = true then
  (some ((⟨cutL r2.1.l none (some (r4.1.l.length : Int))⟩ : (Tup Sx)) : (Tup Sx))).bind fun guests6 =>
  (some (([] : (List (Tup Sx))) : (List (Tup Sx)))).bind fun found7 =>
  (rngT (r4.1.l.length : Int)).bind fun xs8 =>
  (foldT (σ := (List Int) × (List Sx)) (fun (x9 : Int) (s17 : (List Int) × (List Sx)) =>
  (t_law_draw s17.1 (r4.1.l.length : Int)).bind fun r18 =>
  (atI s17.2 r18.1).bind fun w19 =>
  (atI s17.2 x9).bind fun w20 =>
  (some ((w19, w20) : (Sx × Sx))).bind fun p21 =>
  (setT s17.2 x9 p21.1).bind fun order22 =>
  (setT order22 r18.1 p21.2).bind fun order23 =>
  some (r18.2, order23)) xs8 (r5.2, r4.1.l)).bind fun s24 =>
  (t_law_one s24.1 ([(2 : Int), (3 : Int), (3 : Int), (5 : Int)] : (List Int))).bind fun r25 =>
  (rngT (guests6.l.length : Int)).bind fun xs26 =>
  (foldT (σ := (List Int) × (List (Tup Sx))) (fun (x27 : Int) (s41 : (List Int) × (List (Tup Sx))) =>
  ((if (decide (x27 < (s24.2.length : Int))) = true then
  (t_law_draw s41.1 (12 : Int)).bind fun r42 =>
  some ((decide ((0 : Int) < r42.1)), r42.2)
  else some (false, s41.1) : Option (Bool × ((List Int))))).bind fun q43 =>
  ((if q43.1 = true then
  (atI s24.2 x27).bind fun w44 =>
  some (w44, ())
  else
  some (ly_, ()) : Option (Sx × (Unit)))).bind fun q45 =>
  ((lcS (β := Sx) (fun (x46 : Sx) (s49 : (List Int)) =>
  ((if (decide (x46 = q45.1)) = true then some (true, s49) else
  (t_law_draw s49 r25.1).bind fun r50 =>
  some ((decide (r50.1 = (0 : Int))), r50.2) : Option (Bool × ((List Int))))).bind fun q51 =>
  if q51.1 = true then
  some (some x46, q51.2)
  else some (none, q51.2)) r4.1.l q43.2 : Option (List Sx × ((List Int))))).bind fun l52 =>
  (appT s41.2 (⟨l52.1⟩ : (Tup Sx))).bind fun found53 =>
  some (l52.2, found53)) xs26 (r25.2, found7)).bind fun s54 =>
  some ((⟨⟨guests6, ⟨r4.1, ⟨(⟨s54.2⟩ : (Tup (Tup Sx))), ⟨⟩⟩⟩⟩⟩ : (Hl (Hc (Tup Sx) (Hc (Tup Sx) (Hc (Tup (Tup Sx)) Hn))))), s54.1)
  else
  (some (([] : (List (Tup Sx))) : (List (Tup Sx)))).bind fun found55 =>
  (rngT (r4.1.l.length : Int)).bind fun xs56 =>
  (foldT (σ := (List Int) × (List Sx)) (fun (x57 : Int) (s65 : (List Int) × (List Sx)) =>
  (t_law_draw s65.1 (r4.1.l.length : Int)).bind fun r66 =>
  (atI s65.2 r66.1).bind fun w67 =>
  (atI s65.2 x57).bind fun w68 =>
  (some ((w67, w68) : (Sx × Sx))).bind fun p69 =>
  (setT s65.2 x57 p69.1).bind fun order70 =>
  (setT order70 r66.1 p69.2).bind fun order71 =>
  some (r66.2, order71)) xs56 (r5.2, r4.1.l)).bind fun s72 =>
  (t_law_one s72.1 ([(2 : Int), (3 : Int), (3 : Int), (5 : Int)] : (List Int))).bind fun r73 =>
  (rngT (r2.1.l.length : Int)).bind fun xs74 =>
  (foldT (σ := (List Int) × (List (Tup Sx))) (fun (x75 : Int) (s89 : (List Int) × (List (Tup Sx))) =>
  ((if (decide (x75 < (s72.2.length : Int))) = true then
  (t_law_draw s89.1 (12 : Int)).bind fun r90 =>
  some ((decide ((0 : Int) < r90.1)), r90.2)
  else some (false, s89.1) : Option (Bool × ((List Int))))).bind fun q91 =>
  ((if q91.1 = true then
  (atI s72.2 x75).bind fun w92 =>
  some (w92, ())
  else
  some (ly_, ()) : Option (Sx × (Unit)))).bind fun q93 =>
  ((lcS (β := Sx) (fun (x94 : Sx) (s97 : (List Int)) =>
  ((if (decide (x94 = q93.1)) = true then some (true, s97) else
  (t_law_draw s97 r73.1).bind fun r98 =>
  some ((decide (r98.1 = (0 : Int))), r98.2) : Option (Bool × ((List Int))))).bind fun q99 =>
  if q99.1 = true then
  some (some x94, q99.2)
  else some (none, q99.2)) r4.1.l q91.2 : Option (List Sx × ((List Int))))).bind fun l100 =>
  (appT s89.2 (⟨l100.1⟩ : (Tup Sx))).bind fun found101 =>
  some (l100.2, found101)) xs74 (r73.2, found55)).bind fun s102 =>
  some ((⟨⟨r2.1, ⟨r4.1, ⟨(⟨s102.2⟩ : (Tup (Tup Sx))), ⟨⟩⟩⟩⟩⟩ : (Hl (Hc (Tup Sx) (Hc (Tup Sx) (Hc (Tup (Tup Sx)) Hn))))), s102.1)
theorem ok_law_house (kk : Nat) {bag_here : (List Int)} {most_guests : Int} {most_rooms : Int} {r : (Hl (Hc (Tup Sx) (Hc (Tup Sx) (Hc (Tup (Tup Sx)) Hn)))) × (List Int)} (h : t_law_house bag_here most_guests most_rooms = some r) : runN Pg0 (kk + 3) i_law_house [.ow true (enc (bag_here : (List Int))), .va (enc (most_guests : Int)), .va (enc (most_rooms : Int))] = some (.nw (enc r.1), [.ow true (enc r.2), .no, .no]) := by
  refine run_ok (k := kk + 2) (fn := f_law_house) rfl rfl (g_top ?_)
  show Gq (FinQ 3 (.nw (enc r.1), [.ow true (enc r.2), .no, .no])) (blk Pg0 _ b_law_house nextM [.ow true (enc (bag_here : (List Int))), .va (enc (most_guests : Int)), .va (enc (most_rooms : Int)), .no, .no, .no, .no, .no, .no, .no, .no, .no])
  unfold t_law_house at h
  obtain ⟨r1, h_r1, h⟩ := bnd h
  obtain ⟨r2, h_r2, h⟩ := bnd h
  refine g_next (env1 := [.ow true (enc (r2.2 : (List Int))), .va (enc (most_guests : Int)), .va (enc (most_rooms : Int)), .va (enc (r2.1 : (Tup Sx))), .no, .no, .no, .no, .no, .no, .no, .no]) (s_asg (e_call mt_law_names (a_consS rfl (a_consF (e_bin e_cst (e_call mt_law_draw (a_consS rfl (a_consF (e_var rfl) rfl a_nil)) (by decide : ([0] : List Nat).Nodup) rfl (have q := ok_law_draw (kk + 1) h_r1; q) (fun _ q => nomatch q) rfl) rfl rfl rfl) rfl (a_consF (e_tup v_nil (by decide : 0 ≤ sizeLine)) rfl a_nil))) (by decide : ([0] : List Nat).Nodup) rfl (have q := ok_law_names (kk + 0) h_r2; q) (fun _ q => nomatch q) rfl) rfl rfl) ?_
  obtain ⟨r3, h_r3, h⟩ := bnd h
  obtain ⟨r4, h_r4, h⟩ := bnd h
  refine g_next (env1 := [.ow true (enc (r4.2 : (List Int))), .va (enc (most_guests : Int)), .va (enc (most_rooms : Int)), .va (enc (r2.1 : (Tup Sx))), .va (enc (r4.1 : (Tup Sx))), .no, .no, .no, .no, .no, .no, .no]) (s_asg (e_call mt_law_names (a_consS rfl (a_consF (e_bin e_cst (e_call mt_law_draw (a_consS rfl (a_consF (e_var rfl) rfl a_nil)) (by decide : ([0] : List Nat).Nodup) rfl (have q := ok_law_draw (kk + 1) h_r3; q) (fun _ q => nomatch q) rfl) rfl rfl rfl) rfl (a_consF (e_var rfl) rfl a_nil))) (by decide : ([0] : List Nat).Nodup) rfl (have q := ok_law_names (kk + 0) h_r4; q) (fun _ q => nomatch q) rfl) rfl rfl) ?_
  obtain ⟨r5, h_r5, h⟩ := bnd h
  rcases iteB h with ⟨hc, h⟩ | ⟨hc, h⟩
  · refine g_iteT (e_andP (e_cmp (e_call mt_law_draw (a_consS rfl (a_consF e_cst rfl a_nil)) (by decide : ([0] : List Nat).Nodup) rfl (have q := ok_law_draw (kk + 1) h_r5; q) (fun _ q => nomatch q) rfl) e_cst rfl rfl rfl) (e_cmp (e_bi1 (e_var rfl) rfl (bl_tup r4.1)) (e_bi1 (e_var rfl) rfl (bl_tup r2.1)) rfl rfl rfl)) hc ?_
    obtain ⟨guests6, h_guests6, h⟩ := bnd h
    refine g_next (env1 := [.ow true (enc (r5.2 : (List Int))), .va (enc (most_guests : Int)), .va (enc (most_rooms : Int)), .va (enc (guests6 : (Tup Sx))), .va (enc (r4.1 : (Tup Sx))), .no, .no, .no, .no, .no, .no, .no]) (s_asg (re_dt h_guests6 (e_sli (e_var rfl) o_no (o_so (e_bi1 (e_var rfl) rfl (bl_tup r4.1))) rfl (sTup.law rfl))) rfl rfl) ?_
    refine g_nil ?_
    obtain ⟨found7, h_found7, h⟩ := bnd h
    refine g_next (env1 := [.ow true (enc (r5.2 : (List Int))), .va (enc (most_guests : Int)), .va (enc (most_rooms : Int)), .va (enc (guests6 : (Tup Sx))), .va (enc (r4.1 : (Tup Sx))), .no, .no, .ow false (enc (r4.1.l : (List Sx))), .ow false (enc (found7 : (List (Tup Sx)))), .no, .no, .no]) (s_par (r_cons (e_bi1 (e_var rfl) rfl rfl) rfl (r_cons (re_nw h_found7 (e_lst v_nil (by decide : 0 ≤ sizeLine))) rfl r_nil)) rfl) ?_
    obtain ⟨xs8, h_xs8, h⟩ := bnd h
    obtain ⟨s24, h_s24, h⟩ := bnd h
    refine g_fold (s0 := (r5.2, r4.1.l)) _ (fun (s17 : (List Int) × (List Sx)) => [.ow true (enc (s17.1 : (List Int))), .va (enc (most_guests : Int)), .va (enc (most_rooms : Int)), .va (enc (guests6 : (Tup Sx))), .va (enc (r4.1 : (Tup Sx))), .no, .no, .ow false (enc (s17.2 : (List Sx))), .ow false (enc (found7 : (List (Tup Sx)))), .no, .no, .no]) (i_rng1 (e_bi1 (e_var rfl) rfl (bl_tup r4.1)) h_xs8) rfl rfl h_s24 ?_ ?_
    · intro x9 s17 o ho
      refine ⟨_, rfl, g_body ?_⟩
      obtain ⟨r18, h_r18, ho⟩ := bnd ho
      refine g_next (env1 := [.ow true (enc (r18.2 : (List Int))), .va (enc (most_guests : Int)), .va (enc (most_rooms : Int)), .va (enc (guests6 : (Tup Sx))), .va (enc (r4.1 : (Tup Sx))), .va (enc (x9 : Int)), .no, .ow false (enc (s17.2 : (List Sx))), .ow false (enc (found7 : (List (Tup Sx)))), .va (enc (r18.1 : Int)), .no, .no]) (s_asg (e_call mt_law_draw (a_consS rfl (a_consF (e_bi1 (e_var rfl) rfl (bl_tup r4.1)) rfl a_nil)) (by decide : ([0] : List Nat).Nodup) rfl (have q := ok_law_draw (kk + 1) h_r18; q) (fun _ q => nomatch q) rfl) rfl rfl) ?_
      obtain ⟨w19, h_w19, ho⟩ := bnd ho
      obtain ⟨w20, h_w20, ho⟩ := bnd ho
      obtain ⟨p21, h_p21, ho⟩ := bnd ho
      obtain ⟨order22, h_order22, ho⟩ := bnd ho
      obtain ⟨order23, h_order23, ho⟩ := bnd ho
      refine g_next (env1 := [.ow true (enc (r18.2 : (List Int))), .va (enc (most_guests : Int)), .va (enc (most_rooms : Int)), .va (enc (guests6 : (Tup Sx))), .va (enc (r4.1 : (Tup Sx))), .va (enc (x9 : Int)), .no, .ow false (enc (order23 : (List Sx))), .ow false (enc (found7 : (List (Tup Sx)))), .va (enc (r18.1 : Int)), .no, .no]) (s_asgT (re_dt h_p21 (e_tup (v_cons (e_ix (e_sl rfl) (e_var rfl) rfl rfl (ix_lst h_w19)) rfl (v_cons (e_ix (e_sl rfl) (e_var rfl) rfl rfl (ix_lst h_w20)) rfl v_nil)) (by decide : 2 ≤ sizeLine))) rfl (t_ix (u := p21.1) rfl (e_var rfl) rfl h_order22 rfl (t_ix (u := p21.2) rfl (e_var rfl) rfl h_order23 rfl t_nil))) ?_
      cases ho
      refine g_nil ?_
      exact ⟨_, _, rfl, .inl rfl, rfl⟩
    obtain ⟨r25, h_r25, h⟩ := bnd h
    refine g_next (env1 := [.ow true (enc (r25.2 : (List Int))), .va (enc (most_guests : Int)), .va (enc (most_rooms : Int)), .va (enc (guests6 : (Tup Sx))), .va (enc (r4.1 : (Tup Sx))), .no, .va (enc (r25.1 : Int)), .ow false (enc (s24.2 : (List Sx))), .ow false (enc (found7 : (List (Tup Sx)))), .no, .no, .no]) (s_asg (e_call mt_law_one (a_consS rfl (a_consF (e_lst (v_cons e_cst rfl (v_cons e_cst rfl (v_cons e_cst rfl (v_cons e_cst rfl v_nil)))) (by decide : 4 ≤ sizeLine)) rfl a_nil)) (by decide : ([0] : List Nat).Nodup) rfl (have q := ok_law_one (kk + 0) h_r25; q) (fun _ q => nomatch q) rfl) rfl rfl) ?_
    obtain ⟨xs26, h_xs26, h⟩ := bnd h
    obtain ⟨s54, h_s54, h⟩ := bnd h
    refine g_fold (s0 := (r25.2, found7)) _ (fun (s41 : (List Int) × (List (Tup Sx))) => [.ow true (enc (s41.1 : (List Int))), .va (enc (most_guests : Int)), .va (enc (most_rooms : Int)), .va (enc (guests6 : (Tup Sx))), .va (enc (r4.1 : (Tup Sx))), .no, .va (enc (r25.1 : Int)), .ow false (enc (s24.2 : (List Sx))), .ow false (enc (s41.2 : (List (Tup Sx)))), .no, .no, .no]) (i_rng1 (e_bi1 (e_var rfl) rfl (bl_tup guests6)) h_xs26) rfl rfl h_s54 ?_ ?_
    · intro x27 s41 o ho
      refine ⟨_, rfl, g_body ?_⟩
      obtain ⟨q43, h_q43, ho⟩ := bnd ho
      obtain ⟨q45, h_q45, ho⟩ := bnd ho
      refine g_next (env1 := [.ow true (enc (q43.2 : (List Int))), .va (enc (most_guests : Int)), .va (enc (most_rooms : Int)), .va (enc (guests6 : (Tup Sx))), .va (enc (r4.1 : (Tup Sx))), .va (enc (x27 : Int)), .va (enc (r25.1 : Int)), .ow false (enc (s24.2 : (List Sx))), .ow false (enc (s41.2 : (List (Tup Sx)))), .no, .va (enc (q45.1 : Sx)), .no]) (s_asg (e_ifeT (α := Sx) (s0 := ()) (fun (s : Unit) => [.ow true (enc (q43.2 : (List Int))), .va (enc (most_guests : Int)), .va (enc (most_rooms : Int)), .va (enc (guests6 : (Tup Sx))), .va (enc (r4.1 : (Tup Sx))), .va (enc (x27 : Int)), .va (enc (r25.1 : Int)), .ow false (enc (s24.2 : (List Sx))), .ow false (enc (s41.2 : (List (Tup Sx)))), .no, .no, .no]) (e_andT (s0 := s41.1) (fun (s : (List Int)) => [.ow true (enc (s : (List Int))), .va (enc (most_guests : Int)), .va (enc (most_rooms : Int)), .va (enc (guests6 : (Tup Sx))), .va (enc (r4.1 : (Tup Sx))), .va (enc (x27 : Int)), .va (enc (r25.1 : Int)), .ow false (enc (s24.2 : (List Sx))), .ow false (enc (s41.2 : (List (Tup Sx)))), .no, .no, .no]) (e_cmp (e_var rfl) (e_bi1 (e_sl rfl) rfl (bl_lst s24.2)) rfl rfl rfl) h_q43 (fun q hq => by
        obtain ⟨r42, h_r42, hq⟩ := bnd hq
        cases hq
        exact (e_cmp (e_call mt_law_draw (a_consS rfl (a_consF e_cst rfl a_nil)) (by decide : ([0] : List Nat).Nodup) rfl (have q := ok_law_draw (kk + 1) h_r42; q) (fun _ q => nomatch q) rfl) e_cst rfl rfl rfl))) h_q45 (fun q hq => by
        obtain ⟨w44, h_w44, hq⟩ := bnd hq
        cases hq
        exact (e_ix (e_sl rfl) (e_var rfl) rfl rfl (ix_lst h_w44))) (fun q hq => by
        cases hq
        exact e_cst)) rfl rfl) ?_
      obtain ⟨l52, h_l52, ho⟩ := bnd ho
      obtain ⟨found53, h_found53, ho⟩ := bnd ho
      refine g_next (env1 := [.ow true (enc (l52.2 : (List Int))), .va (enc (most_guests : Int)), .va (enc (most_rooms : Int)), .va (enc (guests6 : (Tup Sx))), .va (enc (r4.1 : (Tup Sx))), .va (enc (x27 : Int)), .va (enc (r25.1 : Int)), .ow false (enc (s24.2 : (List Sx))), .ow false (enc (found53 : (List (Tup Sx)))), .no, .va (enc (q45.1 : Sx)), .no]) (s_ex (t_append (u := ((⟨l52.1⟩ : (Tup Sx)) : (Tup Sx))) rfl (e_bi1 (x_lcS (s0 := q43.2) _ (fun (s : (List Int)) => [.ow true (enc (s : (List Int))), .va (enc (most_guests : Int)), .va (enc (most_rooms : Int)), .va (enc (guests6 : (Tup Sx))), .va (enc (r4.1 : (Tup Sx))), .va (enc (x27 : Int)), .va (enc (r25.1 : Int)), .ow false (enc (s24.2 : (List Sx))), .ow false (enc (s41.2 : (List (Tup Sx)))), .no, .va (enc (q45.1 : Sx)), .no]) (i_seq (e_var rfl) rfl (SeqC.law _)) rfl rfl rfl h_l52 (fun x46 s49 o ho => ⟨_, rfl, by
        obtain ⟨q51, h_q51, ho⟩ := bnd ho
        rcases iteB ho with ⟨hb, ho⟩ | ⟨hb, ho⟩
        · cases ho
          exact lcb_t (c_so (e_orT (s0 := s49) (fun (s : (List Int)) => [.ow true (enc (s : (List Int))), .va (enc (most_guests : Int)), .va (enc (most_rooms : Int)), .va (enc (guests6 : (Tup Sx))), .va (enc (r4.1 : (Tup Sx))), .va (enc (x27 : Int)), .va (enc (r25.1 : Int)), .ow false (enc (s24.2 : (List Sx))), .ow false (enc (s41.2 : (List (Tup Sx)))), .no, .va (enc (q45.1 : Sx)), .va (enc (x46 : Sx))]) (e_cmp (e_var rfl) (e_var rfl) rfl rfl (c_eq (α := Sx) (by decide) x46 q45.1)) h_q51 (fun q hq => by
            obtain ⟨r50, h_r50, hq⟩ := bnd hq
            cases hq
            exact (e_cmp (e_call mt_law_draw (a_consS rfl (a_consF (e_var rfl) rfl a_nil)) (by decide : ([0] : List Nat).Nodup) rfl (have q := ok_law_draw (kk + 1) h_r50; q) (fun _ q => nomatch q) rfl) e_cst rfl rfl (c_eq (α := Int) (by decide) r50.1 (0 : Int)))))) hb (e_var rfl) rfl rfl
        · cases ho
          exact lcb_f (c_so (e_orT (s0 := s49) (fun (s : (List Int)) => [.ow true (enc (s : (List Int))), .va (enc (most_guests : Int)), .va (enc (most_rooms : Int)), .va (enc (guests6 : (Tup Sx))), .va (enc (r4.1 : (Tup Sx))), .va (enc (x27 : Int)), .va (enc (r25.1 : Int)), .ow false (enc (s24.2 : (List Sx))), .ow false (enc (s41.2 : (List (Tup Sx)))), .no, .va (enc (q45.1 : Sx)), .va (enc (x46 : Sx))]) (e_cmp (e_var rfl) (e_var rfl) rfl rfl (c_eq (α := Sx) (by decide) x46 q45.1)) h_q51 (fun q hq => by
            obtain ⟨r50, h_r50, hq⟩ := bnd hq
            cases hq
            exact (e_cmp (e_call mt_law_draw (a_consS rfl (a_consF (e_var rfl) rfl a_nil)) (by decide : ([0] : List Nat).Nodup) rfl (have q := ok_law_draw (kk + 1) h_r50; q) (fun _ q => nomatch q) rfl) e_cst rfl rfl (c_eq (α := Int) (by decide) r50.1 (0 : Int)))))) hb rfl⟩) (fun _ q => back_at (envz := [.ow true (enc (l52.2 : (List Int))), .va (enc (most_guests : Int)), .va (enc (most_rooms : Int)), .va (enc (guests6 : (Tup Sx))), .va (enc (r4.1 : (Tup Sx))), .va (enc (x27 : Int)), .va (enc (r25.1 : Int)), .ow false (enc (s24.2 : (List Sx))), .ow false (enc (s41.2 : (List (Tup Sx)))), .no, .va (enc (q45.1 : Sx)), .no]) rfl (q.trans rfl))) rfl rfl) rfl rfl h_found53 rfl)) ?_
      cases ho
      refine g_nil ?_
      exact ⟨_, _, rfl, .inl rfl, rfl⟩
    cases h
    refine g_ret (e_lst (v_cons (e_var rfl) rfl (v_cons (e_var rfl) rfl (v_cons (e_bi1 (e_sl rfl) rfl rfl) rfl v_nil))) (by decide : 3 ≤ sizeLine)) rfl ?_
    exact rfl
  · refine g_iteF (e_andP (e_cmp (e_call mt_law_draw (a_consS rfl (a_consF e_cst rfl a_nil)) (by decide : ([0] : List Nat).Nodup) rfl (have q := ok_law_draw (kk + 1) h_r5; q) (fun _ q => nomatch q) rfl) e_cst rfl rfl rfl) (e_cmp (e_bi1 (e_var rfl) rfl (bl_tup r4.1)) (e_bi1 (e_var rfl) rfl (bl_tup r2.1)) rfl rfl rfl)) hc ?_
    refine g_nil ?_
    obtain ⟨found55, h_found55, h⟩ := bnd h
    refine g_next (env1 := [.ow true (enc (r5.2 : (List Int))), .va (enc (most_guests : Int)), .va (enc (most_rooms : Int)), .va (enc (r2.1 : (Tup Sx))), .va (enc (r4.1 : (Tup Sx))), .no, .no, .ow false (enc (r4.1.l : (List Sx))), .ow false (enc (found55 : (List (Tup Sx)))), .no, .no, .no]) (s_par (r_cons (e_bi1 (e_var rfl) rfl rfl) rfl (r_cons (re_nw h_found55 (e_lst v_nil (by decide : 0 ≤ sizeLine))) rfl r_nil)) rfl) ?_
    obtain ⟨xs56, h_xs56, h⟩ := bnd h
    obtain ⟨s72, h_s72, h⟩ := bnd h
    refine g_fold (s0 := (r5.2, r4.1.l)) _ (fun (s65 : (List Int) × (List Sx)) => [.ow true (enc (s65.1 : (List Int))), .va (enc (most_guests : Int)), .va (enc (most_rooms : Int)), .va (enc (r2.1 : (Tup Sx))), .va (enc (r4.1 : (Tup Sx))), .no, .no, .ow false (enc (s65.2 : (List Sx))), .ow false (enc (found55 : (List (Tup Sx)))), .no, .no, .no]) (i_rng1 (e_bi1 (e_var rfl) rfl (bl_tup r4.1)) h_xs56) rfl rfl h_s72 ?_ ?_
    · intro x57 s65 o ho
      refine ⟨_, rfl, g_body ?_⟩
      obtain ⟨r66, h_r66, ho⟩ := bnd ho
      refine g_next (env1 := [.ow true (enc (r66.2 : (List Int))), .va (enc (most_guests : Int)), .va (enc (most_rooms : Int)), .va (enc (r2.1 : (Tup Sx))), .va (enc (r4.1 : (Tup Sx))), .va (enc (x57 : Int)), .no, .ow false (enc (s65.2 : (List Sx))), .ow false (enc (found55 : (List (Tup Sx)))), .va (enc (r66.1 : Int)), .no, .no]) (s_asg (e_call mt_law_draw (a_consS rfl (a_consF (e_bi1 (e_var rfl) rfl (bl_tup r4.1)) rfl a_nil)) (by decide : ([0] : List Nat).Nodup) rfl (have q := ok_law_draw (kk + 1) h_r66; q) (fun _ q => nomatch q) rfl) rfl rfl) ?_
      obtain ⟨w67, h_w67, ho⟩ := bnd ho
      obtain ⟨w68, h_w68, ho⟩ := bnd ho
      obtain ⟨p69, h_p69, ho⟩ := bnd ho
      obtain ⟨order70, h_order70, ho⟩ := bnd ho
      obtain ⟨order71, h_order71, ho⟩ := bnd ho
      refine g_next (env1 := [.ow true (enc (r66.2 : (List Int))), .va (enc (most_guests : Int)), .va (enc (most_rooms : Int)), .va (enc (r2.1 : (Tup Sx))), .va (enc (r4.1 : (Tup Sx))), .va (enc (x57 : Int)), .no, .ow false (enc (order71 : (List Sx))), .ow false (enc (found55 : (List (Tup Sx)))), .va (enc (r66.1 : Int)), .no, .no]) (s_asgT (re_dt h_p69 (e_tup (v_cons (e_ix (e_sl rfl) (e_var rfl) rfl rfl (ix_lst h_w67)) rfl (v_cons (e_ix (e_sl rfl) (e_var rfl) rfl rfl (ix_lst h_w68)) rfl v_nil)) (by decide : 2 ≤ sizeLine))) rfl (t_ix (u := p69.1) rfl (e_var rfl) rfl h_order70 rfl (t_ix (u := p69.2) rfl (e_var rfl) rfl h_order71 rfl t_nil))) ?_
      cases ho
      refine g_nil ?_
      exact ⟨_, _, rfl, .inl rfl, rfl⟩
    obtain ⟨r73, h_r73, h⟩ := bnd h
    refine g_next (env1 := [.ow true (enc (r73.2 : (List Int))), .va (enc (most_guests : Int)), .va (enc (most_rooms : Int)), .va (enc (r2.1 : (Tup Sx))), .va (enc (r4.1 : (Tup Sx))), .no, .va (enc (r73.1 : Int)), .ow false (enc (s72.2 : (List Sx))), .ow false (enc (found55 : (List (Tup Sx)))), .no, .no, .no]) (s_asg (e_call mt_law_one (a_consS rfl (a_consF (e_lst (v_cons e_cst rfl (v_cons e_cst rfl (v_cons e_cst rfl (v_cons e_cst rfl v_nil)))) (by decide : 4 ≤ sizeLine)) rfl a_nil)) (by decide : ([0] : List Nat).Nodup) rfl (have q := ok_law_one (kk + 0) h_r73; q) (fun _ q => nomatch q) rfl) rfl rfl) ?_
    obtain ⟨xs74, h_xs74, h⟩ := bnd h
    obtain ⟨s102, h_s102, h⟩ := bnd h
    refine g_fold (s0 := (r73.2, found55)) _ (fun (s89 : (List Int) × (List (Tup Sx))) => [.ow true (enc (s89.1 : (List Int))), .va (enc (most_guests : Int)), .va (enc (most_rooms : Int)), .va (enc (r2.1 : (Tup Sx))), .va (enc (r4.1 : (Tup Sx))), .no, .va (enc (r73.1 : Int)), .ow false (enc (s72.2 : (List Sx))), .ow false (enc (s89.2 : (List (Tup Sx)))), .no, .no, .no]) (i_rng1 (e_bi1 (e_var rfl) rfl (bl_tup r2.1)) h_xs74) rfl rfl h_s102 ?_ ?_
    · intro x75 s89 o ho
      refine ⟨_, rfl, g_body ?_⟩
      obtain ⟨q91, h_q91, ho⟩ := bnd ho
      obtain ⟨q93, h_q93, ho⟩ := bnd ho
      refine g_next (env1 := [.ow true (enc (q91.2 : (List Int))), .va (enc (most_guests : Int)), .va (enc (most_rooms : Int)), .va (enc (r2.1 : (Tup Sx))), .va (enc (r4.1 : (Tup Sx))), .va (enc (x75 : Int)), .va (enc (r73.1 : Int)), .ow false (enc (s72.2 : (List Sx))), .ow false (enc (s89.2 : (List (Tup Sx)))), .no, .va (enc (q93.1 : Sx)), .no]) (s_asg (e_ifeT (α := Sx) (s0 := ()) (fun (s : Unit) => [.ow true (enc (q91.2 : (List Int))), .va (enc (most_guests : Int)), .va (enc (most_rooms : Int)), .va (enc (r2.1 : (Tup Sx))), .va (enc (r4.1 : (Tup Sx))), .va (enc (x75 : Int)), .va (enc (r73.1 : Int)), .ow false (enc (s72.2 : (List Sx))), .ow false (enc (s89.2 : (List (Tup Sx)))), .no, .no, .no]) (e_andT (s0 := s89.1) (fun (s : (List Int)) => [.ow true (enc (s : (List Int))), .va (enc (most_guests : Int)), .va (enc (most_rooms : Int)), .va (enc (r2.1 : (Tup Sx))), .va (enc (r4.1 : (Tup Sx))), .va (enc (x75 : Int)), .va (enc (r73.1 : Int)), .ow false (enc (s72.2 : (List Sx))), .ow false (enc (s89.2 : (List (Tup Sx)))), .no, .no, .no]) (e_cmp (e_var rfl) (e_bi1 (e_sl rfl) rfl (bl_lst s72.2)) rfl rfl rfl) h_q91 (fun q hq => by
        obtain ⟨r90, h_r90, hq⟩ := bnd hq
        cases hq
        exact (e_cmp (e_call mt_law_draw (a_consS rfl (a_consF e_cst rfl a_nil)) (by decide : ([0] : List Nat).Nodup) rfl (have q := ok_law_draw (kk + 1) h_r90; q) (fun _ q => nomatch q) rfl) e_cst rfl rfl rfl))) h_q93 (fun q hq => by
        obtain ⟨w92, h_w92, hq⟩ := bnd hq
        cases hq
        exact (e_ix (e_sl rfl) (e_var rfl) rfl rfl (ix_lst h_w92))) (fun q hq => by
        cases hq
        exact e_cst)) rfl rfl) ?_
      obtain ⟨l100, h_l100, ho⟩ := bnd ho
      obtain ⟨found101, h_found101, ho⟩ := bnd ho
      refine g_next (env1 := [.ow true (enc (l100.2 : (List Int))), .va (enc (most_guests : Int)), .va (enc (most_rooms : Int)), .va (enc (r2.1 : (Tup Sx))), .va (enc (r4.1 : (Tup Sx))), .va (enc (x75 : Int)), .va (enc (r73.1 : Int)), .ow false (enc (s72.2 : (List Sx))), .ow false (enc (found101 : (List (Tup Sx)))), .no, .va (enc (q93.1 : Sx)), .no]) (s_ex (t_append (u := ((⟨l100.1⟩ : (Tup Sx)) : (Tup Sx))) rfl (e_bi1 (x_lcS (s0 := q91.2) _ (fun (s : (List Int)) => [.ow true (enc (s : (List Int))), .va (enc (most_guests : Int)), .va (enc (most_rooms : Int)), .va (enc (r2.1 : (Tup Sx))), .va (enc (r4.1 : (Tup Sx))), .va (enc (x75 : Int)), .va (enc (r73.1 : Int)), .ow false (enc (s72.2 : (List Sx))), .ow false (enc (s89.2 : (List (Tup Sx)))), .no, .va (enc (q93.1 : Sx)), .no]) (i_seq (e_var rfl) rfl (SeqC.law _)) rfl rfl rfl h_l100 (fun x94 s97 o ho => ⟨_, rfl, by
        obtain ⟨q99, h_q99, ho⟩ := bnd ho
        rcases iteB ho with ⟨hb, ho⟩ | ⟨hb, ho⟩
        · cases ho
          exact lcb_t (c_so (e_orT (s0 := s97) (fun (s : (List Int)) => [.ow true (enc (s : (List Int))), .va (enc (most_guests : Int)), .va (enc (most_rooms : Int)), .va (enc (r2.1 : (Tup Sx))), .va (enc (r4.1 : (Tup Sx))), .va (enc (x75 : Int)), .va (enc (r73.1 : Int)), .ow false (enc (s72.2 : (List Sx))), .ow false (enc (s89.2 : (List (Tup Sx)))), .no, .va (enc (q93.1 : Sx)), .va (enc (x94 : Sx))]) (e_cmp (e_var rfl) (e_var rfl) rfl rfl (c_eq (α := Sx) (by decide) x94 q93.1)) h_q99 (fun q hq => by
            obtain ⟨r98, h_r98, hq⟩ := bnd hq
            cases hq
            exact (e_cmp (e_call mt_law_draw (a_consS rfl (a_consF (e_var rfl) rfl a_nil)) (by decide : ([0] : List Nat).Nodup) rfl (have q := ok_law_draw (kk + 1) h_r98; q) (fun _ q => nomatch q) rfl) e_cst rfl rfl (c_eq (α := Int) (by decide) r98.1 (0 : Int)))))) hb (e_var rfl) rfl rfl
        · cases ho
          exact lcb_f (c_so (e_orT (s0 := s97) (fun (s : (List Int)) => [.ow true (enc (s : (List Int))), .va (enc (most_guests : Int)), .va (enc (most_rooms : Int)), .va (enc (r2.1 : (Tup Sx))), .va (enc (r4.1 : (Tup Sx))), .va (enc (x75 : Int)), .va (enc (r73.1 : Int)), .ow false (enc (s72.2 : (List Sx))), .ow false (enc (s89.2 : (List (Tup Sx)))), .no, .va (enc (q93.1 : Sx)), .va (enc (x94 : Sx))]) (e_cmp (e_var rfl) (e_var rfl) rfl rfl (c_eq (α := Sx) (by decide) x94 q93.1)) h_q99 (fun q hq => by
            obtain ⟨r98, h_r98, hq⟩ := bnd hq
            cases hq
            exact (e_cmp (e_call mt_law_draw (a_consS rfl (a_consF (e_var rfl) rfl a_nil)) (by decide : ([0] : List Nat).Nodup) rfl (have q := ok_law_draw (kk + 1) h_r98; q) (fun _ q => nomatch q) rfl) e_cst rfl rfl (c_eq (α := Int) (by decide) r98.1 (0 : Int)))))) hb rfl⟩) (fun _ q => back_at (envz := [.ow true (enc (l100.2 : (List Int))), .va (enc (most_guests : Int)), .va (enc (most_rooms : Int)), .va (enc (r2.1 : (Tup Sx))), .va (enc (r4.1 : (Tup Sx))), .va (enc (x75 : Int)), .va (enc (r73.1 : Int)), .ow false (enc (s72.2 : (List Sx))), .ow false (enc (s89.2 : (List (Tup Sx)))), .no, .va (enc (q93.1 : Sx)), .no]) rfl (q.trans rfl))) rfl rfl) rfl rfl h_found101 rfl)) ?_
      cases ho
      refine g_nil ?_
      exact ⟨_, _, rfl, .inl rfl, rfl⟩
    cases h
    refine g_ret (e_lst (v_cons (e_var rfl) rfl (v_cons (e_var rfl) rfl (v_cons (e_bi1 (e_sl rfl) rfl rfl) rfl v_nil))) (by decide : 3 ≤ sizeLine)) rfl ?_
    exact rfl
def t_law_placings (parts : (Hl (Hc (Tup Sx) (Hc (Tup Sx) (Hc (Tup (Tup Sx)) Hn))))) : Option ((List (Tup Sx))) :=
  (some (([(⟨[]⟩ : (Tup Sx))] : (List (Tup Sx))) : (List (Tup Sx)))).bind fun found1 =>
  (rngT (parts.x.h.l.length : Int)).bind fun xs2 =>
  (foldT (σ := (List (Tup Sx))) (fun (x3 : Int) (s20 : (List (Tup Sx))) =>
  (some (([] : (List (Tup Sx))) : (List (Tup Sx)))).bind fun longer21 =>
  (foldT (σ := (List (Tup Sx))) (fun (x22 : (Tup Sx)) (s29 : (List (Tup Sx))) =>
  (atI parts.x.t.t.h.l x3).bind fun w30 =>
  ((lcP (β := (Tup Sx)) (fun (x31 : Sx) =>
  if (!(decide (x31 ∈ x22.l))) = true then
  (catT x22 (⟨[x31]⟩ : (Tup Sx))).bind fun t32 =>
  some (some t32)
  else some none) w30.l : Option (List (Tup Sx)))).bind fun l33 =>
  (catL s29 l33).bind fun l34 =>
  some l34) s20 longer21).bind fun s35 =>
  some s35) xs2 found1).bind fun s36 =>
  some s36
theorem ok_law_placings (kk : Nat) {parts : (Hl (Hc (Tup Sx) (Hc (Tup Sx) (Hc (Tup (Tup Sx)) Hn))))} {r : (List (Tup Sx))} (h : t_law_placings parts = some r) : runN Pg0 (kk + 1) i_law_placings [.va (enc (parts : (Hl (Hc (Tup Sx) (Hc (Tup Sx) (Hc (Tup (Tup Sx)) Hn))))))] = some (.dt (enc r), [.no]) := by
  refine run_ok (k := kk + 0) (fn := f_law_placings) rfl rfl (g_top ?_)
  show Gq (FinQ 1 (.dt (enc r), [.no])) (blk Pg0 _ b_law_placings nextM [.va (enc (parts : (Hl (Hc (Tup Sx) (Hc (Tup Sx) (Hc (Tup (Tup Sx)) Hn)))))), .no, .no, .no, .no, .no])
  unfold t_law_placings at h
  obtain ⟨found1, h_found1, h⟩ := bnd h
  refine g_next (env1 := [.va (enc (parts : (Hl (Hc (Tup Sx) (Hc (Tup Sx) (Hc (Tup (Tup Sx)) Hn)))))), .ow false (enc (found1 : (List (Tup Sx)))), .no, .no, .no, .no]) (s_asg (re_nw h_found1 (e_lst (v_cons (e_tup v_nil (by decide : 0 ≤ sizeLine)) rfl v_nil) (by decide : 1 ≤ sizeLine))) rfl rfl) ?_
  refine g_fz rfl ?_
  obtain ⟨xs2, h_xs2, h⟩ := bnd h
  obtain ⟨s36, h_s36, h⟩ := bnd h
  refine g_fold (s0 := found1) _ (fun (s20 : (List (Tup Sx))) => [.va (enc (parts : (Hl (Hc (Tup Sx) (Hc (Tup Sx) (Hc (Tup (Tup Sx)) Hn)))))), .va (enc (s20 : (List (Tup Sx)))), .no, .no, .no, .no]) (i_rng1 (e_bi1 (e_ix (e_var rfl) e_cst rfl rfl rfl) rfl (bl_tup parts.x.h)) h_xs2) rfl rfl h_s36 ?_ ?_
  · intro x3 s20 o ho
    refine ⟨_, rfl, g_body ?_⟩
    obtain ⟨longer21, h_longer21, ho⟩ := bnd ho
    refine g_next (env1 := [.va (enc (parts : (Hl (Hc (Tup Sx) (Hc (Tup Sx) (Hc (Tup (Tup Sx)) Hn)))))), .va (enc (s20 : (List (Tup Sx)))), .va (enc (x3 : Int)), .ow false (enc (longer21 : (List (Tup Sx)))), .no, .no]) (s_asg (re_nw h_longer21 (e_lst v_nil (by decide : 0 ≤ sizeLine))) rfl rfl) ?_
    obtain ⟨s35, h_s35, ho⟩ := bnd ho
    refine g_fold (s0 := longer21) _ (fun (s29 : (List (Tup Sx))) => [.va (enc (parts : (Hl (Hc (Tup Sx) (Hc (Tup Sx) (Hc (Tup (Tup Sx)) Hn)))))), .va (enc (s20 : (List (Tup Sx)))), .va (enc (x3 : Int)), .ow false (enc (s29 : (List (Tup Sx)))), .no, .no]) (i_seq (e_var rfl) rfl (SeqC.law _)) rfl rfl h_s35 ?_ ?_
    · intro x22 s29 o ho
      refine ⟨_, rfl, g_body ?_⟩
      obtain ⟨w30, h_w30, ho⟩ := bnd ho
      obtain ⟨l33, h_l33, ho⟩ := bnd ho
      obtain ⟨l34, h_l34, ho⟩ := bnd ho
      refine g_next (env1 := [.va (enc (parts : (Hl (Hc (Tup Sx) (Hc (Tup Sx) (Hc (Tup (Tup Sx)) Hn)))))), .va (enc (s20 : (List (Tup Sx)))), .va (enc (x3 : Int)), .ow false (enc (l34 : (List (Tup Sx)))), .va (enc (x22 : (Tup Sx))), .no]) (s_asg (e_bin (e_sl rfl) (x_lc (Ew := [.va (enc (parts : (Hl (Hc (Tup Sx) (Hc (Tup Sx) (Hc (Tup (Tup Sx)) Hn)))))), .va (enc (s20 : (List (Tup Sx)))), .va (enc (x3 : Int)), .ow false (enc (s29 : (List (Tup Sx)))), .va (enc (x22 : (Tup Sx))), .no]) _ (i_seq (e_ix (e_ix (e_var rfl) e_cst rfl rfl rfl) (e_var rfl) rfl rfl (ix_tup h_w30)) rfl (SeqC.law _)) rfl rfl rfl h_l33 (fun x31 o ho => ⟨_, rfl, by
        rcases iteB ho with ⟨hb, ho⟩ | ⟨hb, ho⟩
        · obtain ⟨t32, h_t32, ho⟩ := bnd ho
          cases ho
          exact lcb_t (c_so (e_cmp (e_var rfl) (e_var rfl) rfl rfl (notin_of (c_inXT x31 x22)))) hb (e_bin (e_var rfl) (e_tup (v_cons (e_var rfl) rfl v_nil) (by decide : 1 ≤ sizeLine)) rfl rfl (b_catT h_t32)) rfl rfl
        · cases ho
          exact lcb_f (c_so (e_cmp (e_var rfl) (e_var rfl) rfl rfl (notin_of (c_inXT x31 x22)))) hb rfl⟩)) rfl rfl (b_catL h_l34)) rfl rfl) ?_
      cases ho
      refine g_nil ?_
      exact ⟨_, _, rfl, .inl rfl, rfl⟩
    refine g_next (env1 := [.va (enc (parts : (Hl (Hc (Tup Sx) (Hc (Tup Sx) (Hc (Tup (Tup Sx)) Hn)))))), .va (enc (s35 : (List (Tup Sx)))), .va (enc (x3 : Int)), .va (enc (s35 : (List (Tup Sx)))), .no, .no]) (s_asg (e_sl rfl) rfl rfl) ?_
    cases ho
    refine g_nil ?_
    exact ⟨_, _, rfl, .inl rfl, rfl⟩
  cases h
  refine g_ret (e_var rfl) rfl ?_
  exact rfl
def t_is_name (value : Sx) : Option (Bool) :=
  ((if (!true) = true then some (true, ()) else
  (lenX value).bind fun n1 =>
  some (((!(decide ((1 : Int) ≤ n1) && decide (n1 ≤ (8 : Int)))) || (decide (value = lx_none))), ()) : Option (Bool × (Unit)))).bind fun q2 =>
  if q2.1 = true then
  some false
  else
  ((lcP (β := Bool) (fun (x3 : Sx) =>
  some (some (InC.f x3 lx_abcdefghijklmnopqrstuvwxyz))) (signs value) : Option (List Bool))).bind fun l4 =>
  some (l4.all id)
theorem ok_is_name (kk : Nat) {value : Sx} {r : Bool} (h : t_is_name value = some r) : runN Pg0 (kk + 1) i_is_name [.va (enc (value : Sx))] = some (.dt (enc r), [.no]) := by
  refine run_ok (k := kk + 0) (fn := f_is_name) rfl rfl (g_top ?_)
  show Gq (FinQ 1 (.dt (enc r), [.no])) (blk Pg0 _ b_is_name nextM [.va (enc (value : Sx)), .no])
  unfold t_is_name at h
  obtain ⟨q2, h_q2, h⟩ := bnd h
  rcases iteB h with ⟨hc, h⟩ | ⟨hc, h⟩
  · refine g_iteT (e_orT (s0 := ()) (fun (s : Unit) => [.va (enc (value : Sx)), .no]) (e_not (e_isi (e_var rfl) rfl cl_len rfl)) h_q2 (fun q hq => by
      obtain ⟨n1, h_n1, hq⟩ := bnd hq
      cases hq
      exact (e_orP (e_not (e_chainI e_cst (e_bi1 (e_var rfl) rfl (bl_sx h_n1)) e_cst rfl rfl)) (e_cmp (e_var rfl) e_cst rfl rfl (c_eq (α := Sx) (by decide) value lx_none))))) hc ?_
    cases h
    refine g_ret e_cst rfl ?_
    exact rfl
  · refine g_iteF (e_orT (s0 := ()) (fun (s : Unit) => [.va (enc (value : Sx)), .no]) (e_not (e_isi (e_var rfl) rfl cl_len rfl)) h_q2 (fun q hq => by
      obtain ⟨n1, h_n1, hq⟩ := bnd hq
      cases hq
      exact (e_orP (e_not (e_chainI e_cst (e_bi1 (e_var rfl) rfl (bl_sx h_n1)) e_cst rfl rfl)) (e_cmp (e_var rfl) e_cst rfl rfl (c_eq (α := Sx) (by decide) value lx_none))))) hc ?_
    refine g_nil ?_
    obtain ⟨l4, h_l4, h⟩ := bnd h
    cases h
    refine g_ret (e_bi1 (x_lc (Ew := [.va (enc (value : Sx)), .no]) _ (i_seq (e_var rfl) rfl (SeqC.law _)) rfl rfl rfl h_l4 (fun x3 o ho => ⟨_, rfl, by
      cases ho
      exact lcb_t c_no rfl (e_cmp (e_var rfl) e_cst rfl rfl (c_inXS x3 lx_abcdefghijklmnopqrstuvwxyz)) rfl rfl⟩)) rfl (bi_allT _)) rfl ?_
    exact rfl
def t_wrong_name (value : (Tup Sx)) (most : Int) (others : (Tup Sx)) : Option ((Option Int)) :=
  (forT (σ := Unit) (ρ := (Option Int)) (fun (x1 : (Int × Sx)) (s2 : Unit) =>
  ((if (decide (x1.1 = most)) = true then some (true, ()) else
  (t_is_name x1.2).bind fun r3 =>
  some (((!r3) || ((decide (x1.2 ∈ (⟨cutL value.l none (some x1.1)⟩ : (Tup Sx)).l)) || (decide (x1.2 ∈ others.l)))), ()) : Option (Bool × (Unit)))).bind fun q4 =>
  if q4.1 = true then
  some (.rt (some x1.1 : (Option Int)))
  else
  some (.nx ())) (enmL value.l) ()).bind fun o6 => match o6 with
  | .nx s5 =>
    some (none : (Option Int))
  | .bk _ => none
  | .rt r => some r
theorem ok_wrong_name (kk : Nat) {value : (Tup Sx)} {most : Int} {others : (Tup Sx)} {r : (Option Int)} (h : t_wrong_name value most others = some r) : runN Pg0 (kk + 2) i_wrong_name [.va (enc (value : (Tup Sx))), .va (enc (most : Int)), .va (enc (others : (Tup Sx)))] = some (.dt (enc r), [.no, .no, .no]) := by
  refine run_ok (k := kk + 1) (fn := f_wrong_name) rfl rfl (g_top ?_)
  show Gq (FinQ 3 (.dt (enc r), [.no, .no, .no])) (blk Pg0 _ b_wrong_name nextM [.va (enc (value : (Tup Sx))), .va (enc (most : Int)), .va (enc (others : (Tup Sx))), .no, .no])
  unfold t_wrong_name at h
  obtain ⟨o6, h_o6, h⟩ := bnd h
  refine g_for (n := 3) (s0 := ()) _ (fun (s2 : Unit) => [.va (enc (value : (Tup Sx))), .va (enc (most : Int)), .va (enc (others : (Tup Sx))), .no, .no]) (fun (r : (Option Int)) => (.dt (enc r), [.no, .no, .no])) (i_enm (e_var rfl) rfl (EnmC.law _)) rfl rfl h_o6 ?_ ?_ ?_
  · intro x1 s2 o ho
    refine ⟨_, rfl, g_body ?_⟩
    obtain ⟨q4, h_q4, ho⟩ := bnd ho
    rcases iteB ho with ⟨hc, ho⟩ | ⟨hc, ho⟩
    · refine g_iteT (e_orT (s0 := ()) (fun (s : Unit) => [.va (enc (value : (Tup Sx))), .va (enc (most : Int)), .va (enc (others : (Tup Sx))), .va (enc (x1.1 : Int)), .va (enc (x1.2 : Sx))]) (e_cmp (e_var rfl) (e_var rfl) rfl rfl (c_eq (α := Int) (by decide) x1.1 most)) h_q4 (fun q hq => by
        obtain ⟨r3, h_r3, hq⟩ := bnd hq
        cases hq
        exact (e_orP (e_not (e_call mt_is_name (a_consF (e_var rfl) rfl a_nil) (by decide : ([] : List Nat).Nodup) rfl (have q := ok_is_name (kk + 0) h_r3; q) (fun _ q => nomatch q) rfl)) (e_orP (e_cmp (e_var rfl) (e_sli (e_var rfl) o_no (o_so (e_var rfl)) rfl (sTup.law rfl)) rfl rfl (c_inXT x1.2 (⟨cutL value.l none (some x1.1)⟩ : (Tup Sx)))) (e_cmp (e_var rfl) (e_var rfl) rfl rfl (c_inXT x1.2 others)))))) hc ?_
      cases ho
      refine g_ret (e_var rfl) rfl ?_
      exact ⟨_, rfl, rfl⟩
    · refine g_iteF (e_orT (s0 := ()) (fun (s : Unit) => [.va (enc (value : (Tup Sx))), .va (enc (most : Int)), .va (enc (others : (Tup Sx))), .va (enc (x1.1 : Int)), .va (enc (x1.2 : Sx))]) (e_cmp (e_var rfl) (e_var rfl) rfl rfl (c_eq (α := Int) (by decide) x1.1 most)) h_q4 (fun q hq => by
        obtain ⟨r3, h_r3, hq⟩ := bnd hq
        cases hq
        exact (e_orP (e_not (e_call mt_is_name (a_consF (e_var rfl) rfl a_nil) (by decide : ([] : List Nat).Nodup) rfl (have q := ok_is_name (kk + 0) h_r3; q) (fun _ q => nomatch q) rfl)) (e_orP (e_cmp (e_var rfl) (e_sli (e_var rfl) o_no (o_so (e_var rfl)) rfl (sTup.law rfl)) rfl rfl (c_inXT x1.2 (⟨cutL value.l none (some x1.1)⟩ : (Tup Sx)))) (e_cmp (e_var rfl) (e_var rfl) rfl rfl (c_inXT x1.2 others)))))) hc ?_
      refine g_nil ?_
      cases ho
      refine g_nil ?_
      exact ⟨_, _, rfl, .inl rfl, rfl⟩
  · intro s5 q
    subst q
    cases h
    refine g_ret e_cst rfl ?_
    exact rfl
  · intro r q env' hcl
    subst q
    cases h
    exact fin_rt hcl
def t_check_guests (guests : (Tup Sx)) : Option (Unit) :=
  if ((!true) || (decide (guests = (⟨[]⟩ : (Tup Sx))))) = true then
  none
  else
  (t_wrong_name guests (6 : Int) (⟨[]⟩ : (Tup Sx))).bind fun r1 =>
  if r1.isSome = true then
  none
  else
  some ()
theorem ok_check_guests (kk : Nat) {guests : (Tup Sx)} {r : Unit} (h : t_check_guests guests = some r) : runN Pg0 (kk + 3) i_check_guests [.va (enc (guests : (Tup Sx)))] = some (.dt (enc r), [.no]) := by
  refine run_ok (k := kk + 2) (fn := f_check_guests) rfl rfl (g_top ?_)
  show Gq (FinQ 1 (.dt (enc r), [.no])) (blk Pg0 _ b_check_guests nextM [.va (enc (guests : (Tup Sx))), .no])
  unfold t_check_guests at h
  rcases iteB h with ⟨hc, h⟩ | ⟨hc, h⟩
  · refine g_iteT (e_orP (e_not (e_isi (e_var rfl) rfl cl_len rfl)) (e_cmp (e_var rfl) (e_tup v_nil (by decide : 0 ≤ sizeLine)) rfl rfl (c_eq (α := (Tup Sx)) (by decide) guests (⟨[]⟩ : (Tup Sx))))) hc ?_
    cases h
  · refine g_iteF (e_orP (e_not (e_isi (e_var rfl) rfl cl_len rfl)) (e_cmp (e_var rfl) (e_tup v_nil (by decide : 0 ≤ sizeLine)) rfl rfl (c_eq (α := (Tup Sx)) (by decide) guests (⟨[]⟩ : (Tup Sx))))) hc ?_
    refine g_nil ?_
    obtain ⟨r1, h_r1, h⟩ := bnd h
    refine g_next (env1 := [.va (enc (guests : (Tup Sx))), .va (enc (r1 : (Option Int)))]) (s_asg (e_call mt_wrong_name (a_consF (e_var rfl) rfl (a_consF e_cst rfl (a_consF (e_tup v_nil (by decide : 0 ≤ sizeLine)) rfl a_nil))) (by decide : ([] : List Nat).Nodup) rfl (have q := ok_wrong_name (kk + 0) h_r1; q) (fun _ q => nomatch q) rfl) rfl rfl) ?_
    rcases iteB h with ⟨hc, h⟩ | ⟨hc, h⟩
    · refine g_iteT (e_notNo (fun _ => rfl) (e_var rfl) rfl) hc ?_
      cases h
    · refine g_iteF (e_notNo (fun _ => rfl) (e_var rfl) rfl) hc ?_
      refine g_nil ?_
      cases h
      exact g_nil rfl
def t_check_rooms (rooms : (Tup Sx)) (guests : (Tup Sx)) : Option (Unit) :=
  if ((!true) || (decide (rooms = (⟨[]⟩ : (Tup Sx))))) = true then
  none
  else
  (t_wrong_name rooms (8 : Int) guests).bind fun r1 =>
  if r1.isSome = true then
  none
  else
  some ()
theorem ok_check_rooms (kk : Nat) {rooms : (Tup Sx)} {guests : (Tup Sx)} {r : Unit} (h : t_check_rooms rooms guests = some r) : runN Pg0 (kk + 3) i_check_rooms [.va (enc (rooms : (Tup Sx))), .va (enc (guests : (Tup Sx)))] = some (.dt (enc r), [.no, .no]) := by
  refine run_ok (k := kk + 2) (fn := f_check_rooms) rfl rfl (g_top ?_)
  show Gq (FinQ 2 (.dt (enc r), [.no, .no])) (blk Pg0 _ b_check_rooms nextM [.va (enc (rooms : (Tup Sx))), .va (enc (guests : (Tup Sx))), .no])
  unfold t_check_rooms at h
  rcases iteB h with ⟨hc, h⟩ | ⟨hc, h⟩
  · refine g_iteT (e_orP (e_not (e_isi (e_var rfl) rfl cl_len rfl)) (e_cmp (e_var rfl) (e_tup v_nil (by decide : 0 ≤ sizeLine)) rfl rfl (c_eq (α := (Tup Sx)) (by decide) rooms (⟨[]⟩ : (Tup Sx))))) hc ?_
    cases h
  · refine g_iteF (e_orP (e_not (e_isi (e_var rfl) rfl cl_len rfl)) (e_cmp (e_var rfl) (e_tup v_nil (by decide : 0 ≤ sizeLine)) rfl rfl (c_eq (α := (Tup Sx)) (by decide) rooms (⟨[]⟩ : (Tup Sx))))) hc ?_
    refine g_nil ?_
    obtain ⟨r1, h_r1, h⟩ := bnd h
    refine g_next (env1 := [.va (enc (rooms : (Tup Sx))), .va (enc (guests : (Tup Sx))), .va (enc (r1 : (Option Int)))]) (s_asg (e_call mt_wrong_name (a_consF (e_var rfl) rfl (a_consF e_cst rfl (a_consF (e_var rfl) rfl a_nil))) (by decide : ([] : List Nat).Nodup) rfl (have q := ok_wrong_name (kk + 0) h_r1; q) (fun _ q => nomatch q) rfl) rfl rfl) ?_
    rcases iteB h with ⟨hc, h⟩ | ⟨hc, h⟩
    · refine g_iteT (e_notNo (fun _ => rfl) (e_var rfl) rfl) hc ?_
      cases h
    · refine g_iteF (e_notNo (fun _ => rfl) (e_var rfl) rfl) hc ?_
      refine g_nil ?_
      cases h
      exact g_nil rfl
def t_is_ascending (value : (Tup Sx)) (names : (Tup Sx)) : Option (Bool) :=
  ((if (!true) = true then some (true, ()) else
  ((lcP (β := Bool) (fun (x1 : Sx) =>
  some (some (true && (decide (x1 ∈ names.l))))) value.l : Option (List Bool))).bind fun l2 =>
  some ((!(l2.all id)), ()) : Option (Bool × (Unit)))).bind fun q3 =>
  if q3.1 = true then
  some false
  else
  ((lcP (β := Int) (fun (x4 : Sx) =>
  (indexX names x4).bind fun n5 =>
  some (some n5)) value.l : Option (List Int))).bind fun l6 =>
  (rngT ((l6.length : Int) - (1 : Int))).bind fun xs7 =>
  ((lcP (β := Bool) (fun (x8 : Int) =>
  (atI l6 x8).bind fun w9 =>
  (atI l6 (x8 + (1 : Int))).bind fun w10 =>
  some (some (decide (w9 < w10)))) xs7 : Option (List Bool))).bind fun l11 =>
  some (l11.all id)
theorem ok_is_ascending (kk : Nat) {value : (Tup Sx)} {names : (Tup Sx)} {r : Bool} (h : t_is_ascending value names = some r) : runN Pg0 (kk + 1) i_is_ascending [.va (enc (value : (Tup Sx))), .va (enc (names : (Tup Sx)))] = some (.dt (enc r), [.no, .no]) := by
  refine run_ok (k := kk + 0) (fn := f_is_ascending) rfl rfl (g_top ?_)
  show Gq (FinQ 2 (.dt (enc r), [.no, .no])) (blk Pg0 _ b_is_ascending nextM [.va (enc (value : (Tup Sx))), .va (enc (names : (Tup Sx))), .no, .no, .no])
  unfold t_is_ascending at h
  obtain ⟨q3, h_q3, h⟩ := bnd h
  rcases iteB h with ⟨hc, h⟩ | ⟨hc, h⟩
  · refine g_iteT (e_orT (s0 := ()) (fun (s : Unit) => [.va (enc (value : (Tup Sx))), .va (enc (names : (Tup Sx))), .no, .no, .no]) (e_not (e_isi (e_var rfl) rfl cl_len rfl)) h_q3 (fun q hq => by
      obtain ⟨l2, h_l2, hq⟩ := bnd hq
      cases hq
      exact (e_not (e_bi1 (x_lc (Ew := [.va (enc (value : (Tup Sx))), .va (enc (names : (Tup Sx))), .no, .no, .no]) _ (i_seq (e_var rfl) rfl (SeqC.law _)) rfl rfl rfl h_l2 (fun x1 o ho => ⟨_, rfl, by
        cases ho
        exact lcb_t c_no rfl (e_andP (e_isi (e_var rfl) rfl cl_len rfl) (e_cmp (e_var rfl) (e_var rfl) rfl rfl (c_inXT x1 names))) rfl rfl⟩)) rfl (bi_allT _))))) hc ?_
    cases h
    refine g_ret e_cst rfl ?_
    exact rfl
  · refine g_iteF (e_orT (s0 := ()) (fun (s : Unit) => [.va (enc (value : (Tup Sx))), .va (enc (names : (Tup Sx))), .no, .no, .no]) (e_not (e_isi (e_var rfl) rfl cl_len rfl)) h_q3 (fun q hq => by
      obtain ⟨l2, h_l2, hq⟩ := bnd hq
      cases hq
      exact (e_not (e_bi1 (x_lc (Ew := [.va (enc (value : (Tup Sx))), .va (enc (names : (Tup Sx))), .no, .no, .no]) _ (i_seq (e_var rfl) rfl (SeqC.law _)) rfl rfl rfl h_l2 (fun x1 o ho => ⟨_, rfl, by
        cases ho
        exact lcb_t c_no rfl (e_andP (e_isi (e_var rfl) rfl cl_len rfl) (e_cmp (e_var rfl) (e_var rfl) rfl rfl (c_inXT x1 names))) rfl rfl⟩)) rfl (bi_allT _))))) hc ?_
    refine g_nil ?_
    obtain ⟨l6, h_l6, h⟩ := bnd h
    refine g_next (env1 := [.va (enc (value : (Tup Sx))), .va (enc (names : (Tup Sx))), .ow false (enc (l6 : (List Int))), .no, .no]) (s_asg (x_lc (Ew := [.va (enc (value : (Tup Sx))), .va (enc (names : (Tup Sx))), .no, .no, .no]) _ (i_seq (e_var rfl) rfl (SeqC.law _)) rfl rfl rfl h_l6 (fun x4 o ho => ⟨_, rfl, by
      obtain ⟨n5, h_n5, ho⟩ := bnd ho
      cases ho
      exact lcb_t c_no rfl (e_bm1 (e_var rfl) rfl (e_var rfl) rfl (bm_indexX h_n5)) rfl rfl⟩)) rfl rfl) ?_
    obtain ⟨xs7, h_xs7, h⟩ := bnd h
    obtain ⟨l11, h_l11, h⟩ := bnd h
    cases h
    refine g_ret (e_bi1 (x_lc (Ew := [.va (enc (value : (Tup Sx))), .va (enc (names : (Tup Sx))), .ow false (enc (l6 : (List Int))), .no, .no]) _ (i_rng1 (e_bin (e_bi1 (e_sl rfl) rfl (bl_lst l6)) e_cst rfl rfl rfl) h_xs7) rfl rfl rfl h_l11 (fun x8 o ho => ⟨_, rfl, by
      obtain ⟨w9, h_w9, ho⟩ := bnd ho
      obtain ⟨w10, h_w10, ho⟩ := bnd ho
      cases ho
      exact lcb_t c_no rfl (e_cmp (e_ix (e_sl rfl) (e_var rfl) rfl rfl (ix_lst h_w9)) (e_ix (e_sl rfl) (e_bin (e_var rfl) e_cst rfl rfl rfl) rfl rfl (ix_lst h_w10)) rfl rfl rfl) rfl rfl⟩)) rfl (bi_allT _)) rfl ?_
    exact rfl
def t_check_accepted (accepted : (Tup (Tup Sx))) (many : Int) (rooms : (Tup Sx)) : Option (Unit) :=
  if ((!true) || (decide ((accepted.l.length : Int) < many))) = true then
  none
  else
  (foldT (σ := Unit) (fun (x1 : (Int × (Tup Sx))) (s2 : Unit) =>
  ((if (decide (x1.1 = many)) = true then some (true, ()) else
  (t_is_ascending x1.2 rooms).bind fun r3 =>
  some ((!r3), ()) : Option (Bool × (Unit)))).bind fun q4 =>
  if q4.1 = true then
  none
  else
  some ()) (enmL accepted.l) ()).bind fun s5 =>
  some ()
theorem ok_check_accepted (kk : Nat) {accepted : (Tup (Tup Sx))} {many : Int} {rooms : (Tup Sx)} {r : Unit} (h : t_check_accepted accepted many rooms = some r) : runN Pg0 (kk + 2) i_check_accepted [.va (enc (accepted : (Tup (Tup Sx)))), .va (enc (many : Int)), .va (enc (rooms : (Tup Sx)))] = some (.dt (enc r), [.no, .no, .no]) := by
  refine run_ok (k := kk + 1) (fn := f_check_accepted) rfl rfl (g_top ?_)
  show Gq (FinQ 3 (.dt (enc r), [.no, .no, .no])) (blk Pg0 _ b_check_accepted nextM [.va (enc (accepted : (Tup (Tup Sx)))), .va (enc (many : Int)), .va (enc (rooms : (Tup Sx))), .no, .no])
  unfold t_check_accepted at h
  rcases iteB h with ⟨hc, h⟩ | ⟨hc, h⟩
  · refine g_iteT (e_orP (e_not (e_isi (e_var rfl) rfl cl_len rfl)) (e_cmp (e_bi1 (e_var rfl) rfl (bl_tup accepted)) (e_var rfl) rfl rfl rfl)) hc ?_
    cases h
  · refine g_iteF (e_orP (e_not (e_isi (e_var rfl) rfl cl_len rfl)) (e_cmp (e_bi1 (e_var rfl) rfl (bl_tup accepted)) (e_var rfl) rfl rfl rfl)) hc ?_
    refine g_nil ?_
    obtain ⟨s5, h_s5, h⟩ := bnd h
    refine g_fold (s0 := ()) _ (fun (s2 : Unit) => [.va (enc (accepted : (Tup (Tup Sx)))), .va (enc (many : Int)), .va (enc (rooms : (Tup Sx))), .no, .no]) (i_enm (e_var rfl) rfl (EnmC.law _)) rfl rfl h_s5 ?_ ?_
    · intro x1 s2 o ho
      refine ⟨_, rfl, g_body ?_⟩
      obtain ⟨q4, h_q4, ho⟩ := bnd ho
      rcases iteB ho with ⟨hc, ho⟩ | ⟨hc, ho⟩
      · refine g_iteT (e_orT (s0 := ()) (fun (s : Unit) => [.va (enc (accepted : (Tup (Tup Sx)))), .va (enc (many : Int)), .va (enc (rooms : (Tup Sx))), .va (enc (x1.1 : Int)), .va (enc (x1.2 : (Tup Sx)))]) (e_cmp (e_var rfl) (e_var rfl) rfl rfl (c_eq (α := Int) (by decide) x1.1 many)) h_q4 (fun q hq => by
          obtain ⟨r3, h_r3, hq⟩ := bnd hq
          cases hq
          exact (e_not (e_call mt_is_ascending (a_consF (e_var rfl) rfl (a_consF (e_var rfl) rfl a_nil)) (by decide : ([] : List Nat).Nodup) rfl (have q := ok_is_ascending (kk + 0) h_r3; q) (fun _ q => nomatch q) rfl)))) hc ?_
        cases ho
      · refine g_iteF (e_orT (s0 := ()) (fun (s : Unit) => [.va (enc (accepted : (Tup (Tup Sx)))), .va (enc (many : Int)), .va (enc (rooms : (Tup Sx))), .va (enc (x1.1 : Int)), .va (enc (x1.2 : (Tup Sx)))]) (e_cmp (e_var rfl) (e_var rfl) rfl rfl (c_eq (α := Int) (by decide) x1.1 many)) h_q4 (fun q hq => by
          obtain ⟨r3, h_r3, hq⟩ := bnd hq
          cases hq
          exact (e_not (e_call mt_is_ascending (a_consF (e_var rfl) rfl (a_consF (e_var rfl) rfl a_nil)) (by decide : ([] : List Nat).Nodup) rfl (have q := ok_is_ascending (kk + 0) h_r3; q) (fun _ q => nomatch q) rfl)))) hc ?_
        refine g_nil ?_
        cases ho
        refine g_nil ?_
        exact ⟨_, _, rfl, .inl rfl, rfl⟩
    cases h
    exact g_nil rfl
def t_House_init (guests : (Tup Sx)) (rooms : (Tup Sx)) (accepted : (Tup (Tup Sx))) : Option (House) :=
  (t_check_guests guests).bind fun r1 =>
  (t_check_rooms rooms guests).bind fun r2 =>
  (t_check_accepted accepted (guests.l.length : Int) rooms).bind fun r3 =>
  (dzT guests accepted).bind fun m4 =>
  some (⟨guests, rooms, accepted, m4⟩ : House)
theorem ok_House_init (kk : Nat) {guests : (Tup Sx)} {rooms : (Tup Sx)} {accepted : (Tup (Tup Sx))} {r : House} (h : t_House_init guests rooms accepted = some r) : runN Pg0 (kk + 4) i_House_init [.ow true (.ins 0 []), .va (enc (guests : (Tup Sx))), .va (enc (rooms : (Tup Sx))), .va (enc (accepted : (Tup (Tup Sx))))] = some (.dt .non, [.ow true (enc r), .no, .no, .no]) := by
  refine run_ok (k := kk + 3) (fn := f_House_init) rfl rfl (g_top ?_)
  show Gq (FinQ 4 (.dt .non, [.ow true (enc r), .no, .no, .no])) (blk Pg0 _ b_House_init nextM [.ow true (.ins 0 []), .va (enc (guests : (Tup Sx))), .va (enc (rooms : (Tup Sx))), .va (enc (accepted : (Tup (Tup Sx))))])
  unfold t_House_init at h
  obtain ⟨r1, h_r1, h⟩ := bnd h
  refine g_next (env1 := [.ow true (.ins 0 []), .va (enc (guests : (Tup Sx))), .va (enc (rooms : (Tup Sx))), .va (enc (accepted : (Tup (Tup Sx))))]) (s_ex (e_call mt_check_guests (a_consF (e_var rfl) rfl a_nil) (by decide : ([] : List Nat).Nodup) rfl (have q := ok_check_guests (kk + 0) h_r1; q) (fun _ q => nomatch q) rfl)) ?_
  obtain ⟨r2, h_r2, h⟩ := bnd h
  refine g_next (env1 := [.ow true (.ins 0 []), .va (enc (guests : (Tup Sx))), .va (enc (rooms : (Tup Sx))), .va (enc (accepted : (Tup (Tup Sx))))]) (s_ex (e_call mt_check_rooms (a_consF (e_var rfl) rfl (a_consF (e_var rfl) rfl a_nil)) (by decide : ([] : List Nat).Nodup) rfl (have q := ok_check_rooms (kk + 0) h_r2; q) (fun _ q => nomatch q) rfl)) ?_
  obtain ⟨r3, h_r3, h⟩ := bnd h
  refine g_next (env1 := [.ow true (.ins 0 []), .va (enc (guests : (Tup Sx))), .va (enc (rooms : (Tup Sx))), .va (enc (accepted : (Tup (Tup Sx))))]) (s_ex (e_call mt_check_accepted (a_consF (e_var rfl) rfl (a_consF (e_bi1 (e_var rfl) rfl (bl_tup guests)) rfl (a_consF (e_var rfl) rfl a_nil))) (by decide : ([] : List Nat).Nodup) rfl (have q := ok_check_accepted (kk + 1) h_r3; q) (fun _ q => nomatch q) rfl)) ?_
  refine g_next (env1 := [.ow true (.ins 0 [("guests", enc (guests : (Tup Sx)))]), .va (enc (guests : (Tup Sx))), .va (enc (rooms : (Tup Sx))), .va (enc (accepted : (Tup (Tup Sx))))]) (s_setF (e_var rfl) rfl rfl (by decide : 0 < 1000) rfl rfl) ?_
  refine g_next (env1 := [.ow true (.ins 0 [("guests", enc (guests : (Tup Sx))), ("rooms", enc (rooms : (Tup Sx)))]), .va (enc (guests : (Tup Sx))), .va (enc (rooms : (Tup Sx))), .va (enc (accepted : (Tup (Tup Sx))))]) (s_setF (e_var rfl) rfl rfl (by decide : 1 < 1000) rfl rfl) ?_
  refine g_next (env1 := [.ow true (.ins 0 [("guests", enc (guests : (Tup Sx))), ("rooms", enc (rooms : (Tup Sx))), ("accepted", enc (accepted : (Tup (Tup Sx))))]), .va (enc (guests : (Tup Sx))), .va (enc (rooms : (Tup Sx))), .va (enc (accepted : (Tup (Tup Sx))))]) (s_setF (e_var rfl) rfl rfl (by decide : 2 < 1000) rfl rfl) ?_
  obtain ⟨m4, h_m4, h⟩ := bnd h
  refine g_next (env1 := [.ow true (.ins 0 [("guests", enc (guests : (Tup Sx))), ("rooms", enc (rooms : (Tup Sx))), ("accepted", enc (accepted : (Tup (Tup Sx)))), ("lists", enc (m4 : (Dc Sx (Tup Sx))))]), .va (enc (guests : (Tup Sx))), .va (enc (rooms : (Tup Sx))), .va (enc (accepted : (Tup (Tup Sx))))]) (s_setF (e_dz (v_cons (e_var rfl) rfl (v_cons (e_var rfl) rfl v_nil)) h_m4) rfl rfl (by decide : 3 < 1000) rfl rfl) ?_
  cases h
  exact g_nil rfl
def t_law_made (parts : (Hl (Hc (Tup Sx) (Hc (Tup Sx) (Hc (Tup (Tup Sx)) Hn))))) : Option (House) :=
  (t_House_init parts.x.h parts.x.t.h parts.x.t.t.h).bind fun r1 =>
  some r1
theorem ok_law_made (kk : Nat) {parts : (Hl (Hc (Tup Sx) (Hc (Tup Sx) (Hc (Tup (Tup Sx)) Hn))))} {r : House} (h : t_law_made parts = some r) : runN Pg0 (kk + 5) i_law_made [.va (enc (parts : (Hl (Hc (Tup Sx) (Hc (Tup Sx) (Hc (Tup (Tup Sx)) Hn))))))] = some (.nw (enc r), [.no]) := by
  refine run_ok (k := kk + 4) (fn := f_law_made) rfl rfl (g_top ?_)
  show Gq (FinQ 1 (.nw (enc r), [.no])) (blk Pg0 _ b_law_made nextM [.va (enc (parts : (Hl (Hc (Tup Sx) (Hc (Tup Sx) (Hc (Tup (Tup Sx)) Hn))))))])
  unfold t_law_made at h
  obtain ⟨r1, h_r1, h⟩ := bnd h
  cases h
  refine g_ret (e_make in_House (v_cons (e_ix (e_var rfl) e_cst rfl rfl rfl) rfl (v_cons (e_ix (e_var rfl) e_cst rfl rfl rfl) rfl (v_cons (e_ix (e_var rfl) e_cst rfl rfl rfl) rfl v_nil))) (have q := ok_House_init (kk + 0) h_r1; q)) rfl ?_
  exact rfl
def t_law_one_2 (bag_here : (List Int)) (some' : (List (Tup Sx))) : Option ((Tup Sx) × (List Int)) :=
  (t_law_draw bag_here (some'.length : Int)).bind fun r1 =>
  (atI some' r1.1).bind fun w2 =>
  some (w2, r1.2)
theorem ok_law_one_2 (kk : Nat) {bag_here : (List Int)} {some' : (List (Tup Sx))} {r : (Tup Sx) × (List Int)} (h : t_law_one_2 bag_here some' = some r) : runN Pg0 (kk + 2) i_law_one [.ow true (enc (bag_here : (List Int))), .va (enc (some' : (List (Tup Sx))))] = some (.dt (enc r.1), [.ow true (enc r.2), .no]) := by
  refine run_ok (k := kk + 1) (fn := f_law_one) rfl rfl (g_top ?_)
  show Gq (FinQ 2 (.dt (enc r.1), [.ow true (enc r.2), .no])) (blk Pg0 _ b_law_one nextM [.ow true (enc (bag_here : (List Int))), .va (enc (some' : (List (Tup Sx))))])
  unfold t_law_one_2 at h
  obtain ⟨r1, h_r1, h⟩ := bnd h
  obtain ⟨w2, h_w2, h⟩ := bnd h
  cases h
  refine g_ret (e_ix (e_var rfl) (e_call mt_law_draw (a_consS rfl (a_consF (e_bi1 (e_var rfl) rfl (bl_lst some')) rfl a_nil)) (by decide : ([0] : List Nat).Nodup) rfl (have q := ok_law_draw (kk + 0) h_r1; q) (fun _ q => nomatch q) rfl) rfl rfl (ix_lst h_w2)) rfl ?_
  exact rfl
def t_check_house (house : House) : Option (Unit) :=
  if (!true) = true then
  none
  else
  some ()
theorem ok_check_house (kk : Nat) {house : House} {r : Unit} (h : t_check_house house = some r) : runN Pg0 (kk + 1) i_check_house [.va (enc (house : House))] = some (.dt (enc r), [.no]) := by
  refine run_ok (k := kk + 0) (fn := f_check_house) rfl rfl (g_top ?_)
  show Gq (FinQ 1 (.dt (enc r), [.no])) (blk Pg0 _ b_check_house nextM [.va (enc (house : House))])
  unfold t_check_house at h
  rcases iteB h with ⟨hc, h⟩ | ⟨hc, h⟩
  · refine g_iteT (e_not (e_isi (e_var rfl) rfl cl_len rfl)) hc ?_
    cases h
  · refine g_iteF (e_not (e_isi (e_var rfl) rfl cl_len rfl)) hc ?_
    refine g_nil ?_
    cases h
    exact g_nil rfl
def t_are_places (value : (Tup Sx)) (guests : (Tup Sx)) (rooms : (Tup Sx)) : Option (Bool) :=
  if ((!true) || (decide ((value.l.length : Int) ≠ (guests.l.length : Int)))) = true then
  some false
  else
  ((lcP (β := Bool) (fun (x1 : Sx) =>
  some (some (true && (decide (x1 ∈ rooms.l))))) value.l : Option (List Bool))).bind fun l2 =>
  if (!(l2.all id)) = true then
  some false
  else
  ((dcP (ν := Bool) (fun (x3 : Sx) =>
  some (some (x3, true))) value.l : Option (Dc Sx Bool))).bind fun m4 =>
  some (decide ((m4.l.length : Int) = (value.l.length : Int)))
theorem ok_are_places (kk : Nat) {value : (Tup Sx)} {guests : (Tup Sx)} {rooms : (Tup Sx)} {r : Bool} (h : t_are_places value guests rooms = some r) : runN Pg0 (kk + 1) i_are_places [.va (enc (value : (Tup Sx))), .va (enc (guests : (Tup Sx))), .va (enc (rooms : (Tup Sx)))] = some (.dt (enc r), [.no, .no, .no]) := by
  refine run_ok (k := kk + 0) (fn := f_are_places) rfl rfl (g_top ?_)
  show Gq (FinQ 3 (.dt (enc r), [.no, .no, .no])) (blk Pg0 _ b_are_places nextM [.va (enc (value : (Tup Sx))), .va (enc (guests : (Tup Sx))), .va (enc (rooms : (Tup Sx))), .no])
  unfold t_are_places at h
  rcases iteB h with ⟨hc, h⟩ | ⟨hc, h⟩
  · refine g_iteT (e_orP (e_not (e_isi (e_var rfl) rfl cl_len rfl)) (e_cmp (e_bi1 (e_var rfl) rfl (bl_tup value)) (e_bi1 (e_var rfl) rfl (bl_tup guests)) rfl rfl (c_ne (α := Int) (by decide) (value.l.length : Int) (guests.l.length : Int)))) hc ?_
    cases h
    refine g_ret e_cst rfl ?_
    exact rfl
  · refine g_iteF (e_orP (e_not (e_isi (e_var rfl) rfl cl_len rfl)) (e_cmp (e_bi1 (e_var rfl) rfl (bl_tup value)) (e_bi1 (e_var rfl) rfl (bl_tup guests)) rfl rfl (c_ne (α := Int) (by decide) (value.l.length : Int) (guests.l.length : Int)))) hc ?_
    refine g_nil ?_
    obtain ⟨l2, h_l2, h⟩ := bnd h
    rcases iteB h with ⟨hc, h⟩ | ⟨hc, h⟩
    · refine g_iteT (e_not (e_bi1 (x_lc (Ew := [.va (enc (value : (Tup Sx))), .va (enc (guests : (Tup Sx))), .va (enc (rooms : (Tup Sx))), .no]) _ (i_seq (e_var rfl) rfl (SeqC.law _)) rfl rfl rfl h_l2 (fun x1 o ho => ⟨_, rfl, by
        cases ho
        exact lcb_t c_no rfl (e_andP (e_isi (e_var rfl) rfl cl_len rfl) (e_cmp (e_var rfl) (e_var rfl) rfl rfl (c_inXT x1 rooms))) rfl rfl⟩)) rfl (bi_allT _))) hc ?_
      cases h
      refine g_ret e_cst rfl ?_
      exact rfl
    · refine g_iteF (e_not (e_bi1 (x_lc (Ew := [.va (enc (value : (Tup Sx))), .va (enc (guests : (Tup Sx))), .va (enc (rooms : (Tup Sx))), .no]) _ (i_seq (e_var rfl) rfl (SeqC.law _)) rfl rfl rfl h_l2 (fun x1 o ho => ⟨_, rfl, by
        cases ho
        exact lcb_t c_no rfl (e_andP (e_isi (e_var rfl) rfl cl_len rfl) (e_cmp (e_var rfl) (e_var rfl) rfl rfl (c_inXT x1 rooms))) rfl rfl⟩)) rfl (bi_allT _))) hc ?_
      refine g_nil ?_
      obtain ⟨m4, h_m4, h⟩ := bnd h
      cases h
      refine g_ret (e_cmp (e_bi1 (e_dc (Ew := [.va (enc (value : (Tup Sx))), .va (enc (guests : (Tup Sx))), .va (enc (rooms : (Tup Sx))), .no]) _ (i_seq (e_var rfl) rfl (SeqC.law _)) rfl rfl rfl h_m4 (fun x3 o ho => ⟨_, rfl, by
        cases ho
        exact ⟨fun q => (by cases q), fun y q => by cases q; exact ⟨_, _, _, _, _, _, _, c_no, (e_var rfl), rfl, e_cst, rfl, rfl⟩⟩⟩)) rfl (bl_dc m4)) (e_bi1 (e_var rfl) rfl (bl_tup value)) rfl rfl (c_eq (α := Int) (by decide) (m4.l.length : Int) (value.l.length : Int))) rfl ?_
      exact rfl
def t_is_good (house : House) (value : (Tup Sx)) : Option (Bool) :=
  (t_are_places value house.guests house.rooms).bind fun r1 =>
  if (!r1) = true then
  some false
  else
  ((lcP (β := Bool) (fun (x2 : (Sx × (Tup Sx))) =>
  some (some (decide (x2.1 ∈ x2.2.l)))) (List.zip value.l house.accepted.l) : Option (List Bool))).bind fun l3 =>
  some (l3.all id)
theorem ok_is_good (kk : Nat) {house : House} {value : (Tup Sx)} {r : Bool} (h : t_is_good house value = some r) : runN Pg0 (kk + 2) i_is_good [.va (enc (house : House)), .va (enc (value : (Tup Sx)))] = some (.dt (enc r), [.no, .no]) := by
  refine run_ok (k := kk + 1) (fn := f_is_good) rfl rfl (g_top ?_)
  show Gq (FinQ 2 (.dt (enc r), [.no, .no])) (blk Pg0 _ b_is_good nextM [.va (enc (house : House)), .va (enc (value : (Tup Sx))), .no, .no])
  unfold t_is_good at h
  obtain ⟨r1, h_r1, h⟩ := bnd h
  rcases iteB h with ⟨hc, h⟩ | ⟨hc, h⟩
  · refine g_iteT (e_not (e_call mt_are_places (a_consF (e_var rfl) rfl (a_consF (e_fld (e_var rfl) rfl (fl_House_guests _)) rfl (a_consF (e_fld (e_var rfl) rfl (fl_House_rooms _)) rfl a_nil))) (by decide : ([] : List Nat).Nodup) rfl (have q := ok_are_places (kk + 0) h_r1; q) (fun _ q => nomatch q) rfl)) hc ?_
    cases h
    refine g_ret e_cst rfl ?_
    exact rfl
  · refine g_iteF (e_not (e_call mt_are_places (a_consF (e_var rfl) rfl (a_consF (e_fld (e_var rfl) rfl (fl_House_guests _)) rfl (a_consF (e_fld (e_var rfl) rfl (fl_House_rooms _)) rfl a_nil))) (by decide : ([] : List Nat).Nodup) rfl (have q := ok_are_places (kk + 0) h_r1; q) (fun _ q => nomatch q) rfl)) hc ?_
    refine g_nil ?_
    obtain ⟨l3, h_l3, h⟩ := bnd h
    cases h
    refine g_ret (e_bi1 (x_lc (Ew := [.va (enc (house : House)), .va (enc (value : (Tup Sx))), .no, .no]) _ (i_zip2 (v_cons (e_var rfl) rfl (v_cons (e_fld (e_var rfl) rfl (fl_House_accepted _)) rfl v_nil)) (ZipC.law _ _)) rfl rfl rfl h_l3 (fun x2 o ho => ⟨_, rfl, by
      cases ho
      exact lcb_t c_no rfl (e_cmp (e_var rfl) (e_var rfl) rfl rfl (c_inXT x2.1 x2.2)) rfl rfl⟩)) rfl (bi_allT _)) rfl ?_
    exact rfl
def t_check_placing (house : House) (value : (Tup Sx)) : Option (Unit) :=
  (t_is_good house value).bind fun r1 =>
  if (!r1) = true then
  none
  else
  some ()
theorem ok_check_placing (kk : Nat) {house : House} {value : (Tup Sx)} {r : Unit} (h : t_check_placing house value = some r) : runN Pg0 (kk + 3) i_check_placing [.va (enc (house : House)), .va (enc (value : (Tup Sx)))] = some (.dt (enc r), [.no, .no]) := by
  refine run_ok (k := kk + 2) (fn := f_check_placing) rfl rfl (g_top ?_)
  show Gq (FinQ 2 (.dt (enc r), [.no, .no])) (blk Pg0 _ b_check_placing nextM [.va (enc (house : House)), .va (enc (value : (Tup Sx)))])
  unfold t_check_placing at h
  obtain ⟨r1, h_r1, h⟩ := bnd h
  rcases iteB h with ⟨hc, h⟩ | ⟨hc, h⟩
  · refine g_iteT (e_not (e_call mt_is_good (a_consF (e_var rfl) rfl (a_consF (e_var rfl) rfl a_nil)) (by decide : ([] : List Nat).Nodup) rfl (have q := ok_is_good (kk + 0) h_r1; q) (fun _ q => nomatch q) rfl)) hc ?_
    cases h
  · refine g_iteF (e_not (e_call mt_is_good (a_consF (e_var rfl) rfl (a_consF (e_var rfl) rfl a_nil)) (by decide : ([] : List Nat).Nodup) rfl (have q := ok_is_good (kk + 0) h_r1; q) (fun _ q => nomatch q) rfl)) hc ?_
    refine g_nil ?_
    cases h
    exact g_nil rfl
def t_check_lain (house : House) (placing : (Tup Sx)) : Option (Unit) :=
  (t_check_house house).bind fun r1 =>
  (t_check_placing house placing).bind fun r2 =>
  some ()
theorem ok_check_lain (kk : Nat) {house : House} {placing : (Tup Sx)} {r : Unit} (h : t_check_lain house placing = some r) : runN Pg0 (kk + 4) i_check_lain [.va (enc (house : House)), .va (enc (placing : (Tup Sx)))] = some (.dt (enc r), [.no, .no]) := by
  refine run_ok (k := kk + 3) (fn := f_check_lain) rfl rfl (g_top ?_)
  show Gq (FinQ 2 (.dt (enc r), [.no, .no])) (blk Pg0 _ b_check_lain nextM [.va (enc (house : House)), .va (enc (placing : (Tup Sx)))])
  unfold t_check_lain at h
  obtain ⟨r1, h_r1, h⟩ := bnd h
  refine g_next (env1 := [.va (enc (house : House)), .va (enc (placing : (Tup Sx)))]) (s_ex (e_call mt_check_house (a_consF (e_var rfl) rfl a_nil) (by decide : ([] : List Nat).Nodup) rfl (have q := ok_check_house (kk + 2) h_r1; q) (fun _ q => nomatch q) rfl)) ?_
  obtain ⟨r2, h_r2, h⟩ := bnd h
  refine g_next (env1 := [.va (enc (house : House)), .va (enc (placing : (Tup Sx)))]) (s_ex (e_call mt_check_placing (a_consF (e_var rfl) rfl (a_consF (e_var rfl) rfl a_nil)) (by decide : ([] : List Nat).Nodup) rfl (have q := ok_check_placing (kk + 0) h_r2; q) (fun _ q => nomatch q) rfl)) ?_
  cases h
  exact g_nil rfl
def t_frees (house : House) (placing : (Tup Sx)) : Option ((List Sx)) :=
  ((lcP (β := Sx) (fun (x1 : Sx) =>
  if (!(decide (x1 ∈ placing.l))) = true then
  some (some x1)
  else some none) house.rooms.l : Option (List Sx))).bind fun l2 =>
  some l2
theorem ok_frees (kk : Nat) {house : House} {placing : (Tup Sx)} {r : (List Sx)} (h : t_frees house placing = some r) : runN Pg0 (kk + 1) i_frees [.va (enc (house : House)), .va (enc (placing : (Tup Sx)))] = some (.nw (enc r), [.no, .no]) := by
  refine run_ok (k := kk + 0) (fn := f_frees) rfl rfl (g_top ?_)
  show Gq (FinQ 2 (.nw (enc r), [.no, .no])) (blk Pg0 _ b_frees nextM [.va (enc (house : House)), .va (enc (placing : (Tup Sx))), .no])
  unfold t_frees at h
  obtain ⟨l2, h_l2, h⟩ := bnd h
  cases h
  refine g_ret (x_lc (Ew := [.va (enc (house : House)), .va (enc (placing : (Tup Sx))), .no]) _ (i_seq (e_fld (e_var rfl) rfl (fl_House_rooms _)) rfl (SeqC.law _)) rfl rfl rfl h_l2 (fun x1 o ho => ⟨_, rfl, by
    rcases iteB ho with ⟨hb, ho⟩ | ⟨hb, ho⟩
    · cases ho
      exact lcb_t (c_so (e_cmp (e_var rfl) (e_var rfl) rfl rfl (notin_of (c_inXT x1 placing)))) hb (e_var rfl) rfl rfl
    · cases ho
      exact lcb_f (c_so (e_cmp (e_var rfl) (e_var rfl) rfl rfl (notin_of (c_inXT x1 placing)))) hb rfl⟩)) rfl ?_
  exact rfl
def t_shortest_chain (house : House) (placing : (Tup Sx)) (room : Sx) : Option ((Option (Tup (Sx × Sx)))) :=
  (t_frees house placing).bind fun r1 =>
  (some ((⟨[(room, (⟨[]⟩ : (Tup (Sx × Sx))))]⟩ : (Dc Sx (Tup (Sx × Sx)))) : (Dc Sx (Tup (Sx × Sx))))).bind fun known2 =>
  (some (([room] : (List Sx)) : (List Sx))).bind fun layer3 =>
  (whlT (σ := (Dc Sx (Tup (Sx × Sx))) × (List Sx)) (ρ := (Option (Tup (Sx × Sx)))) (fun (s45 : (Dc Sx (Tup (Sx × Sx))) × (List Sx)) =>
  some (decide (s45.2 ≠ ([] : (List Sx))))) (fun (s45 : (Dc Sx (Tup (Sx × Sx))) × (List Sx)) =>
  (some (([] : (List Sx)) : (List Sx))).bind fun later46 =>
  (forT (σ := (Dc Sx (Tup (Sx × Sx))) × (List Sx)) (ρ := (Option (Tup (Sx × Sx)))) (fun (x47 : Sx) (s66 : (Dc Sx (Tup (Sx × Sx))) × (List Sx)) =>
  if (decide (x47 ∈ r1)) = true then
  (s66.1.l.lookup x47).bind fun w67 =>
  some (.rt (some w67 : (Option (Tup (Sx × Sx)))))
  else
  (indexX placing x47).bind fun n68 =>
  (atI house.accepted.l n68).bind fun w69 =>
  (foldT (σ := (Dc Sx (Tup (Sx × Sx))) × (List Sx)) (fun (x70 : Sx) (s77 : (Dc Sx (Tup (Sx × Sx))) × (List Sx)) =>
  if (!(decide (x70 ∈ s77.1.l.map Prod.fst))) = true then
  (s77.1.l.lookup x47).bind fun w78 =>
  (atI house.guests.l n68).bind fun w79 =>
  (catT w78 (⟨[(w79, x70)]⟩ : (Tup (Sx × Sx)))).bind fun t80 =>
  (setK s77.1 x70 t80).bind fun known81 =>
  (appT s77.2 x70).bind fun later82 =>
  some (known81, later82)
  else
  some (s77.1, s77.2)) w69.l (s66.1, s66.2)).bind fun s83 =>
  some (.nx (s83.1, s83.2))) s45.2 (s45.1, later46)).bind fun o85 => match o85 with
  | .nx s84 =>
    some (.nx (s84.1, s84.2))
  | .bk _ => none
  | .rt r => some (.rt r)) 4000 (known2, layer3)).bind fun o87 => match o87 with
  | .nx s86 =>
    some (none : (Option (Tup (Sx × Sx))))
  | .bk _ => none
  | .rt r => some r
theorem ok_shortest_chain (kk : Nat) {house : House} {placing : (Tup Sx)} {room : Sx} {r : (Option (Tup (Sx × Sx)))} (h : t_shortest_chain house placing room = some r) : runN Pg0 (kk + 2) i_shortest_chain [.va (enc (house : House)), .va (enc (placing : (Tup Sx))), .va (enc (room : Sx))] = some (.dt (enc r), [.no, .no, .no]) := by
  refine run_ok (k := kk + 1) (fn := f_shortest_chain) rfl rfl (g_top ?_)
  show Gq (FinQ 3 (.dt (enc r), [.no, .no, .no])) (blk Pg0 _ b_shortest_chain nextM [.va (enc (house : House)), .va (enc (placing : (Tup Sx))), .va (enc (room : Sx)), .no, .no, .no, .no, .no, .no, .no])
  unfold t_shortest_chain at h
  obtain ⟨r1, h_r1, h⟩ := bnd h
  obtain ⟨known2, h_known2, h⟩ := bnd h
  obtain ⟨layer3, h_layer3, h⟩ := bnd h
  refine g_next (env1 := [.va (enc (house : House)), .va (enc (placing : (Tup Sx))), .va (enc (room : Sx)), .ow false (enc (r1 : (List Sx))), .ow false (enc (known2 : (Dc Sx (Tup (Sx × Sx))))), .ow false (enc (layer3 : (List Sx))), .no, .no, .no, .no]) (s_par (r_cons (e_call mt_frees (a_consF (e_var rfl) rfl (a_consF (e_var rfl) rfl a_nil)) (by decide : ([] : List Nat).Nodup) rfl (have q := ok_frees (kk + 0) h_r1; q) (fun _ q => nomatch q) rfl) rfl (r_cons (re_nw h_known2 (e_dn1 (v_cons (e_var rfl) rfl (v_cons (e_tup v_nil (by decide : 0 ≤ sizeLine)) rfl v_nil)))) rfl (r_cons (re_nw h_layer3 (e_lst (v_cons (e_var rfl) rfl v_nil) (by decide : 1 ≤ sizeLine))) rfl r_nil))) rfl) ?_
  refine g_fz rfl ?_
  obtain ⟨o87, h_o87, h⟩ := bnd h
  refine g_whl (n := 3) (s0 := (known2, layer3)) _ _ (fun (s45 : (Dc Sx (Tup (Sx × Sx))) × (List Sx)) => [.va (enc (house : House)), .va (enc (placing : (Tup Sx))), .va (enc (room : Sx)), .ow false (enc (r1 : (List Sx))), .ow false (enc (s45.1 : (Dc Sx (Tup (Sx × Sx))))), .va (enc (s45.2 : (List Sx))), .no, .no, .no, .no]) (fun (r : (Option (Tup (Sx × Sx)))) => (.dt (enc r), [.no, .no, .no])) rfl h_o87 ?_ ?_ ?_ ?_
  · intro s45 b ho
    cases ho
    exact (e_cmp (e_var rfl) (e_lst v_nil (by decide : 0 ≤ sizeLine)) rfl rfl (c_ne (α := (List Sx)) (by decide) s45.2 ([] : (List Sx))))
  · intro s45 o ho
    refine g_body ?_
    obtain ⟨later46, h_later46, ho⟩ := bnd ho
    refine g_next (env1 := [.va (enc (house : House)), .va (enc (placing : (Tup Sx))), .va (enc (room : Sx)), .ow false (enc (r1 : (List Sx))), .ow false (enc (s45.1 : (Dc Sx (Tup (Sx × Sx))))), .va (enc (s45.2 : (List Sx))), .ow false (enc (later46 : (List Sx))), .no, .no, .no]) (s_asg (re_nw h_later46 (e_lst v_nil (by decide : 0 ≤ sizeLine))) rfl rfl) ?_
    obtain ⟨o85, h_o85, ho⟩ := bnd ho
    refine g_for (n := 3) (s0 := (s45.1, later46)) _ (fun (s66 : (Dc Sx (Tup (Sx × Sx))) × (List Sx)) => [.va (enc (house : House)), .va (enc (placing : (Tup Sx))), .va (enc (room : Sx)), .ow false (enc (r1 : (List Sx))), .ow false (enc (s66.1 : (Dc Sx (Tup (Sx × Sx))))), .va (enc (s45.2 : (List Sx))), .ow false (enc (s66.2 : (List Sx))), .no, .no, .no]) (fun (r : (Option (Tup (Sx × Sx)))) => (.dt (enc r), [.no, .no, .no])) (i_seq (e_var rfl) rfl (SeqC.law _)) rfl rfl h_o85 ?_ ?_ ?_
    · intro x47 s66 o ho
      refine ⟨_, rfl, g_body ?_⟩
      rcases iteB ho with ⟨hc, ho⟩ | ⟨hc, ho⟩
      · refine g_iteT (e_cmp (e_var rfl) (e_sl rfl) rfl rfl (c_inXL x47 r1)) hc ?_
        obtain ⟨w67, h_w67, ho⟩ := bnd ho
        cases ho
        refine g_ret (e_ix (e_sl rfl) (e_var rfl) rfl rfl (ix_dcX h_w67)) rfl ?_
        exact ⟨_, rfl, rfl⟩
      · refine g_iteF (e_cmp (e_var rfl) (e_sl rfl) rfl rfl (c_inXL x47 r1)) hc ?_
        refine g_nil ?_
        obtain ⟨n68, h_n68, ho⟩ := bnd ho
        refine g_next (env1 := [.va (enc (house : House)), .va (enc (placing : (Tup Sx))), .va (enc (room : Sx)), .ow false (enc (r1 : (List Sx))), .ow false (enc (s66.1 : (Dc Sx (Tup (Sx × Sx))))), .va (enc (s45.2 : (List Sx))), .ow false (enc (s66.2 : (List Sx))), .va (enc (x47 : Sx)), .va (enc (n68 : Int)), .no]) (s_asg (e_bm1 (e_var rfl) rfl (e_var rfl) rfl (bm_indexX h_n68)) rfl rfl) ?_
        obtain ⟨w69, h_w69, ho⟩ := bnd ho
        obtain ⟨s83, h_s83, ho⟩ := bnd ho
        refine g_fold (s0 := (s66.1, s66.2)) _ (fun (s77 : (Dc Sx (Tup (Sx × Sx))) × (List Sx)) => [.va (enc (house : House)), .va (enc (placing : (Tup Sx))), .va (enc (room : Sx)), .ow false (enc (r1 : (List Sx))), .ow false (enc (s77.1 : (Dc Sx (Tup (Sx × Sx))))), .va (enc (s45.2 : (List Sx))), .ow false (enc (s77.2 : (List Sx))), .va (enc (x47 : Sx)), .va (enc (n68 : Int)), .no]) (i_seq (e_ix (e_fld (e_var rfl) rfl (fl_House_accepted _)) (e_var rfl) rfl rfl (ix_tup h_w69)) rfl (SeqC.law _)) rfl rfl h_s83 ?_ ?_
        · intro x70 s77 o ho
          refine ⟨_, rfl, g_body ?_⟩
          rcases iteB ho with ⟨hc, ho⟩ | ⟨hc, ho⟩
          · refine g_iteT (e_cmp (e_var rfl) (e_sl rfl) rfl rfl (notin_of (c_inXD x70 s77.1))) hc ?_
            obtain ⟨w78, h_w78, ho⟩ := bnd ho
            obtain ⟨w79, h_w79, ho⟩ := bnd ho
            obtain ⟨t80, h_t80, ho⟩ := bnd ho
            obtain ⟨known81, h_known81, ho⟩ := bnd ho
            refine g_next (env1 := [.va (enc (house : House)), .va (enc (placing : (Tup Sx))), .va (enc (room : Sx)), .ow false (enc (r1 : (List Sx))), .ow false (enc (known81 : (Dc Sx (Tup (Sx × Sx))))), .va (enc (s45.2 : (List Sx))), .ow false (enc (s77.2 : (List Sx))), .va (enc (x47 : Sx)), .va (enc (n68 : Int)), .va (enc (x70 : Sx))]) (s_setK (e_bin (e_ix (e_sl rfl) (e_var rfl) rfl rfl (ix_dcX h_w78)) (e_tup (v_cons (e_tup (v_cons (e_ix (e_fld (e_var rfl) rfl (fl_House_guests _)) (e_var rfl) rfl rfl (ix_tup h_w79)) rfl (v_cons (e_var rfl) rfl v_nil)) (by decide : 2 ≤ sizeLine)) rfl v_nil) (by decide : 1 ≤ sizeLine)) rfl rfl (b_catT h_t80)) rfl rfl (e_var rfl) rfl h_known81 rfl) ?_
            obtain ⟨later82, h_later82, ho⟩ := bnd ho
            refine g_next (env1 := [.va (enc (house : House)), .va (enc (placing : (Tup Sx))), .va (enc (room : Sx)), .ow false (enc (r1 : (List Sx))), .ow false (enc (known81 : (Dc Sx (Tup (Sx × Sx))))), .va (enc (s45.2 : (List Sx))), .ow false (enc (later82 : (List Sx))), .va (enc (x47 : Sx)), .va (enc (n68 : Int)), .va (enc (x70 : Sx))]) (s_ex (t_append (u := (x70 : Sx)) rfl (e_var rfl) rfl rfl h_later82 rfl)) ?_
            refine g_nil ?_
            cases ho
            refine g_nil ?_
            exact ⟨_, _, rfl, .inl rfl, rfl⟩
          · refine g_iteF (e_cmp (e_var rfl) (e_sl rfl) rfl rfl (notin_of (c_inXD x70 s77.1))) hc ?_
            refine g_nil ?_
            cases ho
            refine g_nil ?_
            exact ⟨_, _, rfl, .inl rfl, rfl⟩
        cases ho
        refine g_nil ?_
        exact ⟨_, _, rfl, .inl rfl, rfl⟩
    · intro s84 q
      subst q
      refine g_next (env1 := [.va (enc (house : House)), .va (enc (placing : (Tup Sx))), .va (enc (room : Sx)), .ow false (enc (r1 : (List Sx))), .ow false (enc (s84.1 : (Dc Sx (Tup (Sx × Sx))))), .va (enc (s84.2 : (List Sx))), .va (enc (s84.2 : (List Sx))), .no, .no, .no]) (s_asg (e_sl rfl) rfl rfl) ?_
      cases ho
      refine g_nil ?_
      exact ⟨_, _, rfl, .inl rfl, rfl⟩
    · intro r q env' hcl
      subst q
      cases ho
      exact ⟨_, rfl, hcl⟩
  · intro s86 q
    subst q
    cases h
    refine g_ret e_cst rfl ?_
    exact rfl
  · intro r q env' hcl
    subst q
    cases h
    exact fin_rt hcl
def t_newcomer (house : House) (placing : (Tup Sx)) (accepted : (Tup Sx)) : Option ((Option Int)) :=
  (t_check_lain house placing).bind fun r1 =>
  (t_is_ascending accepted house.rooms).bind fun r2 =>
  if (!r2) = true then
  none
  else
  ((lcP (β := (Option (Tup (Sx × Sx)))) (fun (x3 : Sx) =>
  (t_shortest_chain house placing x3).bind fun r4 =>
  some (some r4)) accepted.l : Option (List (Option (Tup (Sx × Sx)))))).bind fun l5 =>
  ((lcP (β := Int) (fun (x6 : (Option (Tup (Sx × Sx)))) =>
  if x6.isSome = true then
  (x6).bind fun y7 =>
  some (some (y7.l.length : Int))
  else some none) l5 : Option (List Int))).bind fun l8 =>
  ((if (decide (l8 ≠ ([] : (List Int)))) = true then
  (minL l8).bind fun n9 =>
  some ((some n9 : (Option Int)), ())
  else
  some ((none : (Option Int)), ()) : Option ((Option Int) × (Unit)))).bind fun q10 =>
  some q10.1
theorem ok_newcomer (kk : Nat) {house : House} {placing : (Tup Sx)} {accepted : (Tup Sx)} {r : (Option Int)} (h : t_newcomer house placing accepted = some r) : runN Pg0 (kk + 5) i_newcomer [.va (enc (house : House)), .va (enc (placing : (Tup Sx))), .va (enc (accepted : (Tup Sx)))] = some (.dt (enc r), [.no, .no, .no]) := by
  refine run_ok (k := kk + 4) (fn := f_newcomer) rfl rfl (g_top ?_)
  show Gq (FinQ 3 (.dt (enc r), [.no, .no, .no])) (blk Pg0 _ b_newcomer nextM [.va (enc (house : House)), .va (enc (placing : (Tup Sx))), .va (enc (accepted : (Tup Sx))), .no, .no, .no, .no])
  unfold t_newcomer at h
  obtain ⟨r1, h_r1, h⟩ := bnd h
  refine g_next (env1 := [.va (enc (house : House)), .va (enc (placing : (Tup Sx))), .va (enc (accepted : (Tup Sx))), .no, .no, .no, .no]) (s_ex (e_call mt_check_lain (a_consF (e_var rfl) rfl (a_consF (e_var rfl) rfl a_nil)) (by decide : ([] : List Nat).Nodup) rfl (have q := ok_check_lain (kk + 0) h_r1; q) (fun _ q => nomatch q) rfl)) ?_
  obtain ⟨r2, h_r2, h⟩ := bnd h
  rcases iteB h with ⟨hc, h⟩ | ⟨hc, h⟩
  · refine g_iteT (e_not (e_call mt_is_ascending (a_consF (e_var rfl) rfl (a_consF (e_fld (e_var rfl) rfl (fl_House_rooms _)) rfl a_nil)) (by decide : ([] : List Nat).Nodup) rfl (have q := ok_is_ascending (kk + 3) h_r2; q) (fun _ q => nomatch q) rfl)) hc ?_
    cases h
  · refine g_iteF (e_not (e_call mt_is_ascending (a_consF (e_var rfl) rfl (a_consF (e_fld (e_var rfl) rfl (fl_House_rooms _)) rfl a_nil)) (by decide : ([] : List Nat).Nodup) rfl (have q := ok_is_ascending (kk + 3) h_r2; q) (fun _ q => nomatch q) rfl)) hc ?_
    refine g_nil ?_
    obtain ⟨l5, h_l5, h⟩ := bnd h
    refine g_next (env1 := [.va (enc (house : House)), .va (enc (placing : (Tup Sx))), .va (enc (accepted : (Tup Sx))), .ow false (enc (l5 : (List (Option (Tup (Sx × Sx)))))), .no, .no, .no]) (s_asg (x_lc (Ew := [.va (enc (house : House)), .va (enc (placing : (Tup Sx))), .va (enc (accepted : (Tup Sx))), .no, .no, .no, .no]) _ (i_seq (e_var rfl) rfl (SeqC.law _)) rfl rfl rfl h_l5 (fun x3 o ho => ⟨_, rfl, by
      obtain ⟨r4, h_r4, ho⟩ := bnd ho
      cases ho
      exact lcb_t c_no rfl (e_call mt_shortest_chain (a_consF (e_var rfl) rfl (a_consF (e_var rfl) rfl (a_consF (e_var rfl) rfl a_nil))) (by decide : ([] : List Nat).Nodup) rfl (have q := ok_shortest_chain (kk + 2) h_r4; q) (fun _ q => nomatch q) rfl) rfl rfl⟩)) rfl rfl) ?_
    obtain ⟨l8, h_l8, h⟩ := bnd h
    refine g_next (env1 := [.va (enc (house : House)), .va (enc (placing : (Tup Sx))), .va (enc (accepted : (Tup Sx))), .va (enc (l5 : (List (Option (Tup (Sx × Sx)))))), .ow false (enc (l8 : (List Int))), .no, .no]) (s_asg (x_lc (Ew := [.va (enc (house : House)), .va (enc (placing : (Tup Sx))), .va (enc (accepted : (Tup Sx))), .va (enc (l5 : (List (Option (Tup (Sx × Sx)))))), .no, .no, .no]) _ (i_seq (e_sl rfl) rfl (SeqC.law _)) rfl rfl rfl h_l8 (fun x6 o ho => ⟨_, rfl, by
      rcases iteB ho with ⟨hb, ho⟩ | ⟨hb, ho⟩
      · obtain ⟨y7, h_y7, ho⟩ := bnd ho
        cases ho
        exact lcb_t (c_so (e_notNo (fun _ => rfl) (e_var rfl) rfl)) hb (e_bi1 (re_opt h_y7 (e_var rfl)) rfl (bl_tup y7)) rfl rfl
      · cases ho
        exact lcb_f (c_so (e_notNo (fun _ => rfl) (e_var rfl) rfl)) hb rfl⟩)) rfl rfl) ?_
    obtain ⟨q10, h_q10, h⟩ := bnd h
    cases h
    refine g_ret (e_ifeT (α := (Option Int)) (s0 := ()) (fun (s : Unit) => [.va (enc (house : House)), .va (enc (placing : (Tup Sx))), .va (enc (accepted : (Tup Sx))), .va (enc (l5 : (List (Option (Tup (Sx × Sx)))))), .ow false (enc (l8 : (List Int))), .no, .no]) (e_cmp (e_sl rfl) (e_lst v_nil (by decide : 0 ≤ sizeLine)) rfl rfl (c_ne (α := (List Int)) (by decide) l8 ([] : (List Int)))) h_q10 (fun q hq => by
      obtain ⟨n9, h_n9, hq⟩ := bnd hq
      cases hq
      exact (e_bi1 (e_sl rfl) rfl (bi_minL h_n9))) (fun q hq => by
      cases hq
      exact e_cst)) rfl ?_
    exact rfl
def t_all_placings (house : House) : Option ((List (Tup Sx))) :=
  (some (([(⟨[]⟩ : (Tup Sx))] : (List (Tup Sx))) : (List (Tup Sx)))).bind fun found1 =>
  (foldT (σ := (List (Tup Sx))) (fun (x2 : (Tup Sx)) (s8 : (List (Tup Sx))) =>
  ((lc2P (β := (Tup Sx)) (fun (x9 : (Tup Sx)) =>
  lcGo (β := (Tup Sx)) (fun (y10 : Sx) =>
  if (!(decide (y10 ∈ x9.l))) = true then
  (catT x9 (⟨[y10]⟩ : (Tup Sx))).bind fun t11 =>
  some (some t11)
  else some none) x2.l) s8 : Option (List (Tup Sx)))).bind fun l12 =>
  some l12) house.accepted.l found1).bind fun s13 =>
  some s13
theorem ok_all_placings (kk : Nat) {house : House} {r : (List (Tup Sx))} (h : t_all_placings house = some r) : runN Pg0 (kk + 1) i_all_placings [.va (enc (house : House))] = some (.nw (enc r), [.no]) := by
  refine run_ok (k := kk + 0) (fn := f_all_placings) rfl rfl (g_top ?_)
  show Gq (FinQ 1 (.nw (enc r), [.no])) (blk Pg0 _ b_all_placings nextM [.va (enc (house : House)), .no, .no, .no, .no])
  unfold t_all_placings at h
  obtain ⟨found1, h_found1, h⟩ := bnd h
  refine g_next (env1 := [.va (enc (house : House)), .ow false (enc (found1 : (List (Tup Sx)))), .no, .no, .no]) (s_asg (re_nw h_found1 (e_lst (v_cons (e_tup v_nil (by decide : 0 ≤ sizeLine)) rfl v_nil) (by decide : 1 ≤ sizeLine))) rfl rfl) ?_
  obtain ⟨s13, h_s13, h⟩ := bnd h
  refine g_fold (s0 := found1) _ (fun (s8 : (List (Tup Sx))) => [.va (enc (house : House)), .ow false (enc (s8 : (List (Tup Sx)))), .no, .no, .no]) (i_seq (e_fld (e_var rfl) rfl (fl_House_accepted _)) rfl (SeqC.law _)) rfl rfl h_s13 ?_ ?_
  · intro x2 s8 o ho
    refine ⟨_, rfl, g_body ?_⟩
    obtain ⟨l12, h_l12, ho⟩ := bnd ho
    refine g_next (env1 := [.va (enc (house : House)), .ow false (enc (l12 : (List (Tup Sx)))), .va (enc (x2 : (Tup Sx))), .no, .no]) (s_asg (e_lc2 (Ew := [.va (enc (house : House)), .va (enc (s8 : (List (Tup Sx)))), .va (enc (x2 : (Tup Sx))), .no, .no]) _ (i_seq (e_sl rfl) rfl (SeqC.law _)) rfl rfl rfl h_l12 (fun x9 o ho => ⟨_, rfl, by
      exact x_in2 (Ew1 := [.va (enc (house : House)), .va (enc (s8 : (List (Tup Sx)))), .va (enc (x2 : (Tup Sx))), .va (enc (x9 : (Tup Sx))), .no]) _ c_no rfl (i_seq (e_var rfl) rfl (SeqC.law _)) rfl rfl ho (fun y10 o hp => ⟨_, rfl, by
        rcases iteB hp with ⟨hb1, hp⟩ | ⟨hb1, hp⟩
        · obtain ⟨t11, h_t11, hp⟩ := bnd hp
          cases hp
          exact lcb_t (c_so (e_cmp (e_var rfl) (e_var rfl) rfl rfl (notin_of (c_inXT y10 x9)))) hb1 (e_bin (e_var rfl) (e_tup (v_cons (e_var rfl) rfl v_nil) (by decide : 1 ≤ sizeLine)) rfl rfl (b_catT h_t11)) rfl rfl
        · cases hp
          exact lcb_f (c_so (e_cmp (e_var rfl) (e_var rfl) rfl rfl (notin_of (c_inXT y10 x9)))) hb1 rfl⟩) (fun _ q => (wipe_up q (by decide)).trans rfl)⟩)) rfl rfl) ?_
    cases ho
    refine g_nil ?_
    exact ⟨_, _, rfl, .inl rfl, rfl⟩
  cases h
  refine g_ret (e_sl rfl) rfl ?_
  exact rfl
def t_has_some (house : House) : Option (Bool) :=
  (t_all_placings house).bind fun r1 =>
  some (decide (r1 ≠ ([] : (List (Tup Sx)))))
theorem ok_has_some (kk : Nat) {house : House} {r : Bool} (h : t_has_some house = some r) : runN Pg0 (kk + 2) i_has_some [.va (enc (house : House))] = some (.dt (enc r), [.no]) := by
  refine run_ok (k := kk + 1) (fn := f_has_some) rfl rfl (g_top ?_)
  show Gq (FinQ 1 (.dt (enc r), [.no])) (blk Pg0 _ b_has_some nextM [.va (enc (house : House))])
  unfold t_has_some at h
  obtain ⟨r1, h_r1, h⟩ := bnd h
  cases h
  refine g_ret (e_cmp (e_call mt_all_placings (a_consF (e_var rfl) rfl a_nil) (by decide : ([] : List Nat).Nodup) rfl (have q := ok_all_placings (kk + 0) h_r1; q) (fun _ q => nomatch q) rfl) (e_lst v_nil (by decide : 0 ≤ sizeLine)) rfl rfl (c_ne (α := (List (Tup Sx))) (by decide) r1 ([] : (List (Tup Sx))))) rfl ?_
  exact rfl
def t_has_placing (house : House) : Option (Bool) :=
  (t_check_house house).bind fun r1 =>
  (t_has_some house).bind fun r2 =>
  some r2
theorem ok_has_placing (kk : Nat) {house : House} {r : Bool} (h : t_has_placing house = some r) : runN Pg0 (kk + 3) i_has_placing [.va (enc (house : House))] = some (.dt (enc r), [.no]) := by
  refine run_ok (k := kk + 2) (fn := f_has_placing) rfl rfl (g_top ?_)
  show Gq (FinQ 1 (.dt (enc r), [.no])) (blk Pg0 _ b_has_placing nextM [.va (enc (house : House))])
  unfold t_has_placing at h
  obtain ⟨r1, h_r1, h⟩ := bnd h
  refine g_next (env1 := [.va (enc (house : House))]) (s_ex (e_call mt_check_house (a_consF (e_var rfl) rfl a_nil) (by decide : ([] : List Nat).Nodup) rfl (have q := ok_check_house (kk + 1) h_r1; q) (fun _ q => nomatch q) rfl)) ?_
  obtain ⟨r2, h_r2, h⟩ := bnd h
  cases h
  refine g_ret (e_call mt_has_some (a_consF (e_var rfl) rfl a_nil) (by decide : ([] : List Nat).Nodup) rfl (have q := ok_has_some (kk + 0) h_r2; q) (fun _ q => nomatch q) rfl) rfl ?_
  exact rfl
def t_law_right (bag_here : (List Int)) : Option (Bool × (List Int)) :=
  (rngT (5 : Int)).bind fun xs1 =>
  (forT (σ := (List Int)) (ρ := Bool × (List Int)) (fun (x2 : Int) (s35 : (List Int)) =>
  (t_law_house s35 (5 : Int) (6 : Int)).bind fun r36 =>
  (t_law_placings r36.1).bind fun r37 =>
  if (decide (r37 = ([] : (List (Tup Sx))))) = true then
  some (.nx r36.2)
  else
  (t_law_made r36.1).bind fun r38 =>
  (t_law_one_2 r36.2 r37).bind fun r39 =>
  ((lcS (β := Sx) (fun (x40 : Sx) (s42 : (List Int)) =>
  (t_law_draw s42 (3 : Int)).bind fun r43 =>
  if (decide (r43.1 = (0 : Int))) = true then
  some (some x40, r43.2)
  else some (none, r43.2)) r36.1.x.t.h.l r39.2 : Option (List Sx × ((List Int))))).bind fun l44 =>
  (some ((⟨l44.1⟩ : (Tup Sx)) : (Tup Sx))).bind fun some45 =>
  (catT r36.1.x.h (⟨[lx_zzz]⟩ : (Tup Sx))).bind fun t46 =>
  (catT r36.1.x.t.t.h (⟨[some45]⟩ : (Tup (Tup Sx)))).bind fun t47 =>
  (t_House_init t46 r36.1.x.t.h t47).bind fun r48 =>
  (t_newcomer r38 r39.1 some45).bind fun r49 =>
  (t_newcomer r38 r39.1 some45).bind fun r50 =>
  (reprT r50).bind fun z51 =>
  (reprT r49).bind fun z52 =>
  if (!decide (z51 = z52)) = true then
  some (.rt (false, l44.2))
  else
  (t_has_placing r48).bind fun r53 =>
  if (decide (r49.isSome ≠ r53)) = true then
  some (.rt (false, l44.2))
  else
  ((lcP (β := Sx) (fun (x54 : Sx) =>
  if (!(decide (x54 ∈ r39.1.l))) = true then
  some (some x54)
  else some none) some45.l : Option (List Sx))).bind fun l55 =>
  if (decide ((decide (r49 = (some (0 : Int) : (Option Int)))) ≠ (decide (l55 ≠ ([] : (List Sx)))))) = true then
  some (.rt (false, l44.2))
  else
  ((lcP (β := (Option Int)) (fun (x56 : Sx) =>
  (t_newcomer r38 r39.1 (⟨[x56]⟩ : (Tup Sx))).bind fun r57 =>
  some (some r57)) some45.l : Option (List (Option Int)))).bind fun l58 =>
  ((lcP (β := Int) (fun (x59 : (Option Int)) =>
  if x59.isSome = true then
  (x59).bind fun y60 =>
  some (some y60)
  else some none) l58 : Option (List Int))).bind fun l61 =>
  ((if (decide (l61 ≠ ([] : (List Int)))) = true then
  (minL l61).bind fun n62 =>
  some ((some n62 : (Option Int)), ())
  else
  some ((none : (Option Int)), ()) : Option ((Option Int) × (Unit)))).bind fun q63 =>
  ((if (decide (r49 ≠ q63.1)) = true then some (true, ()) else
  ((if r49.isSome = true then
  (r49).bind fun y64 =>
  some ((decide ((r39.1.l.length : Int) < y64)), ())
  else some (false, ()) : Option (Bool × (Unit)))).bind fun q65 =>
  some (q65.1, ()) : Option (Bool × (Unit)))).bind fun q66 =>
  if q66.1 = true then
  some (.rt (false, l44.2))
  else
  some (.nx l44.2)) xs1 bag_here).bind fun o68 => match o68 with
  | .nx s67 =>
    some (true, s67)
  | .bk _ => none
  | .rt r => some r
theorem ok_law_right (kk : Nat) {bag_here : (List Int)} {r : Bool × (List Int)} (h : t_law_right bag_here = some r) : runN Pg0 (kk + 6) i_law_right [.ow true (enc (bag_here : (List Int)))] = some (.dt (enc r.1), [.ow true (enc r.2)]) := by
  refine run_ok (k := kk + 5) (fn := f_law_right) rfl rfl (g_top ?_)
  show Gq (FinQ 1 (.dt (enc r.1), [.ow true (enc r.2)])) (blk Pg0 _ b_law_right nextM [.ow true (enc (bag_here : (List Int))), .no, .no, .no, .no, .no, .no, .no, .no, .no, .no, .no])
  unfold t_law_right at h
  obtain ⟨xs1, h_xs1, h⟩ := bnd h
  obtain ⟨o68, h_o68, h⟩ := bnd h
  refine g_for (n := 1) (s0 := bag_here) _ (fun (s35 : (List Int)) => [.ow true (enc (s35 : (List Int))), .no, .no, .no, .no, .no, .no, .no, .no, .no, .no, .no]) (fun (r : Bool × (List Int)) => (.dt (enc r.1), [.ow true (enc r.2)])) (i_rng1 e_cst h_xs1) rfl rfl h_o68 ?_ ?_ ?_
  · intro x2 s35 o ho
    refine ⟨_, rfl, g_body ?_⟩
    obtain ⟨r36, h_r36, ho⟩ := bnd ho
    refine g_next (env1 := [.ow true (enc (r36.2 : (List Int))), .va (enc (x2 : Int)), .ow false (enc (r36.1 : (Hl (Hc (Tup Sx) (Hc (Tup Sx) (Hc (Tup (Tup Sx)) Hn)))))), .no, .no, .no, .no, .no, .no, .no, .no, .no]) (s_asg (e_call mt_law_house (a_consS rfl (a_consF e_cst rfl (a_consF e_cst rfl a_nil))) (by decide : ([0] : List Nat).Nodup) rfl (have q := ok_law_house (kk + 2) h_r36; q) (fun _ q => nomatch q) rfl) rfl rfl) ?_
    obtain ⟨r37, h_r37, ho⟩ := bnd ho
    refine g_next (env1 := [.ow true (enc (r36.2 : (List Int))), .va (enc (x2 : Int)), .va (enc (r36.1 : (Hl (Hc (Tup Sx) (Hc (Tup Sx) (Hc (Tup (Tup Sx)) Hn)))))), .va (enc (r37 : (List (Tup Sx)))), .no, .no, .no, .no, .no, .no, .no, .no]) (s_asg (e_call mt_law_placings (a_consF (e_sl rfl) rfl a_nil) (by decide : ([] : List Nat).Nodup) rfl (have q := ok_law_placings (kk + 4) h_r37; q) (fun _ q => nomatch q) rfl) rfl rfl) ?_
    rcases iteB ho with ⟨hc, ho⟩ | ⟨hc, ho⟩
    · refine g_iteT (e_cmp (e_var rfl) (e_lst v_nil (by decide : 0 ≤ sizeLine)) rfl rfl (c_eq (α := (List (Tup Sx))) (by decide) r37 ([] : (List (Tup Sx))))) hc ?_
      refine g_cnt ?_
      cases ho
      exact ⟨_, _, rfl, .inr rfl, rfl⟩
    · refine g_iteF (e_cmp (e_var rfl) (e_lst v_nil (by decide : 0 ≤ sizeLine)) rfl rfl (c_eq (α := (List (Tup Sx))) (by decide) r37 ([] : (List (Tup Sx))))) hc ?_
      refine g_nil ?_
      obtain ⟨r38, h_r38, ho⟩ := bnd ho
      obtain ⟨r39, h_r39, ho⟩ := bnd ho
      refine g_next (env1 := [.ow true (enc (r39.2 : (List Int))), .va (enc (x2 : Int)), .va (enc (r36.1 : (Hl (Hc (Tup Sx) (Hc (Tup Sx) (Hc (Tup (Tup Sx)) Hn)))))), .va (enc (r37 : (List (Tup Sx)))), .no, .no, .no, .no, .ow false (enc (r38 : House)), .va (enc (r39.1 : (Tup Sx))), .no, .no]) (s_par (r_cons (e_call mt_law_made (a_consF (e_var rfl) rfl a_nil) (by decide : ([] : List Nat).Nodup) rfl (have q := ok_law_made (kk + 0) h_r38; q) (fun _ q => nomatch q) rfl) rfl (r_cons (e_call mt_law_one (a_consS rfl (a_consF (e_var rfl) rfl a_nil)) (by decide : ([0] : List Nat).Nodup) rfl (have q := ok_law_one_2 (kk + 3) h_r39; q) (fun _ q => nomatch q) rfl) rfl r_nil)) rfl) ?_
      obtain ⟨l44, h_l44, ho⟩ := bnd ho
      obtain ⟨some45, h_some45, ho⟩ := bnd ho
      refine g_next (env1 := [.ow true (enc (l44.2 : (List Int))), .va (enc (x2 : Int)), .va (enc (r36.1 : (Hl (Hc (Tup Sx) (Hc (Tup Sx) (Hc (Tup (Tup Sx)) Hn)))))), .va (enc (r37 : (List (Tup Sx)))), .va (enc (some45 : (Tup Sx))), .no, .no, .no, .ow false (enc (r38 : House)), .va (enc (r39.1 : (Tup Sx))), .no, .no]) (s_asg (re_dt h_some45 (e_bi1 (x_lcS (s0 := r39.2) _ (fun (s : (List Int)) => [.ow true (enc (s : (List Int))), .va (enc (x2 : Int)), .va (enc (r36.1 : (Hl (Hc (Tup Sx) (Hc (Tup Sx) (Hc (Tup (Tup Sx)) Hn)))))), .va (enc (r37 : (List (Tup Sx)))), .no, .no, .no, .no, .ow false (enc (r38 : House)), .va (enc (r39.1 : (Tup Sx))), .no, .no]) (i_seq (e_ix (e_var rfl) e_cst rfl rfl rfl) rfl (SeqC.law _)) rfl rfl rfl h_l44 (fun x40 s42 o ho => ⟨_, rfl, by
        obtain ⟨r43, h_r43, ho⟩ := bnd ho
        rcases iteB ho with ⟨hb, ho⟩ | ⟨hb, ho⟩
        · cases ho
          exact lcb_t (c_so (e_cmp (e_call mt_law_draw (a_consS rfl (a_consF e_cst rfl a_nil)) (by decide : ([0] : List Nat).Nodup) rfl (have q := ok_law_draw (kk + 4) h_r43; q) (fun _ q => nomatch q) rfl) e_cst rfl rfl (c_eq (α := Int) (by decide) r43.1 (0 : Int)))) hb (e_var rfl) rfl rfl
        · cases ho
          exact lcb_f (c_so (e_cmp (e_call mt_law_draw (a_consS rfl (a_consF e_cst rfl a_nil)) (by decide : ([0] : List Nat).Nodup) rfl (have q := ok_law_draw (kk + 4) h_r43; q) (fun _ q => nomatch q) rfl) e_cst rfl rfl (c_eq (α := Int) (by decide) r43.1 (0 : Int)))) hb rfl⟩) (fun _ q => back_at (envz := [.ow true (enc (l44.2 : (List Int))), .va (enc (x2 : Int)), .va (enc (r36.1 : (Hl (Hc (Tup Sx) (Hc (Tup Sx) (Hc (Tup (Tup Sx)) Hn)))))), .va (enc (r37 : (List (Tup Sx)))), .no, .no, .no, .no, .ow false (enc (r38 : House)), .va (enc (r39.1 : (Tup Sx))), .no, .no]) rfl (q.trans rfl))) rfl rfl)) rfl rfl) ?_
      obtain ⟨t46, h_t46, ho⟩ := bnd ho
      obtain ⟨t47, h_t47, ho⟩ := bnd ho
      obtain ⟨r48, h_r48, ho⟩ := bnd ho
      refine g_next (env1 := [.ow true (enc (l44.2 : (List Int))), .va (enc (x2 : Int)), .va (enc (r36.1 : (Hl (Hc (Tup Sx) (Hc (Tup Sx) (Hc (Tup (Tup Sx)) Hn)))))), .va (enc (r37 : (List (Tup Sx)))), .va (enc (some45 : (Tup Sx))), .ow false (enc (r48 : House)), .no, .no, .ow false (enc (r38 : House)), .va (enc (r39.1 : (Tup Sx))), .no, .no]) (s_asg (e_make in_House (v_cons (e_bin (e_ix (e_var rfl) e_cst rfl rfl rfl) (e_tup (v_cons e_cst rfl v_nil) (by decide : 1 ≤ sizeLine)) rfl rfl (b_catT h_t46)) rfl (v_cons (e_ix (e_var rfl) e_cst rfl rfl rfl) rfl (v_cons (e_bin (e_ix (e_var rfl) e_cst rfl rfl rfl) (e_tup (v_cons (e_var rfl) rfl v_nil) (by decide : 1 ≤ sizeLine)) rfl rfl (b_catT h_t47)) rfl v_nil))) (have q := ok_House_init (kk + 1) h_r48; q)) rfl rfl) ?_
      obtain ⟨r49, h_r49, ho⟩ := bnd ho
      refine g_next (env1 := [.ow true (enc (l44.2 : (List Int))), .va (enc (x2 : Int)), .va (enc (r36.1 : (Hl (Hc (Tup Sx) (Hc (Tup Sx) (Hc (Tup (Tup Sx)) Hn)))))), .va (enc (r37 : (List (Tup Sx)))), .va (enc (some45 : (Tup Sx))), .ow false (enc (r48 : House)), .va (enc (r49 : (Option Int))), .no, .va (enc (r38 : House)), .va (enc (r39.1 : (Tup Sx))), .no, .no]) (s_asg (e_call mt_newcomer (a_consF (e_sl rfl) rfl (a_consF (e_var rfl) rfl (a_consF (e_var rfl) rfl a_nil))) (by decide : ([] : List Nat).Nodup) rfl (have q := ok_newcomer (kk + 0) h_r49; q) (fun _ q => nomatch q) rfl) rfl rfl) ?_
      obtain ⟨r50, h_r50, ho⟩ := bnd ho
      obtain ⟨z51, h_z51, ho⟩ := bnd ho
      obtain ⟨z52, h_z52, ho⟩ := bnd ho
      rcases iteB ho with ⟨hc, ho⟩ | ⟨hc, ho⟩
      · refine g_iteT (e_cmp (e_bi1 (e_callK mt_newcomer (v_cons (e_var rfl) rfl (v_cons (e_var rfl) rfl (v_cons (e_var rfl) rfl v_nil))) rfl rfl (have q := ok_newcomer (kk + 0) h_r50; q) (fun _ q => nomatch q) (by decide : ([] : List Nat).Nodup) rfl) rfl (bi_reprT h_z51)) (e_bi1 (e_var rfl) rfl (bi_reprT h_z52)) rfl rfl rfl) hc ?_
        cases ho
        refine g_ret e_cst rfl ?_
        exact ⟨_, rfl, rfl⟩
      · refine g_iteF (e_cmp (e_bi1 (e_callK mt_newcomer (v_cons (e_var rfl) rfl (v_cons (e_var rfl) rfl (v_cons (e_var rfl) rfl v_nil))) rfl rfl (have q := ok_newcomer (kk + 0) h_r50; q) (fun _ q => nomatch q) (by decide : ([] : List Nat).Nodup) rfl) rfl (bi_reprT h_z51)) (e_bi1 (e_var rfl) rfl (bi_reprT h_z52)) rfl rfl rfl) hc ?_
        refine g_nil ?_
        obtain ⟨r53, h_r53, ho⟩ := bnd ho
        rcases iteB ho with ⟨hc, ho⟩ | ⟨hc, ho⟩
        · refine g_iteT (e_cmp (e_notNo (fun _ => rfl) (e_var rfl) rfl) (e_call mt_has_placing (a_consF (e_sl rfl) rfl a_nil) (by decide : ([] : List Nat).Nodup) rfl (have q := ok_has_placing (kk + 2) h_r53; q) (fun _ q => nomatch q) rfl) rfl rfl (c_ne (α := Bool) (by decide) r49.isSome r53)) hc ?_
          cases ho
          refine g_ret e_cst rfl ?_
          exact ⟨_, rfl, rfl⟩
        · refine g_iteF (e_cmp (e_notNo (fun _ => rfl) (e_var rfl) rfl) (e_call mt_has_placing (a_consF (e_sl rfl) rfl a_nil) (by decide : ([] : List Nat).Nodup) rfl (have q := ok_has_placing (kk + 2) h_r53; q) (fun _ q => nomatch q) rfl) rfl rfl (c_ne (α := Bool) (by decide) r49.isSome r53)) hc ?_
          refine g_nil ?_
          obtain ⟨l55, h_l55, ho⟩ := bnd ho
          rcases iteB ho with ⟨hc, ho⟩ | ⟨hc, ho⟩
          · refine g_iteT (e_cmp (e_cmp (e_var rfl) e_cst rfl rfl (c_eq (α := (Option Int)) (by decide) r49 (some (0 : Int) : (Option Int)))) (e_cmp (x_lc (Ew := [.ow true (enc (l44.2 : (List Int))), .va (enc (x2 : Int)), .va (enc (r36.1 : (Hl (Hc (Tup Sx) (Hc (Tup Sx) (Hc (Tup (Tup Sx)) Hn)))))), .va (enc (r37 : (List (Tup Sx)))), .va (enc (some45 : (Tup Sx))), .va (enc (r48 : House)), .va (enc (r49 : (Option Int))), .no, .va (enc (r38 : House)), .va (enc (r39.1 : (Tup Sx))), .no, .no]) _ (i_seq (e_var rfl) rfl (SeqC.law _)) rfl rfl rfl h_l55 (fun x54 o ho => ⟨_, rfl, by
              rcases iteB ho with ⟨hb, ho⟩ | ⟨hb, ho⟩
              · cases ho
                exact lcb_t (c_so (e_cmp (e_var rfl) (e_var rfl) rfl rfl (notin_of (c_inXT x54 r39.1)))) hb (e_var rfl) rfl rfl
              · cases ho
                exact lcb_f (c_so (e_cmp (e_var rfl) (e_var rfl) rfl rfl (notin_of (c_inXT x54 r39.1)))) hb rfl⟩)) (e_lst v_nil (by decide : 0 ≤ sizeLine)) rfl rfl (c_ne (α := (List Sx)) (by decide) l55 ([] : (List Sx)))) rfl rfl (c_ne (α := Bool) (by decide) (decide (r49 = (some (0 : Int) : (Option Int)))) (decide (l55 ≠ ([] : (List Sx)))))) hc ?_
            cases ho
            refine g_ret e_cst rfl ?_
            exact ⟨_, rfl, rfl⟩
          · refine g_iteF (e_cmp (e_cmp (e_var rfl) e_cst rfl rfl (c_eq (α := (Option Int)) (by decide) r49 (some (0 : Int) : (Option Int)))) (e_cmp (x_lc (Ew := [.ow true (enc (l44.2 : (List Int))), .va (enc (x2 : Int)), .va (enc (r36.1 : (Hl (Hc (Tup Sx) (Hc (Tup Sx) (Hc (Tup (Tup Sx)) Hn)))))), .va (enc (r37 : (List (Tup Sx)))), .va (enc (some45 : (Tup Sx))), .va (enc (r48 : House)), .va (enc (r49 : (Option Int))), .no, .va (enc (r38 : House)), .va (enc (r39.1 : (Tup Sx))), .no, .no]) _ (i_seq (e_var rfl) rfl (SeqC.law _)) rfl rfl rfl h_l55 (fun x54 o ho => ⟨_, rfl, by
              rcases iteB ho with ⟨hb, ho⟩ | ⟨hb, ho⟩
              · cases ho
                exact lcb_t (c_so (e_cmp (e_var rfl) (e_var rfl) rfl rfl (notin_of (c_inXT x54 r39.1)))) hb (e_var rfl) rfl rfl
              · cases ho
                exact lcb_f (c_so (e_cmp (e_var rfl) (e_var rfl) rfl rfl (notin_of (c_inXT x54 r39.1)))) hb rfl⟩)) (e_lst v_nil (by decide : 0 ≤ sizeLine)) rfl rfl (c_ne (α := (List Sx)) (by decide) l55 ([] : (List Sx)))) rfl rfl (c_ne (α := Bool) (by decide) (decide (r49 = (some (0 : Int) : (Option Int)))) (decide (l55 ≠ ([] : (List Sx)))))) hc ?_
            refine g_nil ?_
            obtain ⟨l58, h_l58, ho⟩ := bnd ho
            refine g_next (env1 := [.ow true (enc (l44.2 : (List Int))), .va (enc (x2 : Int)), .va (enc (r36.1 : (Hl (Hc (Tup Sx) (Hc (Tup Sx) (Hc (Tup (Tup Sx)) Hn)))))), .va (enc (r37 : (List (Tup Sx)))), .va (enc (some45 : (Tup Sx))), .va (enc (r48 : House)), .va (enc (r49 : (Option Int))), .ow false (enc (l58 : (List (Option Int)))), .va (enc (r38 : House)), .va (enc (r39.1 : (Tup Sx))), .no, .no]) (s_asg (x_lc (Ew := [.ow true (enc (l44.2 : (List Int))), .va (enc (x2 : Int)), .va (enc (r36.1 : (Hl (Hc (Tup Sx) (Hc (Tup Sx) (Hc (Tup (Tup Sx)) Hn)))))), .va (enc (r37 : (List (Tup Sx)))), .va (enc (some45 : (Tup Sx))), .va (enc (r48 : House)), .va (enc (r49 : (Option Int))), .no, .va (enc (r38 : House)), .va (enc (r39.1 : (Tup Sx))), .no, .no]) _ (i_seq (e_var rfl) rfl (SeqC.law _)) rfl rfl rfl h_l58 (fun x56 o ho => ⟨_, rfl, by
              obtain ⟨r57, h_r57, ho⟩ := bnd ho
              cases ho
              exact lcb_t c_no rfl (e_call mt_newcomer (a_consF (e_var rfl) rfl (a_consF (e_var rfl) rfl (a_consF (e_tup (v_cons (e_var rfl) rfl v_nil) (by decide : 1 ≤ sizeLine)) rfl a_nil))) (by decide : ([] : List Nat).Nodup) rfl (have q := ok_newcomer (kk + 0) h_r57; q) (fun _ q => nomatch q) rfl) rfl rfl⟩)) rfl rfl) ?_
            obtain ⟨l61, h_l61, ho⟩ := bnd ho
            refine g_next (env1 := [.ow true (enc (l44.2 : (List Int))), .va (enc (x2 : Int)), .va (enc (r36.1 : (Hl (Hc (Tup Sx) (Hc (Tup Sx) (Hc (Tup (Tup Sx)) Hn)))))), .va (enc (r37 : (List (Tup Sx)))), .va (enc (some45 : (Tup Sx))), .va (enc (r48 : House)), .va (enc (r49 : (Option Int))), .ow false (enc (l61 : (List Int))), .va (enc (r38 : House)), .va (enc (r39.1 : (Tup Sx))), .no, .no]) (s_asg (x_lc (Ew := [.ow true (enc (l44.2 : (List Int))), .va (enc (x2 : Int)), .va (enc (r36.1 : (Hl (Hc (Tup Sx) (Hc (Tup Sx) (Hc (Tup (Tup Sx)) Hn)))))), .va (enc (r37 : (List (Tup Sx)))), .va (enc (some45 : (Tup Sx))), .va (enc (r48 : House)), .va (enc (r49 : (Option Int))), .va (enc (l58 : (List (Option Int)))), .va (enc (r38 : House)), .va (enc (r39.1 : (Tup Sx))), .no, .no]) _ (i_seq (e_sl rfl) rfl (SeqC.law _)) rfl rfl rfl h_l61 (fun x59 o ho => ⟨_, rfl, by
              rcases iteB ho with ⟨hb, ho⟩ | ⟨hb, ho⟩
              · obtain ⟨y60, h_y60, ho⟩ := bnd ho
                cases ho
                exact lcb_t (c_so (e_notNo (fun _ => rfl) (e_var rfl) rfl)) hb (re_opt h_y60 (e_var rfl)) rfl rfl
              · cases ho
                exact lcb_f (c_so (e_notNo (fun _ => rfl) (e_var rfl) rfl)) hb rfl⟩)) rfl rfl) ?_
            obtain ⟨q63, h_q63, ho⟩ := bnd ho
            obtain ⟨q66, h_q66, ho⟩ := bnd ho
            rcases iteB ho with ⟨hc, ho⟩ | ⟨hc, ho⟩
            · refine g_iteT (e_orT (s0 := ()) (fun (s : Unit) => [.ow true (enc (l44.2 : (List Int))), .va (enc (x2 : Int)), .va (enc (r36.1 : (Hl (Hc (Tup Sx) (Hc (Tup Sx) (Hc (Tup (Tup Sx)) Hn)))))), .va (enc (r37 : (List (Tup Sx)))), .va (enc (some45 : (Tup Sx))), .va (enc (r48 : House)), .va (enc (r49 : (Option Int))), .ow false (enc (l61 : (List Int))), .va (enc (r38 : House)), .va (enc (r39.1 : (Tup Sx))), .no, .no]) (e_cmp (e_var rfl) (e_ifeT (α := (Option Int)) (s0 := ()) (fun (s : Unit) => [.ow true (enc (l44.2 : (List Int))), .va (enc (x2 : Int)), .va (enc (r36.1 : (Hl (Hc (Tup Sx) (Hc (Tup Sx) (Hc (Tup (Tup Sx)) Hn)))))), .va (enc (r37 : (List (Tup Sx)))), .va (enc (some45 : (Tup Sx))), .va (enc (r48 : House)), .va (enc (r49 : (Option Int))), .ow false (enc (l61 : (List Int))), .va (enc (r38 : House)), .va (enc (r39.1 : (Tup Sx))), .no, .no]) (e_cmp (e_sl rfl) (e_lst v_nil (by decide : 0 ≤ sizeLine)) rfl rfl (c_ne (α := (List Int)) (by decide) l61 ([] : (List Int)))) h_q63 (fun q hq => by
                obtain ⟨n62, h_n62, hq⟩ := bnd hq
                cases hq
                exact (e_bi1 (e_sl rfl) rfl (bi_minL h_n62))) (fun q hq => by
                cases hq
                exact e_cst)) rfl rfl (c_ne (α := (Option Int)) (by decide) r49 q63.1)) h_q66 (fun q hq => by
                obtain ⟨q65, h_q65, hq⟩ := bnd hq
                cases hq
                exact (e_andT (s0 := ()) (fun (s : Unit) => [.ow true (enc (l44.2 : (List Int))), .va (enc (x2 : Int)), .va (enc (r36.1 : (Hl (Hc (Tup Sx) (Hc (Tup Sx) (Hc (Tup (Tup Sx)) Hn)))))), .va (enc (r37 : (List (Tup Sx)))), .va (enc (some45 : (Tup Sx))), .va (enc (r48 : House)), .va (enc (r49 : (Option Int))), .ow false (enc (l61 : (List Int))), .va (enc (r38 : House)), .va (enc (r39.1 : (Tup Sx))), .no, .no]) (e_notNo (fun _ => rfl) (e_var rfl) rfl) h_q65 (fun q hq => by
                  obtain ⟨y64, h_y64, hq⟩ := bnd hq
                  cases hq
                  exact (e_cmp (re_opt h_y64 (e_var rfl)) (e_bi1 (e_var rfl) rfl (bl_tup r39.1)) rfl rfl rfl))))) hc ?_
              cases ho
              refine g_ret e_cst rfl ?_
              exact ⟨_, rfl, rfl⟩
            · refine g_iteF (e_orT (s0 := ()) (fun (s : Unit) => [.ow true (enc (l44.2 : (List Int))), .va (enc (x2 : Int)), .va (enc (r36.1 : (Hl (Hc (Tup Sx) (Hc (Tup Sx) (Hc (Tup (Tup Sx)) Hn)))))), .va (enc (r37 : (List (Tup Sx)))), .va (enc (some45 : (Tup Sx))), .va (enc (r48 : House)), .va (enc (r49 : (Option Int))), .ow false (enc (l61 : (List Int))), .va (enc (r38 : House)), .va (enc (r39.1 : (Tup Sx))), .no, .no]) (e_cmp (e_var rfl) (e_ifeT (α := (Option Int)) (s0 := ()) (fun (s : Unit) => [.ow true (enc (l44.2 : (List Int))), .va (enc (x2 : Int)), .va (enc (r36.1 : (Hl (Hc (Tup Sx) (Hc (Tup Sx) (Hc (Tup (Tup Sx)) Hn)))))), .va (enc (r37 : (List (Tup Sx)))), .va (enc (some45 : (Tup Sx))), .va (enc (r48 : House)), .va (enc (r49 : (Option Int))), .ow false (enc (l61 : (List Int))), .va (enc (r38 : House)), .va (enc (r39.1 : (Tup Sx))), .no, .no]) (e_cmp (e_sl rfl) (e_lst v_nil (by decide : 0 ≤ sizeLine)) rfl rfl (c_ne (α := (List Int)) (by decide) l61 ([] : (List Int)))) h_q63 (fun q hq => by
                obtain ⟨n62, h_n62, hq⟩ := bnd hq
                cases hq
                exact (e_bi1 (e_sl rfl) rfl (bi_minL h_n62))) (fun q hq => by
                cases hq
                exact e_cst)) rfl rfl (c_ne (α := (Option Int)) (by decide) r49 q63.1)) h_q66 (fun q hq => by
                obtain ⟨q65, h_q65, hq⟩ := bnd hq
                cases hq
                exact (e_andT (s0 := ()) (fun (s : Unit) => [.ow true (enc (l44.2 : (List Int))), .va (enc (x2 : Int)), .va (enc (r36.1 : (Hl (Hc (Tup Sx) (Hc (Tup Sx) (Hc (Tup (Tup Sx)) Hn)))))), .va (enc (r37 : (List (Tup Sx)))), .va (enc (some45 : (Tup Sx))), .va (enc (r48 : House)), .va (enc (r49 : (Option Int))), .ow false (enc (l61 : (List Int))), .va (enc (r38 : House)), .va (enc (r39.1 : (Tup Sx))), .no, .no]) (e_notNo (fun _ => rfl) (e_var rfl) rfl) h_q65 (fun q hq => by
                  obtain ⟨y64, h_y64, hq⟩ := bnd hq
                  cases hq
                  exact (e_cmp (re_opt h_y64 (e_var rfl)) (e_bi1 (e_var rfl) rfl (bl_tup r39.1)) rfl rfl rfl))))) hc ?_
              refine g_nil ?_
              cases ho
              refine g_nil ?_
              exact ⟨_, _, rfl, .inl rfl, rfl⟩
  · intro s67 q
    subst q
    cases h
    refine g_ret e_cst rfl ?_
    exact rfl
  · intro r q env' hcl
    subst q
    cases h
    exact fin_rt hcl
def t_law (script : Scr) : Option (Bool) :=
  (rngT (max2T (2 : Int) (min2T (script.l.length : Int) (5 : Int)))).bind fun xs1 =>
  ((lcP (β := Bool) (fun (x2 : Int) =>
  (t_law_bag script x2).bind fun r3 =>
  (t_law_right r3).bind fun r4 =>
  some (some r4.1)) xs1 : Option (List Bool))).bind fun l5 =>
  some (l5.all id)
theorem ok_law (kk : Nat) {script : Scr} {r : Bool} (h : t_law script = some r) : runN Pg0 (kk + 7) i_law [.va (enc (script : Scr))] = some (.dt (enc r), [.no]) := by
  refine run_ok (k := kk + 6) (fn := f_law) rfl rfl (g_top ?_)
  show Gq (FinQ 1 (.dt (enc r), [.no])) (blk Pg0 _ b_law nextM [.va (enc (script : Scr)), .no])
  unfold t_law at h
  obtain ⟨xs1, h_xs1, h⟩ := bnd h
  obtain ⟨l5, h_l5, h⟩ := bnd h
  cases h
  refine g_ret (e_bi1 (x_lc (Ew := [.va (enc (script : Scr)), .no]) _ (i_rng1 (e_bi2 e_cst (e_bi2 (e_bi1 (e_var rfl) rfl (bl_scr script)) e_cst rfl rfl (bi_min2T _ _)) rfl rfl (bi_max2T _ _)) h_xs1) rfl rfl rfl h_l5 (fun x2 o ho => ⟨_, rfl, by
    obtain ⟨r3, h_r3, ho⟩ := bnd ho
    obtain ⟨r4, h_r4, ho⟩ := bnd ho
    cases ho
    exact lcb_t c_no rfl (e_call mt_law_right (a_consN (e_call mt_law_bag (a_consF (e_var rfl) rfl (a_consF (e_var rfl) rfl a_nil)) (by decide : ([] : List Nat).Nodup) rfl (have q := ok_law_bag (kk + 5) h_r3; q) (fun _ q => nomatch q) rfl) a_nil) (by decide : ([] : List Nat).Nodup) rfl (have q := ok_law_right (kk + 0) h_r4; q) (fun _ q => nomatch q) rfl) rfl rfl⟩)) rfl (bi_allT _)) rfl ?_
  exact rfl
end VI
/-! tools for typed runs -/
namespace VI
open PySem L2 Enc
theorem sz : sizeLine = 16777216 := rfl
section
variable {α β σ ρ : Type}
theorem bs {x : Option α} {v : α} {f : α → Option β} {o : Option β} (h : x = some v) (g : f v = o) : x.bind f = o := by rw [h]; exact g
/-- told so that a proof keeps each step: the kernel never compares large terms -/
theorem bso {a : α} {f : α → Option β} : (some a).bind f = f a := by
  cases h : f a with
  | none => exact h
  | some b => exact h
theorem ex_b {x : Option α} {P : α → Prop} {f : α → Option β} {Q : β → Prop} (h : ∃ v, x = some v ∧ P v) (g : ∀ v, P v → ∃ r, f v = some r ∧ Q r) : ∃ r, x.bind f = some r ∧ Q r := by
  obtain ⟨v, e, p⟩ := h
  rw [e]; exact g v p
theorem ex_e {x : Option α} {P : α → Prop} {f : α → Option β} {o : Option β} (h : ∃ v, x = some v ∧ P v) (g : ∀ v, P v → f v = o) : x.bind f = o := by
  obtain ⟨v, e, p⟩ := h
  rw [e]; exact g v p
theorem ex_imp {x : Option α} {P Q : α → Prop} (h : ∃ v, x = some v ∧ P v) (g : ∀ v, P v → Q v) : ∃ v, x = some v ∧ Q v := let ⟨v, e, p⟩ := h; ⟨v, e, g v p⟩
theorem ex_r {v : α} {Q : α → Prop} (h : Q v) : ∃ r, some v = some r ∧ Q r := ⟨v, rfl, h⟩
/-! comprehensions -/
theorem lcGo_eq {f : α → Option (Option β)} (g : α → Option β) : ∀ (xs : List α), (∀ x ∈ xs, f x = some (g x)) → lcGo f xs = some (xs.filterMap g)
  | [], _ => rfl
  | x :: xs, h => by
    unfold lcGo
    rw [h x (List.mem_cons_self ..), lcGo_eq g xs fun y hy => h y (List.mem_cons_of_mem _ hy)]
    simp only [Option.bind_some, List.filterMap_cons]
    cases g x <;> rfl
theorem lcP_eq {f : α → Option (Option β)} (g : α → Option β) {xs : List α} (hl : xs.length ≤ sizeLine) (h : ∀ x ∈ xs, f x = some (g x)) : lcP f xs = some (xs.filterMap g) := by
  unfold lcP; rw [if_pos hl]; exact lcGo_eq g xs h
theorem lcGo_map {f : α → Option (Option β)} (g : α → β) {xs : List α} (h : ∀ x ∈ xs, f x = some (some (g x))) : lcGo f xs = some (xs.map g) := by
  rw [lcGo_eq (fun x => some (g x)) xs h, List.filterMap_eq_map']
theorem lcP_map {f : α → Option (Option β)} (g : α → β) {xs : List α} (hl : xs.length ≤ sizeLine) (h : ∀ x ∈ xs, f x = some (some (g x))) : lcP f xs = some (xs.map g) := by
  unfold lcP; rw [if_pos hl]; exact lcGo_map g h
theorem lcGo_filter {f : α → Option (Option α)} (p : α → Bool) : ∀ {xs : List α}, (∀ x ∈ xs, f x = some (if p x = true then some x else none)) → lcGo f xs = some (xs.filter p)
  | [], _ => rfl
  | x :: xs, h => by
    unfold lcGo
    rw [h x (List.mem_cons_self ..), lcGo_filter p fun y hy => h y (List.mem_cons_of_mem _ hy)]
    simp only [Option.bind_some, List.filter_cons]
    cases p x <;> rfl
theorem lcP_filter {f : α → Option (Option α)} (p : α → Bool) {xs : List α} (hl : xs.length ≤ sizeLine) (h : ∀ x ∈ xs, f x = some (if p x = true then some x else none)) : lcP f xs = some (xs.filter p) := by
  unfold lcP; rw [if_pos hl]; exact lcGo_filter p h
theorem lcGo_fm {f : α → Option (Option β)} (p : α → Bool) (g : α → β) : ∀ {xs : List α}, (∀ x ∈ xs, f x = some (if p x = true then some (g x) else none)) → lcGo f xs = some ((xs.filter p).map g)
  | [], _ => rfl
  | x :: xs, h => by
    unfold lcGo
    rw [h x (List.mem_cons_self ..), lcGo_fm p g fun y hy => h y (List.mem_cons_of_mem _ hy)]
    simp only [Option.bind_some, List.filter_cons]
    cases p x <;> rfl
theorem lcP_fm {f : α → Option (Option β)} (p : α → Bool) (g : α → β) {xs : List α} (hl : xs.length ≤ sizeLine) (h : ∀ x ∈ xs, f x = some (if p x = true then some (g x) else none)) : lcP f xs = some ((xs.filter p).map g) := by
  unfold lcP; rw [if_pos hl]; exact lcGo_fm p g h
theorem lc2Go_eq {f : α → Option (List β)} (g : α → List β) : ∀ (xs : List α) (n : Nat), (∀ x ∈ xs, f x = some (g x)) → n + (xs.flatMap g).length ≤ sizeLine → lc2Go f xs n = some (xs.flatMap g)
  | [], _, _, _ => rfl
  | x :: xs, n, h, hl => by
    unfold lc2Go
    rw [List.flatMap_cons, List.length_append] at hl
    rw [h x (List.mem_cons_self ..), Option.bind_some, if_pos (by omega), lc2Go_eq g xs _ (fun y hy => h y (List.mem_cons_of_mem _ hy)) (by omega)]
    rfl
theorem lc2P_eq {f : α → Option (List β)} (g : α → List β) {xs : List α} (h : ∀ x ∈ xs, f x = some (g x)) (hl : (xs.flatMap g).length ≤ sizeLine) : lc2P f xs = some (xs.flatMap g) :=
  lc2Go_eq g xs 0 h (by omega)
/-! loops -/
theorem foldT_eq {f : α → σ → Option σ} (g : α → σ → σ) : ∀ (xs : List α) (s : σ), (∀ x ∈ xs, ∀ s, f x s = some (g x s)) → foldT f xs s = some (xs.foldl (fun s x => g x s) s)
  | [], _, _ => rfl
  | x :: xs, s, h => by
    unfold foldT
    rw [h x (List.mem_cons_self ..), Option.bind_some, foldT_eq g xs _ fun y hy => h y (List.mem_cons_of_mem _ hy)]
    rfl
theorem foldT_inv {f : α → σ → Option σ} (I : List α → σ → Prop) {xs : List α} : ∀ (post pre : List α) (s : σ), pre ++ post = xs → I pre s →
    (∀ pre x post s, pre ++ x :: post = xs → I pre s → ∃ s', f x s = some s' ∧ I (pre ++ [x]) s') → ∃ s', foldT f post s = some s' ∧ I xs s'
  | [], pre, s, e, i, _ => ⟨s, rfl, by rw [List.append_nil] at e; rw [← e]; exact i⟩
  | x :: post, pre, s, e, i, st => by
    obtain ⟨s1, h1, h2⟩ := st pre x post s e i
    obtain ⟨s2, h3, h4⟩ := foldT_inv I post (pre ++ [x]) s1 (by rw [List.append_assoc]; exact e) h2 st
    exact ⟨s2, by unfold foldT; rw [h1]; exact h3, h4⟩
theorem foldT_ok {f : α → σ → Option σ} (I : List α → σ → Prop) (xs : List α) (s : σ) (i : I [] s) (st : ∀ pre x post s, pre ++ x :: post = xs → I pre s → ∃ s', f x s = some s' ∧ I (pre ++ [x]) s') : ∃ s', foldT f xs s = some s' ∧ I xs s' :=
  foldT_inv I xs [] s rfl i st
def FwI (I : σ → Prop) (B : σ → Prop) (Rt : ρ → Prop) : Fw σ ρ → Prop
  | .nx s => I s
  | .bk s => B s
  | .rt r => Rt r
theorem forT_inv {f : α → σ → Option (Fw σ ρ)} (I : List α → σ → Prop) (B : σ → Prop) (Rt : ρ → Prop) {xs : List α} : ∀ (post pre : List α) (s : σ), pre ++ post = xs → I pre s →
    (∀ pre x post s, pre ++ x :: post = xs → I pre s → ∃ o, f x s = some o ∧ FwI (I (pre ++ [x])) B Rt o) → ∃ o, forT f post s = some o ∧ ((∃ s, o = .nx s ∧ (I xs s ∨ B s)) ∨ ∃ r, o = .rt r ∧ Rt r)
  | [], pre, s, e, i, _ => ⟨_, rfl, .inl ⟨s, rfl, .inl (by rw [List.append_nil] at e; rw [← e]; exact i)⟩⟩
  | x :: post, pre, s, e, i, st => by
    obtain ⟨o, h1, h2⟩ := st pre x post s e i
    unfold forT
    rw [h1, Option.bind_some]
    cases o with
    | nx s1 => exact forT_inv I B Rt post (pre ++ [x]) s1 (by rw [List.append_assoc]; exact e) h2 st
    | bk s1 => exact ⟨_, rfl, .inl ⟨s1, rfl, .inr h2⟩⟩
    | rt r => exact ⟨_, rfl, .inr ⟨r, rfl, h2⟩⟩
theorem forT_ok {f : α → σ → Option (Fw σ ρ)} (I : List α → σ → Prop) (Rt : ρ → Prop) (xs : List α) (s : σ) (i : I [] s)
    (st : ∀ pre x post s, pre ++ x :: post = xs → I pre s → ∃ o, f x s = some o ∧ FwI (I (pre ++ [x])) (fun _ => False) Rt o) : ∃ o, forT f xs s = some o ∧ ((∃ s, o = .nx s ∧ I xs s) ∨ ∃ r, o = .rt r ∧ Rt r) := by
  obtain ⟨o, h1, h2⟩ := forT_inv I (fun _ => False) Rt xs [] s rfl i st
  refine ⟨o, h1, ?_⟩
  rcases h2 with ⟨s, e, h | h⟩ | h
  · exact .inl ⟨s, e, h⟩
  · exact h.elim
  · exact .inr h
/-- no way out of the loop -/
theorem forT_nx {f : α → σ → Option (Fw σ ρ)} (I : List α → σ → Prop) (xs : List α) (s : σ) (i : I [] s)
    (st : ∀ pre x post s, pre ++ x :: post = xs → I pre s → ∃ s', f x s = some (.nx s') ∧ I (pre ++ [x]) s') : ∃ s', forT f xs s = some (.nx s') ∧ I xs s' := by
  obtain ⟨o, h1, h2⟩ := forT_ok I (fun _ : ρ => False) xs s i fun pre x post s e i => by
    obtain ⟨s', h, h'⟩ := st pre x post s e i
    exact ⟨_, h, h'⟩
  rcases h2 with ⟨s', e, h⟩ | ⟨_, _, h⟩
  · exact ⟨s', by rw [h1, e], h⟩
  · exact h.elim
theorem forT_nx' {f : α → σ → Option (Fw σ ρ)} (I : List α → σ → Prop) (xs : List α) (s : σ) (i : I [] s)
    (st : ∀ pre x post s, pre ++ x :: post = xs → I pre s → ∃ s', f x s = some (.nx s') ∧ I (pre ++ [x]) s') : ∃ o, forT f xs s = some o ∧ ∃ s', o = .nx s' ∧ I xs s' :=
  let ⟨s', h1, h2⟩ := forT_nx I xs s i st
  ⟨_, h1, s', rfl, h2⟩
/-- one turn of a loop that goes on -/
theorem nx_b {x : Option α} {P : α → Prop} {f : α → Option (Fw σ ρ)} {Q : σ → Prop} (h : ∃ v, x = some v ∧ P v) (g : ∀ v, P v → ∃ s, f v = some (.nx s) ∧ Q s) : ∃ s, x.bind f = some (.nx s) ∧ Q s := by
  obtain ⟨v, e, p⟩ := h
  rw [e]; exact g v p
theorem forT_u {f : α → Unit → Option (Fw Unit ρ)} (xs : List α) (h : ∀ x ∈ xs, f x () = some (.nx ())) : forT f xs () = some (.nx ()) := by
  induction xs with
  | nil => rfl
  | cons x xs ih =>
    unfold forT
    rw [h x (List.mem_cons_self ..), Option.bind_some]
    exact ih fun y hy => h y (List.mem_cons_of_mem _ hy)
theorem lcS_inv {f : α → σ → Option (Option β × σ)} (I : List α → List β → σ → Prop) {xs : List α} : ∀ (post pre : List α) (acc : List β) (s : σ), pre ++ post = xs → I pre acc s →
    (∀ pre x post acc s, pre ++ x :: post = xs → I pre acc s → ∃ o s', f x s = some (o, s') ∧ I (pre ++ [x]) (acc ++ o.toList) s') → ∃ l s', lcGoS f post s = some (l, s') ∧ I xs (acc ++ l) s'
  | [], pre, acc, s, e, i, _ => ⟨[], s, rfl, by rw [List.append_nil] at e; rw [← e, List.append_nil]; exact i⟩
  | x :: post, pre, acc, s, e, i, st => by
    obtain ⟨o, s1, h1, h2⟩ := st pre x post acc s e i
    obtain ⟨l, s2, h3, h4⟩ := lcS_inv I post (pre ++ [x]) (acc ++ o.toList) s1 (by rw [List.append_assoc]; exact e) h2 st
    refine ⟨o.toList ++ l, s2, ?_, by rw [← List.append_assoc]; exact h4⟩
    unfold lcGoS
    rw [h1, Option.bind_some]
    simp only [h3, Option.bind_some]
    cases o <;> rfl
theorem lcS_ok {f : α → σ → Option (Option β × σ)} (I : List α → List β → σ → Prop) (xs : List α) (s : σ) (hl : xs.length ≤ sizeLine) (i : I [] [] s)
    (st : ∀ pre x post acc s, pre ++ x :: post = xs → I pre acc s → ∃ o s', f x s = some (o, s') ∧ I (pre ++ [x]) (acc ++ o.toList) s') : ∃ l s', lcS f xs s = some (l, s') ∧ I xs l s' := by
  obtain ⟨l, s', h1, h2⟩ := lcS_inv I xs [] [] s rfl i st
  exact ⟨l, s', by unfold lcS; rw [if_pos hl]; exact h1, h2⟩
end
/-! numbers -/
theorem mulT_l {a b : Int} (h : -(2 ^ 64) < a ∧ a < 2 ^ 64) : mulT a b = some (a * b) := by unfold mulT; rw [if_pos (show CMul a b from .inl h)]
theorem mulT_r {a b : Int} (h : -(2 ^ 64) < b ∧ b < 2 ^ 64) : mulT a b = some (a * b) := by unfold mulT; rw [if_pos (show CMul a b from .inr h)]
theorem modT_p {a b : Int} (h : 0 < b) : modT a b = some (a % b) := by unfold modT; rw [if_pos h]
theorem divmodT_p {a b : Int} (h : 0 < b ∧ b < 1073741824) : divmodT a b = some (a / b, a % b) := by unfold divmodT; rw [if_pos (show CDiv a b from h)]
theorem divT_p {a b : Int} (h : 0 < b ∧ b < 1073741824) : divT a b = some (a / b) := by unfold divT; rw [if_pos (show CDiv a b from h)]
theorem rngT_n (n : Nat) (h : n < 4611686018427387904) : rngT (n : Int) = some ((List.range n).map fun (k : Nat) => (k : Int)) := by
  unfold rngT
  rw [if_pos ⟨by omega, by omega⟩, Int.toNat_natCast]
theorem rngT_i {i : Int} (n : Nat) (e : i = (n : Int)) (h : n < 4611686018427387904) : rngT i = some ((List.range n).map fun (k : Nat) => (k : Int)) := by rw [e]; exact rngT_n n h
theorem atI_n {α : Type} {l : List α} (n : Nat) : atI l (n : Int) = l[n]? := by
  unfold atI ixN
  rw [if_pos (Int.natCast_nonneg n)]
  by_cases h : n < l.length
  · rw [if_pos (by omega)]; simp
  · rw [if_neg (by omega), List.getElem?_eq_none (by omega)]; rfl
theorem atI_i {α : Type} {l : List α} {i : Int} (h0 : 0 ≤ i) : atI l i = l[i.toNat]? := by
  obtain ⟨n, rfl⟩ := Int.eq_ofNat_of_zero_le h0
  rw [atI_n]; rfl
theorem atI_some {α : Type} {l : List α} {n : Nat} (h : n < l.length) : atI l (n : Int) = some l[n] := by rw [atI_n, List.getElem?_eq_getElem h]
theorem atI_lt {α : Type} {l : List α} {i : Int} (h0 : 0 ≤ i) (h1 : i < l.length) : ∃ x, atI l i = some x ∧ x ∈ l := by
  rw [atI_i h0]
  have : i.toNat < l.length := by omega
  exact ⟨l[i.toNat], List.getElem?_eq_getElem this, List.getElem_mem this⟩
theorem atI_last {α : Type} {l : List α} {x : α} : atI (l ++ [x]) (-1) = some x := by
  unfold atI ixN
  have e : (-1 + ((l ++ [x]).length : Int)).toNat = l.length := by rw [List.length_append]; simp; omega
  rw [if_neg (by omega), if_pos (by rw [List.length_append]; simp; omega), Option.bind_some, e]
  simp
/-! lists and tuples -/
theorem catT_ok {α : Type} {a b : Tup α} (h : a.l.length + b.l.length ≤ sizeLine) : catT a b = some ⟨a.l ++ b.l⟩ := by unfold catT; rw [if_pos h]
theorem catL_ok {α : Type} {a b : List α} (h : a.length + b.length ≤ sizeLine) : catL a b = some (a ++ b) := by unfold catL; rw [if_pos h]
theorem appT_ok {α : Type} [Enc α] {a : List α} {b : α} (h : a.length < sizeLine) : appT a b = some (a ++ [b]) := by unfold appT; rw [if_pos h]
theorem extT_ok {α : Type} [Enc α] {a b : List α} (h : a.length + b.length ≤ sizeLine) : extT a b = some (a ++ b) := by unfold extT; rw [if_pos h]
theorem catX_ok {a b : Sx} (h : a.s.length + b.s.length ≤ sizeLine) : catX a b = some (a ++ b) := by unfold catX; rw [if_pos h]
theorem lenX_ok {a : Sx} (h : a.s.length ≤ sizeLine) : lenX a = some (a.s.length : Int) := by unfold lenX; rw [if_pos h]
theorem indexX_ok {t : Tup Sx} {x : Sx} (h : x ∈ t.l) : indexX t x = some ((t.l.idxOf x : Nat) : Int) := by unfold indexX; rw [if_pos h]
theorem cutL_take {α : Type} (l : List α) (n : Nat) : cutL l none (some (n : Int)) = l.take n := by
  unfold cutL
  rw [HT.sIx_none, HT.sIx_nat, List.drop_zero, Nat.sub_zero, List.take_eq_take_iff]
  omega
theorem cutL_drop {α : Type} (l : List α) (n : Nat) : cutL l (some (n : Int)) none = l.drop n := by
  unfold cutL
  rw [HT.sIx_none, HT.sIx_nat]
  by_cases h : n ≤ l.length
  · rw [Nat.min_eq_left h]
    rw [List.take_of_length_le (by rw [List.length_drop]; omega)]
  · rw [Nat.min_eq_right (by omega), Nat.sub_self, List.take_zero, List.drop_eq_nil_of_le (by omega)]
theorem tup_eta {α : Type} (t : Tup α) : (⟨t.l⟩ : Tup α) = t := rfl
end VI
/-! making a house -/
namespace VI
open PySem L2 Enc
theorem enm_at {α : Type} {v : List α} {pre post : List (Int × α)} {x : Int × α} (h : pre ++ x :: post = enmL v) : ∃ hl : pre.length < v.length, x = ((pre.length : Int), v[pre.length]) := by
  have h1 : (enmL v)[pre.length]? = some x := by rw [← h]; simp
  unfold enmL at h1
  rw [List.getElem?_map] at h1
  by_cases hl : pre.length < v.length
  · refine ⟨hl, ?_⟩
    rw [List.getElem?_eq_getElem (by rw [List.length_zipIdx]; exact hl)] at h1
    simp at h1
    exact h1.symm
  · rw [List.getElem?_eq_none (by rw [List.length_zipIdx]; omega)] at h1
    cases h1
def NameOk (x : Sx) : Prop := t_is_name x = some true
theorem s_wrong {v others : List Sx} {most : Nat} (hn : ∀ x ∈ v, NameOk x) (nd : v.Nodup) (hl : v.length ≤ most) (hd : ∀ x ∈ v, x ∉ others) : t_wrong_name ⟨v⟩ (most : Int) ⟨others⟩ = some none := by
  unfold t_wrong_name
  obtain ⟨s, h1, _⟩ := forT_nx (f := (fun (x1 : (Int × Sx)) (s2 : Unit) =>
  ((if (decide (x1.1 = (most : Int))) = true then some (true, ()) else
  (t_is_name x1.2).bind fun r3 =>
  some (((!r3) || ((decide (x1.2 ∈ (⟨cutL v none (some x1.1)⟩ : (Tup Sx)).l)) || (decide (x1.2 ∈ others)))), ()) : Option (Bool × (Unit)))).bind fun q4 =>
  if q4.1 = true then
  some (.rt (some x1.1 : (Option Int)))
  else
  some (.nx ()))) (fun _ _ => True) (enmL v) () trivial (fun pre x post s e _ => by
    obtain ⟨hlt, rfl⟩ := enm_at e
    refine ⟨(), ?_, trivial⟩
    have hm : v[pre.length] ∈ v := List.getElem_mem hlt
    have h2 : v[pre.length] ∉ v.take pre.length := by
      intro q
      obtain ⟨j, hj, e2⟩ := List.getElem_of_mem q
      rw [List.length_take] at hj
      rw [List.getElem_take] at e2
      have := (List.getElem_inj (h₀ := by omega) (h₁ := hlt) nd).mp e2
      omega
    have h3 : ¬ ((pre.length : Int) = (most : Int)) := by omega
    have h4 : t_is_name v[pre.length] = some true := hn _ hm
    simp only [h3, decide_false, Bool.false_eq_true, if_false, h4, bso, cutL_take, h2, hd _ hm, Bool.not_true, Bool.or_false])
  rw [h1]
  rfl
theorem s_check_guests {g : List Sx} (hn : ∀ x ∈ g, NameOk x) (nd : g.Nodup) (h1 : g ≠ []) (hl : g.length ≤ 6) : t_check_guests ⟨g⟩ = some () := by
  unfold t_check_guests
  have e : ¬ ((⟨g⟩ : Tup Sx) = ⟨[]⟩) := fun q => h1 (congrArg Tup.l q)
  have := s_wrong (others := []) (most := 6) hn nd hl (fun _ _ => List.not_mem_nil)
  have h6 : ((6 : Nat) : Int) = (6 : Int) := rfl
  rw [h6] at this
  simp only [e, decide_false, Bool.not_true, Bool.or_false, Bool.false_eq_true, if_false, this, bso, Option.isSome_none]
theorem s_check_rooms {r g : List Sx} (hn : ∀ x ∈ r, NameOk x) (nd : r.Nodup) (h1 : r ≠ []) (hl : r.length ≤ 8) (hd : ∀ x ∈ r, x ∉ g) : t_check_rooms ⟨r⟩ ⟨g⟩ = some () := by
  unfold t_check_rooms
  have e : ¬ ((⟨r⟩ : Tup Sx) = ⟨[]⟩) := fun q => h1 (congrArg Tup.l q)
  have := s_wrong (others := g) (most := 8) hn nd hl hd
  have h6 : ((8 : Nat) : Int) = (8 : Int) := rfl
  rw [h6] at this
  simp only [e, decide_false, Bool.not_true, Bool.or_false, Bool.false_eq_true, if_false, this, bso, Option.isSome_none]
theorem idx_lt {α : Type} [BEq α] [LawfulBEq α] {r : List α} (nd : r.Nodup) : r.Pairwise fun x y => r.idxOf x < r.idxOf y := by
  rw [List.pairwise_iff_getElem]
  intro i j hi hj hij
  rw [nd.idxOf_getElem, nd.idxOf_getElem]
  exact hij
theorem s_asc {s r : List Sx} (hs : s.Sublist r) (nd : r.Nodup) (hl : r.length ≤ 1000) : t_is_ascending ⟨s⟩ ⟨r⟩ = some true := by
  have hlen : s.length ≤ r.length := hs.length_le
  have hz := sz
  have hm : ∀ x ∈ s, x ∈ r := fun x hx => hs.subset hx
  unfold t_is_ascending
  rw [lcP_map (f := fun (x1 : Sx) => some (some (true && (decide (x1 ∈ r))))) (fun _ => true) (by show s.length ≤ _; omega) (fun x hx => by simp [hm x hx])]
  have e1 : (List.map (fun _ => true) s).all id = true := by simp
  simp only [bso, e1, Bool.not_true, Bool.false_eq_true, if_false]
  rw [lcP_map (fun x => ((r.idxOf x : Nat) : Int)) (by show s.length ≤ _; omega) (fun x hx => by
    rw [indexX_ok (t := ⟨r⟩) (hm x hx)]; rfl)]
  simp only [bso]
  have pw : (s.map fun x => ((r.idxOf x : Nat) : Int)).Pairwise (· < ·) := by
    rw [List.pairwise_map]
    refine ((idx_lt nd).sublist hs).imp ?_
    intro a b h; omega
  generalize hL : (s.map fun x => ((r.idxOf x : Nat) : Int)) = L at pw
  have hLl : L.length = s.length := by rw [← hL, List.length_map]
  by_cases h0 : L.length = 0
  · have e : L = [] := List.eq_nil_of_length_eq_zero h0
    subst e
    have : rngT (-1) = some [] := by unfold rngT; rw [if_pos (by omega)]; rfl
    have e0 : ((([] : List Int).length : Int) - 1) = -1 := rfl
    rw [e0, this]
    rfl
  · rw [rngT_i (L.length - 1) (by omega) (by omega)]
    simp only [bso]
    rw [lcP_map (fun _ => true) (by simp; omega) (fun x hx => by
      obtain ⟨k, hk, rfl⟩ := List.mem_map.mp hx
      rw [List.mem_range] at hk
      rw [atI_some (show k < L.length by omega)]
      have e2 : ((k : Int) + 1) = ((k + 1 : Nat) : Int) := by omega
      rw [e2, atI_some (show k + 1 < L.length by omega)]
      have := (List.pairwise_iff_getElem.mp pw) k (k + 1) (by omega) (by omega) (by omega)
      simp [this])]
    simp
theorem s_check_accepted {r : List Sx} {a : List (Tup Sx)} {n : Nat} (hs : ∀ s ∈ a, s.l.Sublist r) (nd : r.Nodup) (hl : r.length ≤ 1000) (hn : a.length = n) : t_check_accepted ⟨a⟩ (n : Int) ⟨r⟩ = some () := by
  unfold t_check_accepted
  have e : ¬ (((⟨a⟩ : Tup (Tup Sx)).l.length : Int) < (n : Int)) := by show ¬ ((a.length : Int) < _); omega
  simp only [e, decide_false, Bool.not_true, Bool.or_false, Bool.false_eq_true, if_false]
  obtain ⟨s, h1, _⟩ := foldT_ok (f := (fun (x1 : (Int × (Tup Sx))) (s2 : Unit) =>
  ((if (decide (x1.1 = (n : Int))) = true then some (true, ()) else
  (t_is_ascending x1.2 ⟨r⟩).bind fun r3 =>
  some ((!r3), ()) : Option (Bool × (Unit)))).bind fun q4 =>
  if q4.1 = true then
  none
  else
  some ())) (fun _ _ => True) (enmL a) () trivial (fun pre x post s e _ => by
    obtain ⟨hlt, rfl⟩ := enm_at e
    refine ⟨(), ?_, trivial⟩
    have hm : a[pre.length] ∈ a := List.getElem_mem hlt
    have h3 : ¬ ((pre.length : Int) = (n : Int)) := by omega
    have h4 : t_is_ascending a[pre.length] ⟨r⟩ = some true := s_asc (s := a[pre.length].l) (hs _ hm) nd hl
    simp only [h3, decide_false, Bool.false_eq_true, if_false, h4, bso, Bool.not_true])
  rw [h1]
  rfl
/-- guests, rooms and accepted rooms that make a house -/
structure HomeOk (g r : List Sx) (a : List (Tup Sx)) : Prop where
  gn : ∀ x ∈ g, NameOk x
  rn : ∀ x ∈ r, NameOk x
  gd : g.Nodup
  rd : r.Nodup
  g0 : g ≠ []
  r0 : r ≠ []
  gl : g.length ≤ 6
  rl : r.length ≤ 8
  dj : ∀ x ∈ r, x ∉ g
  al : a.length = g.length
  as : ∀ s ∈ a, s.l.Sublist r
theorem HomeOk.l8 {g r : List Sx} {a : List (Tup Sx)} (h : HomeOk g r a) : ∀ s ∈ a, s.l.length ≤ 8 := fun s hs => Nat.le_trans (h.as s hs).length_le h.rl
theorem HomeOk.a6 {g r : List Sx} {a : List (Tup Sx)} (h : HomeOk g r a) : a.length ≤ 6 := by rw [h.al]; exact h.gl
def mkH (g r : List Sx) (a : List (Tup Sx)) : House := ⟨⟨g⟩, ⟨r⟩, ⟨a⟩, ⟨g.zip a⟩⟩
theorem s_House {g r : List Sx} {a : List (Tup Sx)} (h : HomeOk g r a) : t_House_init ⟨g⟩ ⟨r⟩ ⟨a⟩ = some (mkH g r a) := by
  unfold t_House_init
  have hz := sz
  have h1 := h.rl
  have h2 := h.gl
  rw [s_check_guests h.gn h.gd h.g0 h.gl, bso, s_check_rooms h.rn h.rd h.r0 h.rl h.dj, bso]
  rw [show t_check_accepted ⟨a⟩ ((⟨g⟩ : Tup Sx).l.length : Int) ⟨r⟩ = some () from s_check_accepted h.as h.rd (by omega) h.al, bso]
  unfold dzT
  rw [if_pos ⟨h.gd, by show g.length ≤ _; omega⟩]
  rfl
end VI
/-! placings -/
namespace VI
section
variable {α : Type} [DecidableEq α]
structure Plc (a : List (List α)) (p : List α) : Prop where
  len : p.length = a.length
  mem : ∀ (i : Nat) (x : α) (s : List α), p[i]? = some x → a[i]? = some s → x ∈ s
  nd : p.Nodup
def lstep (f : List (List α)) (s : List α) : List (List α) := f.flatMap fun p => (s.filter fun x => !decide (x ∈ p)).map fun x => p ++ [x]
def lains (a : List (List α)) : List (List α) := a.foldl lstep [[]]
theorem mem_lstep {f : List (List α)} {s q : List α} : q ∈ lstep f s ↔ ∃ p x, p ∈ f ∧ x ∈ s ∧ x ∉ p ∧ q = p ++ [x] := by
  unfold lstep
  simp only [List.mem_flatMap, List.mem_map, List.mem_filter]
  constructor
  · rintro ⟨p, hp, x, ⟨hx, hn⟩, e⟩
    exact ⟨p, x, hp, hx, by simpa using hn, e.symm⟩
  · rintro ⟨p, x, hp, hx, hn, e⟩
    exact ⟨p, hp, x, ⟨hx, by simpa using hn⟩, e.symm⟩
theorem mem_foldl_lstep : ∀ (a f : List (List α)) (p : List α), p ∈ a.foldl lstep f ↔ ∃ q t, q ∈ f ∧ p = q ++ t ∧ t.length = a.length ∧ (∀ (i : Nat) (x : α) (s : List α), t[i]? = some x → a[i]? = some s → x ∈ s) ∧ t.Nodup ∧ ∀ x ∈ t, x ∉ q
  | [], f, p => by
    constructor
    · intro h
      exact ⟨p, [], h, by simp, rfl, fun i x s h => by simp at h, List.nodup_nil, fun x h => by cases h⟩
    · rintro ⟨q, t, hq, e, hl, _⟩
      have : t = [] := List.eq_nil_of_length_eq_zero hl
      subst this
      rw [List.append_nil] at e
      subst e
      exact hq
  | s :: a, f, p => by
    rw [List.foldl_cons, mem_foldl_lstep a (lstep f s) p]
    constructor
    · rintro ⟨q', t, hq, e, hl, hm, hn, hd⟩
      obtain ⟨q, x, h1, h2, h3, rfl⟩ := mem_lstep.mp hq
      refine ⟨q, x :: t, h1, by rw [e]; simp, by simp [hl], ?_, ?_, ?_⟩
      · intro i y s' h4 h5
        cases i with
        | zero => simp at h4 h5; subst h4; subst h5; exact h2
        | succ i => simp at h4 h5; exact hm i y s' h4 h5
      · rw [List.nodup_cons]
        exact ⟨fun q' => hd x q' (by simp), hn⟩
      · intro y hy
        rcases List.mem_cons.mp hy with rfl | hy
        · exact h3
        · exact fun q' => hd y hy (by simp [q'])
    · rintro ⟨q, t, hq, e, hl, hm, hn, hd⟩
      cases t with
      | nil => simp at hl
      | cons x t =>
        rw [List.nodup_cons] at hn
        refine ⟨q ++ [x], t, mem_lstep.mpr ⟨q, x, hq, hm 0 x s (by simp) (by simp), hd x (by simp), rfl⟩, by rw [e]; simp, by simpa using hl, fun i y s' h4 h5 => hm (i + 1) y s' (by simpa using h4) (by simpa using h5), hn.2, ?_⟩
        intro y hy q'
        rcases List.mem_append.mp q' with q' | q'
        · exact hd y (List.mem_cons_of_mem _ hy) q'
        · rw [List.mem_singleton.mp q'] at hy; exact hn.1 hy
theorem mem_lains {a : List (List α)} {p : List α} : p ∈ lains a ↔ Plc a p := by
  unfold lains
  rw [mem_foldl_lstep]
  constructor
  · rintro ⟨q, t, hq, e, hl, hm, hn, _⟩
    have : q = [] := by simpa using hq
    subst this
    rw [List.nil_append] at e
    subst e
    exact ⟨hl, hm, hn⟩
  · intro h
    exact ⟨[], p, by simp, by simp, h.len, h.mem, h.nd, fun _ _ => List.not_mem_nil⟩
theorem lstep_len (f : List (List α)) (s : List α) (n : Nat) (h : s.length ≤ n) : (lstep f s).length ≤ n * f.length := by
  unfold lstep
  induction f with
  | nil => simp
  | cons p f ih =>
    rw [List.flatMap_cons, List.length_append, List.length_map, List.length_cons, Nat.mul_succ]
    have := List.length_filter_le (fun x => !decide (x ∈ p)) s
    omega
theorem foldl_len : ∀ (a f : List (List α)) (n : Nat), (∀ s ∈ a, s.length ≤ n) → (a.foldl lstep f).length ≤ n ^ a.length * f.length
  | [], f, n, _ => by simp
  | s :: a, f, n, h => by
    rw [List.foldl_cons]
    have h1 := foldl_len a (lstep f s) n fun t ht => h t (List.mem_cons_of_mem _ ht)
    have h2 := lstep_len f s n (h s (List.mem_cons_self ..))
    refine Nat.le_trans h1 ?_
    rw [List.length_cons, Nat.pow_succ, Nat.mul_assoc]
    exact Nat.mul_le_mul_left _ h2
theorem pow_le {n k : Nat} (h1 : n ≤ 8) (h2 : k ≤ 6) : n ^ k ≤ 262144 :=
  Nat.le_trans (Nat.pow_le_pow_left h1 k) (Nat.le_trans (Nat.pow_le_pow_right (by decide) h2) (by decide))
theorem lains_len {a : List (List α)} (h : ∀ s ∈ a, s.length ≤ 8) (h6 : a.length ≤ 6) : (lains a).length ≤ 262144 := by
  have := foldl_len a [[]] 8 h
  unfold lains
  have := pow_le (n := 8) (Nat.le_refl _) h6
  simp at *
  omega
end
/-! the same over tuples -/
section
variable {α : Type} [DecidableEq α]
def lstepT (f : List (Tup α)) (s : Tup α) : List (Tup α) := f.flatMap fun p => (s.l.filter fun x => !decide (x ∈ p.l)).map fun x => ⟨p.l ++ [x]⟩
def lainsT (a : List (Tup α)) : List (Tup α) := a.foldl lstepT [⟨[]⟩]
theorem lstepT_l (f : List (Tup α)) (s : Tup α) : (lstepT f s).map (·.l) = lstep (f.map (·.l)) s.l := by
  unfold lstepT lstep
  rw [List.map_flatMap, List.flatMap_map]
  congr 1
  funext p
  rw [List.map_map]; rfl
theorem foldl_T : ∀ (a f : List (Tup α)), (a.foldl lstepT f).map (·.l) = (a.map (·.l)).foldl lstep (f.map (·.l))
  | [], f => rfl
  | s :: a, f => by rw [List.foldl_cons, List.map_cons, List.foldl_cons, foldl_T a, lstepT_l]
theorem lainsT_l (a : List (Tup α)) : (lainsT a).map (·.l) = lains (a.map (·.l)) := foldl_T a [⟨[]⟩]
theorem mem_lainsT {a : List (Tup α)} {p : Tup α} : p ∈ lainsT a ↔ Plc (a.map (·.l)) p.l := by
  rw [← mem_lains, ← lainsT_l, List.mem_map]
  constructor
  · intro h; exact ⟨p, h, rfl⟩
  · rintro ⟨q, h, e⟩
    cases p; cases q; cases e; exact h
theorem lainsT_len {a : List (Tup α)} (h : ∀ s ∈ a, s.l.length ≤ 8) (h6 : a.length ≤ 6) : (lainsT a).length ≤ 262144 := by
  rw [← List.length_map (f := fun t : Tup α => t.l), lainsT_l]
  refine lains_len (fun s hs => ?_) (by simpa using h6)
  obtain ⟨t, ht, rfl⟩ := List.mem_map.mp hs
  exact h t ht
theorem foldT_len (a f : List (Tup α)) (n : Nat) (h : ∀ s ∈ a, s.l.length ≤ n) : (a.foldl lstepT f).length ≤ n ^ a.length * f.length := by
  have := foldl_len (a.map (·.l)) (f.map (·.l)) n (fun s hs => by obtain ⟨t, ht, rfl⟩ := List.mem_map.mp hs; exact h t ht)
  rw [← foldl_T] at this
  simpa using this
end
end VI
/-! all placings, step by step -/
namespace VI
open PySem L2 Enc
theorem cat_step {p : Tup Sx} {s : List Sx} (hs : s.length ≤ sizeLine) (hp : p.l.length < sizeLine) :
    (lcP (β := Tup Sx) (fun (x : Sx) => if (!(decide (x ∈ p.l))) = true then (catT p (⟨[x]⟩ : (Tup Sx))).bind fun t => some (some t) else some none) s) = some ((s.filter fun x => !decide (x ∈ p.l)).map fun x => ⟨p.l ++ [x]⟩) :=
  lcP_fm (fun x => !decide (x ∈ p.l)) (fun x => (⟨p.l ++ [x]⟩ : Tup Sx)) hs (fun x _ => by
    rw [catT_ok (a := p) (b := ⟨[x]⟩) (show p.l.length + 1 ≤ _ by omega), bso]
    split <;> rfl)
theorem fold_last {α : Type} (f : α → β → α) (i : α) (l : List β) (x : β) : (l ++ [x]).foldl f i = f (l.foldl f i) x := by rw [List.foldl_append]; rfl
theorem lains_sz {a pre post : List (Tup Sx)} {x : Tup Sx} (h8 : ∀ s ∈ a, s.l.length ≤ 8) (h6 : a.length ≤ 6) (e : pre ++ x :: post = a) : (lainsT pre).length ≤ 262144 ∧ (lstepT (lainsT pre) x).length ≤ 262144 ∧ x.l.length ≤ 8 ∧ ∀ p ∈ lainsT pre, p.l.length ≤ 6 := by
  have hx : x ∈ a := by rw [← e]; simp
  have hp : ∀ s ∈ pre, s.l.length ≤ 8 := fun s hs => h8 s (by rw [← e]; simp [hs])
  have hl : pre.length + 1 ≤ 6 := by have := congrArg List.length e; simp at this; omega
  refine ⟨lainsT_len hp (by omega), ?_, h8 x hx, fun p h => ?_⟩
  · have : (lainsT (pre ++ [x])).length ≤ 262144 := lainsT_len (fun s hs => by
      rcases List.mem_append.mp hs with hs | hs
      · exact hp s hs
      · rw [List.mem_singleton.mp hs]; exact h8 x hx) (by simp; omega)
    unfold lainsT at this ⊢
    rwa [fold_last] at this
  · have := (mem_lainsT.mp h).len
    rw [List.length_map] at this
    omega
theorem lstepT_app (f : List (Tup Sx)) (p : Tup Sx) (s : Tup Sx) : lstepT (f ++ [p]) s = lstepT f s ++ (s.l.filter fun x => !decide (x ∈ p.l)).map fun x => ⟨p.l ++ [x]⟩ := by
  unfold lstepT; rw [List.flatMap_append]; simp
theorem lstepT_mono {f g : List (Tup Sx)} (s : Tup Sx) : (lstepT f s).length ≤ (lstepT (f ++ g) s).length := by
  unfold lstepT; rw [List.flatMap_append, List.length_append]; omega
end VI
/-! data that repr tells -/
namespace VI
open PySem L2 Enc PyC
class ShC (α : Type) [Enc α] [PyC α] where
  ok : α → Prop
  wt : α → Nat
  law : ∀ a, ok a → (toPy a).intsShort 13 = true ∧ (toPy a).showable = true ∧ (toPy a).weight ≤ wt a
open ShC
instance shSx : ShC Sx := ⟨fun _ => True, fun x => x.s.length, fun a _ => ⟨rfl, rfl, Nat.le_refl _⟩⟩
instance shBool : ShC Bool := ⟨fun _ => True, fun _ => 0, fun a _ => ⟨rfl, rfl, Nat.le_refl _⟩⟩
instance shUnit : ShC Unit := ⟨fun _ => True, fun _ => 0, fun a _ => ⟨rfl, rfl, Nat.le_refl _⟩⟩
theorem log_lt {n : Nat} (h : n < 10 ^ 12) : n.log2 < 40 := by
  by_cases h0 : n = 0
  · subst h0; decide
  · exact (Nat.log2_lt h0).mpr (by have : (10 : Nat) ^ 12 < 2 ^ 40 := by decide
                                   omega)
instance shInt : ShC Int := ⟨fun i => i.natAbs < 10 ^ 12, fun _ => 41, fun i h => ⟨by
  show PyData.intsShort 13 (.int i) = true
  simp only [PyData.intsShort, decide_eq_true_eq]; exact PyData.shown_int_le h, by
  show PyData.showable (.int i) = true
  have := log_lt h
  simp only [PyData.showable, decide_eq_true_eq]; omega, by
  show PyData.weight (.int i) ≤ 41
  have := log_lt h
  simp only [PyData.weight]; split <;> omega⟩⟩
section
variable {α β γ : Type} [Enc α] [Enc β] [Enc γ] [PyC α] [PyC β] [PyC γ] [ShC α] [ShC β] [ShC γ]
theorem all_law : ∀ l : List α, (∀ x ∈ l, ok x) → PyData.intsShortAll 13 (l.map toPy) = true ∧ PyData.showableAll (l.map toPy) = true ∧ PyData.weightAll (l.map toPy) ≤ (l.map fun x => wt x + 1).sum
  | [], _ => ⟨rfl, rfl, Nat.le_refl _⟩
  | x :: l, h => by
    obtain ⟨h1, h2, h3⟩ := law x (h x (List.mem_cons_self ..))
    obtain ⟨g1, g2, g3⟩ := all_law l fun y hy => h y (List.mem_cons_of_mem _ hy)
    simp only [List.map_cons, PyData.intsShortAll, PyData.showableAll, PyData.weightAll, h1, h2, g1, g2, Bool.and_self, List.sum_cons, true_and]
    omega
instance shTup : ShC (Tup α) := ⟨fun t => ∀ x ∈ t.l, ok x, fun t => (t.l.map fun x => wt x + 1).sum, fun t h => by
  obtain ⟨h1, h2, h3⟩ := all_law t.l h
  exact ⟨by show PyData.intsShort 13 (.tuple _) = true; simp only [PyData.intsShort]; exact h1, by show PyData.showable (.tuple _) = true; simp only [PyData.showable]; exact h2, by show PyData.weight (.tuple _) ≤ _; simp only [PyData.weight]; exact h3⟩⟩
instance shLst : ShC (List α) := ⟨fun t => ∀ x ∈ t, ok x, fun t => (t.map fun x => wt x + 1).sum, fun t h => by
  obtain ⟨h1, h2, h3⟩ := all_law t h
  exact ⟨by show PyData.intsShort 13 (.list _) = true; simp only [PyData.intsShort]; exact h1, by show PyData.showable (.list _) = true; simp only [PyData.showable]; exact h2, by show PyData.weight (.list _) ≤ _; simp only [PyData.weight]; exact h3⟩⟩
instance shPr : ShC (α × β) := ⟨fun t => ok t.1 ∧ ok t.2, fun t => wt t.1 + wt t.2 + 2, fun t h => by
  obtain ⟨h1, h2, h3⟩ := law t.1 h.1
  obtain ⟨g1, g2, g3⟩ := law t.2 h.2
  refine ⟨?_, ?_, ?_⟩
  · show PyData.intsShort 13 (.tuple [toPy t.1, toPy t.2]) = true
    simp only [PyData.intsShort, PyData.intsShortAll, h1, g1, Bool.and_self]
  · show PyData.showable (.tuple [toPy t.1, toPy t.2]) = true
    simp only [PyData.showable, PyData.showableAll, h2, g2, Bool.and_self]
  · show PyData.weight (.tuple [toPy t.1, toPy t.2]) ≤ _
    simp only [PyData.weight, PyData.weightAll]; omega⟩
instance shTr : ShC (Tr α β γ) := ⟨fun t => ok t.a ∧ ok t.b ∧ ok t.c, fun t => wt t.a + wt t.b + wt t.c + 3, fun t h => by
  obtain ⟨h1, h2, h3⟩ := law t.a h.1
  obtain ⟨g1, g2, g3⟩ := law t.b h.2.1
  obtain ⟨k1, k2, k3⟩ := law t.c h.2.2
  refine ⟨?_, ?_, ?_⟩
  · show PyData.intsShort 13 (.tuple [toPy t.a, toPy t.b, toPy t.c]) = true
    simp only [PyData.intsShort, PyData.intsShortAll, h1, g1, k1, Bool.and_self]
  · show PyData.showable (.tuple [toPy t.a, toPy t.b, toPy t.c]) = true
    simp only [PyData.showable, PyData.showableAll, h2, g2, k2, Bool.and_self]
  · show PyData.weight (.tuple [toPy t.a, toPy t.b, toPy t.c]) ≤ _
    simp only [PyData.weight, PyData.weightAll]; omega⟩
def okO : Option α → Prop
  | none => True
  | some a => ok a
def wtO : Option α → Nat
  | none => 0
  | some a => wt a
instance shOpt [NoN α] : ShC (Option α) := ⟨okO, wtO, fun t h => by
  cases t with
  | none => exact ⟨rfl, rfl, Nat.le_refl _⟩
  | some a => exact law a h⟩
theorem reprT_lst {l : List α} (hd : dp α + 1 ≤ 64) (h : ∀ x ∈ l, ok x) (hw : (l.map fun x => wt x + 1).sum ≤ 1048576) : ∃ z, reprT l = some z := by
  obtain ⟨h1, h2, h3⟩ := law (α := List α) l h
  have h3' : PyData.weight (.list (l.map toPy)) ≤ (l.map fun x => wt x + 1).sum := h3
  have hl : (PyData.list (l.map toPy)).shown.length ≤ sizeLine := PyData.shown_fits (B := 13) (by decide) (by decide) (PyData.leavesShort_of_canLay0 13 _ (PyC.h2 (α := List α) l) h1) (Nat.le_trans h3' (Nat.le_trans hw (by decide)))
  have hdp : (PyData.list (l.map toPy)).depth ≤ 64 := Nat.le_trans (PyC.h3 (α := List α) l) hd
  have e : biRepr [enc l] = some (.dt (.str (PyData.list (l.map toPy)).shown)) := by
    have hp : py (enc l) = some (.list (l.map toPy)) := PyC.h1 (α := List α) l
    have h2' : (PyData.list (l.map toPy)).showable = true := h2
    unfold biRepr
    simp only [hp, h2', hl, hdp, and_self, if_true]
  exact ⟨_, by unfold reprT; rw [e]⟩
/-- two lists told alike -/
theorem repr_eq {l m : List α} (e : l = m) (hd : dp α + 1 ≤ 64) (h : ∀ x ∈ l, ok x) (hw : (l.map fun x => wt x + 1).sum ≤ 1048576) : ∃ z, reprT l = some z ∧ reprT m = some z := by
  subst e
  obtain ⟨z, hz⟩ := reprT_lst hd h hw
  exact ⟨z, hz, hz⟩
theorem sum_le {l : List α} {n : Nat} (h : ∀ x ∈ l, wt x ≤ n) : (l.map fun x => wt x + 1).sum ≤ (n + 1) * l.length := by
  induction l with
  | nil => simp
  | cons x l ih =>
    rw [List.map_cons, List.sum_cons, List.length_cons, Nat.mul_succ]
    have := ih fun y hy => h y (List.mem_cons_of_mem _ hy)
    have := h x (List.mem_cons_self ..)
    omega
end
end VI
/-! placings of a house -/
namespace VI
open PySem L2 Enc
theorem s_check_house (h : House) : t_check_house h = some () := rfl
theorem s_all_placings {g r : List Sx} {a : List (Tup Sx)} (h8 : ∀ s ∈ a, s.l.length ≤ 8) (h6 : a.length ≤ 6) : t_all_placings (mkH g r a) = some (lainsT a) := by
  unfold t_all_placings
  have hz := sz
  rw [bso]
  refine ex_e (foldT_ok (fun pre s => s = lainsT pre) _ _ rfl (fun pre x post s e i => ?_)) fun s hs => by rw [hs]; rfl
  subst i
  obtain ⟨z1, z2, z3, z4⟩ := lains_sz h8 h6 e
  rw [lc2P_eq (fun p : Tup Sx => (x.l.filter fun y => !decide (y ∈ p.l)).map fun y => ⟨p.l ++ [y]⟩) (fun p hp => by
    refine lcGo_fm (fun y => !decide (y ∈ p.l)) (fun y => (⟨p.l ++ [y]⟩ : Tup Sx)) (fun y _ => ?_)
    have := z4 p hp
    rw [catT_ok (a := p) (b := ⟨[y]⟩) (show p.l.length + 1 ≤ _ by omega), bso]
    split <;> rfl) (show (lstepT (lainsT pre) x).length ≤ _ by omega), bso]
  refine ⟨_, rfl, ?_⟩
  show lstepT (lainsT pre) x = _
  unfold lainsT
  rw [fold_last]
theorem s_has_some {g r : List Sx} {a : List (Tup Sx)} (h8 : ∀ s ∈ a, s.l.length ≤ 8) (h6 : a.length ≤ 6) : t_has_some (mkH g r a) = some (decide (lainsT a ≠ [])) := by
  unfold t_has_some; rw [s_all_placings h8 h6, bso]
/-- names are short -/
theorem NameOk.len {x : Sx} (h : NameOk x) : x.s.length ≤ 8 := by
  unfold NameOk t_is_name at h
  simp only [Bool.not_true, Bool.false_eq_true, if_false] at h
  obtain ⟨q, h1, h2⟩ := bnd h
  obtain ⟨n, h3, h4⟩ := bnd h1
  unfold lenX at h3
  split at h3
  · cases h3
    cases h4
    rcases iteB h2 with ⟨hb, h5⟩ | ⟨hb, h5⟩
    · cases h5
    · simp only [Bool.or_eq_false_iff, Bool.not_eq_false', Bool.and_eq_true, decide_eq_true_eq] at hb
      omega
  · cases h3
theorem look_zip {g : List Sx} {a : List (Tup Sx)} (nd : g.Nodup) {i : Nat} (hi : i < g.length) (ha : i < a.length) : (g.zip a).lookup g[i] = some a[i] := by
  induction g generalizing a i with
  | nil => simp at hi
  | cons x g ih =>
    cases a with
    | nil => simp at ha
    | cons t a =>
      rw [List.nodup_cons] at nd
      cases i with
      | zero => simp
      | succ i =>
        have hi' : i < g.length := by simpa using hi
        have : g[i] ≠ x := fun e => nd.1 (e ▸ List.getElem_mem hi')
        have hb : (g[i] == x) = false := by simpa using this
        rw [List.zip_cons_cons, List.getElem_cons_succ, List.lookup_cons, hb]
        exact ih nd.2 hi' (by simpa using ha)
end VI
/-! placings are told as such -/
namespace VI
open PySem L2 Enc
theorem dcGo_nd {ν : Type} (f : Sx → ν) : ∀ (xs : List Sx) (acc : List (Sx × ν)), xs.Nodup → (∀ x ∈ xs, x ∉ acc.map Prod.fst) → dcGo (fun x => some (some (x, f x))) xs acc = some (acc ++ xs.map fun x => (x, f x))
  | [], acc, _, _ => by simp [dcGo]
  | x :: xs, acc, nd, h => by
    rw [List.nodup_cons] at nd
    unfold dcGo
    rw [bso]
    simp only
    rw [show dcPut acc x (f x) = acc ++ [(x, f x)] by unfold dcPut; rw [if_neg (h x (List.mem_cons_self ..))]]
    rw [dcGo_nd f xs _ nd.2 (fun y hy => by
      rw [List.map_append]
      intro q
      rcases List.mem_append.mp q with q | q
      · exact h y (List.mem_cons_of_mem _ hy) q
      · have : y = x := by simpa using q
        exact nd.1 (this ▸ hy))]
    simp
theorem dcP_nd {ν : Type} (f : Sx → ν) {xs : List Sx} (nd : xs.Nodup) (hl : xs.length ≤ sizeLine) : dcP (fun x => some (some (x, f x))) xs = some ⟨xs.map fun x => (x, f x)⟩ := by
  unfold dcP
  rw [if_pos hl, dcGo_nd f xs [] nd (fun _ _ => by simp), bso]
  simp
theorem plc_rooms {g r : List Sx} {a : List (Tup Sx)} (h : HomeOk g r a) {p : List Sx} (hp : Plc (a.map (·.l)) p) : ∀ x ∈ p, x ∈ r := by
  intro x hx
  obtain ⟨i, hi, e⟩ := List.getElem_of_mem hx
  have hia : i < a.length := by have := hp.len; rw [List.length_map] at this; omega
  have := hp.mem i x a[i].l (by rw [List.getElem?_eq_getElem hi, e]) (by rw [List.getElem?_map, List.getElem?_eq_getElem hia]; rfl)
  exact (h.as _ (List.getElem_mem hia)).subset this
theorem s_are_places {g r p : List Sx} (hl : p.length = g.length) (hr : ∀ x ∈ p, x ∈ r) (nd : p.Nodup) (h6 : g.length ≤ 6) : t_are_places ⟨p⟩ ⟨g⟩ ⟨r⟩ = some true := by
  unfold t_are_places
  have hz := sz
  have e1 : ¬ ((p.length : Int) ≠ (g.length : Int)) := by omega
  rw [lcP_map (f := fun (x1 : Sx) => some (some (true && (decide (x1 ∈ r))))) (fun _ => true) (by show p.length ≤ _; omega) (fun x hx => by simp [hr x hx]), bso]
  rw [show dcP (ν := Bool) (fun (x3 : Sx) => some (some (x3, true))) (⟨p⟩ : Tup Sx).l = _ from dcP_nd (fun _ => true) nd (by show p.length ≤ _; omega), bso]
  have e2 : (List.map (fun _ => true) (⟨p⟩ : Tup Sx).l).all id = true := by simp
  simp only [e1, decide_false, Bool.not_true, Bool.or_false, Bool.false_eq_true, if_false, e2, List.length_map]
  simp
theorem s_is_good {g r : List Sx} {a : List (Tup Sx)} (h : HomeOk g r a) {p : List Sx} (hp : Plc (a.map (·.l)) p) : t_is_good (mkH g r a) ⟨p⟩ = some true := by
  unfold t_is_good
  have hz := sz
  have h6 := h.gl
  have hpl : p.length = a.length := by rw [hp.len, List.length_map]
  have hal := h.al
  rw [show t_are_places ⟨p⟩ (mkH g r a).guests (mkH g r a).rooms = some true from s_are_places (by omega) (plc_rooms h hp) hp.nd h6, bso]
  simp only [Bool.not_true, Bool.false_eq_true, if_false]
  rw [lcP_map (fun _ => true) (by show (p.zip a).length ≤ _; rw [List.length_zip]; omega) (fun x hx => by
    obtain ⟨i, hi, e⟩ := List.getElem_of_mem (show x ∈ p.zip a from hx)
    rw [List.length_zip] at hi
    rw [List.getElem_zip] at e
    have := hp.mem i p[i] a[i].l (List.getElem?_eq_getElem (by omega)) (by rw [List.getElem?_map, List.getElem?_eq_getElem (by omega)]; rfl)
    subst e
    simp [this]), bso]
  simp
theorem s_check_placing {g r : List Sx} {a : List (Tup Sx)} (h : HomeOk g r a) {p : List Sx} (hp : Plc (a.map (·.l)) p) : t_check_placing (mkH g r a) ⟨p⟩ = some () := by
  unfold t_check_placing
  rw [s_is_good h hp, bso]
  rfl
end VI
/-! rooms from room to room; lots of guests that have just their rooms -/
namespace VI
section
variable {σ ρ : Type}
theorem whlT_ok {ct : σ → Option Bool} {f : σ → Option (Fw σ ρ)} (I : Nat → σ → Prop) (Rt : ρ → Prop) (B : Nat)
    (st : ∀ d s, I d s → ct s = some false ∨ (ct s = some true ∧ d < B ∧ ∃ o, f s = some o ∧ FwI (I (d + 1)) (fun _ => False) Rt o)) :
    ∀ (fuel d : Nat) (s : σ), I d s → B < d + fuel → d ≤ B → ∃ o, whlT ct f fuel s = some o ∧ ((∃ d s, o = .nx s ∧ I d s ∧ ct s = some false) ∨ ∃ r, o = .rt r ∧ Rt r)
  | 0, d, s, i, hB, hd => by omega
  | fuel + 1, d, s, i, hB, hd => by
    unfold whlT
    rcases st d s i with h | ⟨h1, h2, o, h3, h4⟩
    · rw [h]; exact ⟨_, rfl, .inl ⟨d, s, rfl, i, h⟩⟩
    · rw [h1, bso, if_pos rfl, h3, bso]
      cases o with
      | nx s' => exact whlT_ok I Rt B st fuel (d + 1) s' h4 (by omega) (by omega)
      | bk s' => exact h4.elim
      | rt r => exact ⟨_, rfl, .inr ⟨r, rfl, h4⟩⟩
end
section
variable {α : Type} [DecidableEq α]
/-! counting -/
theorem nd_le {l m : List α} (nd : l.Nodup) (h : ∀ x ∈ l, x ∈ m) : l.length ≤ m.length := by
  induction l generalizing m with
  | nil => simp
  | cons x l ih =>
    rw [List.nodup_cons] at nd
    have hx := h x (List.mem_cons_self ..)
    have := ih (m := m.erase x) nd.2 (fun y hy => (List.mem_erase_of_ne (fun (e : y = x) => nd.1 (by rw [← e]; exact hy))).mpr (h y (List.mem_cons_of_mem _ hy)))
    rw [List.length_erase_of_mem hx] at this
    have : 0 < m.length := List.length_pos_of_mem hx
    simp; omega
theorem nd_eq {l m : List α} (nd : l.Nodup) (h : ∀ x ∈ l, x ∈ m) (hl : m.length ≤ l.length) : ∀ x ∈ m, x ∈ l := by
  intro x hx
  refine Classical.byContradiction fun hn => ?_
  have : (x :: l).length ≤ m.length := nd_le (List.nodup_cons.mpr ⟨hn, nd⟩) (fun y hy => by
    rcases List.mem_cons.mp hy with rfl | hy
    · exact hx
    · exact h y hy)
  simp at this
  omega
/-! from room to room: the guest who has a room accepts the next one -/
def Stp (a : List (List α)) (p : List α) (x y : α) : Prop := ∃ (i : Nat) (s : List α), p[i]? = some x ∧ a[i]? = some s ∧ y ∈ s
inductive Wk (a : List (List α)) (p : List α) (x : α) : Nat → α → Prop
  | zero : Wk a p x 0 x
  | succ {n : Nat} {y z : α} (h : Wk a p x n y) (s : Stp a p y z) : Wk a p x (n + 1) z
theorem Wk.inv {a : List (List α)} {p : List α} {x z : α} {n : Nat} (h : Wk a p x (n + 1) z) : ∃ y, Wk a p x n y ∧ Stp a p y z := by
  cases h with
  | succ h s => exact ⟨_, h, s⟩
theorem Wk.cons {a : List (List α)} {p : List α} {x y z : α} (s : Stp a p x y) : ∀ {n : Nat}, Wk a p y n z → Wk a p x (n + 1) z := by
  intro n h
  induction h with
  | zero => exact .succ .zero s
  | succ h s' ih => exact .succ ih s'
/-- a room is open -/
def Opn (a : List (List α)) (p : List α) (x : α) : Prop := ∃ n y, Wk a p x n y ∧ y ∉ p
theorem Opn.free {a : List (List α)} {p : List α} {x : α} (h : x ∉ p) : Opn a p x := ⟨0, x, .zero, h⟩
theorem Opn.step {a : List (List α)} {p : List α} {x y : α} (s : Stp a p x y) (h : Opn a p y) : Opn a p x := let ⟨n, z, w, f⟩ := h; ⟨n + 1, z, w.cons s, f⟩
end
end VI
/-! the shortest chain from a room -/
namespace VI
open PySem L2 Enc
abbrev al (a : List (Tup Sx)) : List (List Sx) := a.map (·.l)
theorem al_at {a : List (Tup Sx)} {i : Nat} (h : i < a.length) : (al a)[i]? = some a[i].l := by rw [List.getElem?_map, List.getElem?_eq_getElem h]; rfl
theorem s_frees {g r : List Sx} {a : List (Tup Sx)} {p : List Sx} (hr : r.length ≤ 8) : t_frees (mkH g r a) ⟨p⟩ = some (r.filter fun x => !decide (x ∈ p)) := by
  unfold t_frees
  have hz := sz
  rw [lcP_filter (fun x => !decide (x ∈ p)) (by show r.length ≤ _; omega) (fun x _ => by
    show (if (!decide (x ∈ p)) = true then _ else _) = _
    split <;> rfl), bso]
  rfl
/-- a chain of moves from a room -/
inductive IsCh (g : List Sx) (a : List (Tup Sx)) (p : List Sx) (x : Sx) : List (Sx × Sx) → Sx → Prop
  | nil : IsCh g a p x [] x
  | snoc {c : List (Sx × Sx)} {y z w : Sx} {i : Nat} {s : Tup Sx} (h : IsCh g a p x c y) (hp : p[i]? = some y) (ha : a[i]? = some s) (hg : g[i]? = some w) (hz : z ∈ s.l) : IsCh g a p x (c ++ [(w, z)]) z
theorem IsCh.wk {g : List Sx} {a : List (Tup Sx)} {p : List Sx} {x y : Sx} {c : List (Sx × Sx)} (h : IsCh g a p x c y) : Wk (al a) p x c.length y := by
  induction h with
  | nil => exact .zero
  | snoc h hp ha hg hz ih =>
    rw [List.length_append]
    exact .succ ih ⟨_, _, hp, by rw [List.getElem?_map, ha]; rfl, hz⟩
theorem IsCh.nil_eq {g : List Sx} {a : List (Tup Sx)} {p : List Sx} {x y : Sx} {c : List (Sx × Sx)} (h : IsCh g a p x c y) (e : c = []) : y = x := by
  cases h with
  | nil => rfl
  | snoc h _ _ _ _ => simp at e
structure BI (g r : List Sx) (a : List (Tup Sx)) (p : List Sx) (x : Sx) (d : Nat) (known : List (Sx × Tup (Sx × Sx))) (layer : List Sx) : Prop where
  nd : (known.map Prod.fst).Nodup
  kr : ∀ y ∈ known.map Prod.fst, y ∈ r
  ch : ∀ y c, (y, c) ∈ known → IsCh g a p x c.l y ∧ c.l.length ≤ d
  lay : ∀ y ∈ layer, ∃ c, (y, c) ∈ known ∧ c.l.length = d
  full : ∀ n y, n ≤ d → Wk (al a) p x n y → y ∈ known.map Prod.fst
  ex : ∀ y, Wk (al a) p x d y → (∃ n, n < d ∧ Wk (al a) p x n y) ∨ y ∈ layer
  nofree : ∀ n y, n < d → Wk (al a) p x n y → y ∈ p
  cnt : layer ≠ [] → d + 1 ≤ known.length
theorem lookup_of {α β : Type} [BEq α] [LawfulBEq α] {l : List (α × β)} {x : α} {v : β} (nd : (l.map Prod.fst).Nodup) (h : (x, v) ∈ l) : l.lookup x = some v := by
  induction l with
  | nil => cases h
  | cons q l ih =>
    obtain ⟨y, w⟩ := q
    rw [List.map_cons, List.nodup_cons] at nd
    rw [List.lookup_cons]
    rcases List.mem_cons.mp h with e | h
    · cases e; simp
    · have : x ≠ y := fun e => nd.1 (by rw [← e]; exact List.mem_map.mpr ⟨_, h, rfl⟩)
      have hb : (x == y) = false := by simpa using this
      rw [hb]
      exact ih nd.2 h
theorem setK_new {m : Dc Sx (Tup (Sx × Sx))} {k : Sx} {v : Tup (Sx × Sx)} (hl : m.l.length < sizeLine) (hn : k ∉ m.l.map Prod.fst) : setK m k v = some ⟨m.l ++ [(k, v)]⟩ := by
  unfold setK dcPut
  rw [if_pos hl, if_neg hn]
/-- what the walk over a layer has made: new rooms with their chains -/
structure LI (g r : List Sx) (a : List (Tup Sx)) (p : List Sx) (x : Sx) (d : Nat) (known : List (Sx × Tup (Sx × Sx))) (pre : List Sx) (s : Dc Sx (Tup (Sx × Sx)) × List Sx) : Prop where
  news : ∃ ns, s.1.l = known ++ ns ∧ s.2 = ns.map Prod.fst ∧ ∀ y c, (y, c) ∈ ns → IsCh g a p x c.l y ∧ c.l.length = d + 1
  nd : (s.1.l.map Prod.fst).Nodup
  kr : ∀ y ∈ s.1.l.map Prod.fst, y ∈ r
  done : ∀ y ∈ pre, y ∈ p ∧ ∀ z, Stp (al a) p y z → z ∈ s.1.l.map Prod.fst
theorem len8 {r : List Sx} {l : List (Sx × Tup (Sx × Sx))} (hr : r.length ≤ 8) (nd : (l.map Prod.fst).Nodup) (kr : ∀ y ∈ l.map Prod.fst, y ∈ r) : l.length ≤ 8 := by
  have := nd_le nd kr
  rw [List.length_map] at this
  omega
theorem s_chain {g r : List Sx} {a : List (Tup Sx)} {p : List Sx} (h : HomeOk g r a) (hp : Plc (al a) p) {x : Sx} (hx : x ∈ r) :
    ∃ o, t_shortest_chain (mkH g r a) ⟨p⟩ x = some o ∧ ((o = none ∧ ∀ n y, Wk (al a) p x n y → y ∈ p) ∨ ∃ c y, o = some c ∧ IsCh g a p x c.l y ∧ y ∉ p ∧ y ∈ r ∧ ∀ n z, Wk (al a) p x n z → z ∉ p → c.l.length ≤ n) := by
  have hz := sz
  have hr8 := h.rl
  have hpa : p.length = a.length := by rw [hp.len, List.length_map]
  unfold t_shortest_chain
  rw [s_frees hr8, bso, bso, bso]
  have stepR : ∀ y z, Stp (al a) p y z → z ∈ r := fun y z ⟨i, s, _, h2, h3⟩ => by
    rw [List.getElem?_map, Option.map_eq_some_iff] at h2
    obtain ⟨t, h4, rfl⟩ := h2
    exact (h.as t (List.mem_of_getElem? h4)).subset h3
  refine ex_b (P := fun o => (∃ s, o = Fw.nx s ∧ ∀ n y, Wk (al a) p x n y → y ∈ p) ∨ ∃ c y, o = Fw.rt (some c) ∧ IsCh g a p x c.l y ∧ y ∉ p ∧ y ∈ r ∧ ∀ n z, Wk (al a) p x n z → z ∉ p → c.l.length ≤ n) ?_ fun o ho => ?_
  · refine ex_imp (whlT_ok (fun d (s : Dc Sx (Tup (Sx × Sx)) × List Sx) => BI g r a p x d s.1.l s.2)
      (fun o : Option (Tup (Sx × Sx)) => ∃ c y, o = some c ∧ IsCh g a p x c.l y ∧ y ∉ p ∧ y ∈ r ∧ ∀ n z, Wk (al a) p x n z → z ∉ p → c.l.length ≤ n) 9
      (fun d s i => ?_) 4000 0 ((⟨[(x, ⟨[]⟩)]⟩ : Dc Sx (Tup (Sx × Sx))), [x]) ?_ (by decide) (by decide)) fun o h2 => ?_
    rotate_right
    · rcases h2 with ⟨d, s, e, i, hc⟩ | ⟨q, e, c, y, e2, rest⟩
      · refine .inl ⟨s, e, ?_⟩
        have hnil : s.2 = [] := by
          have : decide (s.2 ≠ []) = false := Option.some.inj hc
          simpa using this
        -- nothing is reached behind the last layer
        have key : ∀ n y, Wk (al a) p x n y → ∃ m, m < d ∧ Wk (al a) p x m y := by
          intro n
          induction n with
          | zero =>
            intro y w
            rcases Nat.lt_or_ge 0 d with hd | hd
            · exact ⟨0, hd, w⟩
            · have : d = 0 := by omega
              subst this
              rcases i.ex y w with q | q
              · exact q
              · rw [hnil] at q; cases q
          | succ n ih =>
            intro y w
            obtain ⟨u, w1, st⟩ := w.inv
            obtain ⟨m, hm, w2⟩ := ih u w1
            rcases Nat.lt_or_ge (m + 1) d with hd | hd
            · exact ⟨m + 1, hd, .succ w2 st⟩
            · have e : m + 1 = d := by omega
              rcases i.ex y (e ▸ .succ w2 st) with q | q
              · exact q
              · rw [hnil] at q; cases q
        intro n y w
        obtain ⟨m, hm, w2⟩ := key n y w
        exact i.nofree m y hm w2
      · exact .inr ⟨c, y, by rw [e, e2], rest⟩
    · -- one layer
      by_cases hne : s.2 = []
      · exact .inl (by simp [hne])
      · refine .inr ⟨by simp [hne], ?_, ?_⟩
        · have := i.cnt hne
          have := len8 hr8 i.nd i.kr
          omega
        · rw [bso]
          refine ex_b (P := fun o => (∃ s', o = Fw.nx s' ∧ LI g r a p x d s.1.l s.2 s') ∨ ∃ c y, o = Fw.rt (some c) ∧ IsCh g a p x c.l y ∧ y ∉ p ∧ y ∈ r ∧ ∀ n z, Wk (al a) p x n z → z ∉ p → c.l.length ≤ n) ?_ fun o ho => ?_
          · refine ex_imp (forT_ok (fun pre s' => LI g r a p x d s.1.l pre s')
              (fun o : Option (Tup (Sx × Sx)) => ∃ c y, o = some c ∧ IsCh g a p x c.l y ∧ y ∉ p ∧ y ∈ r ∧ ∀ n z, Wk (al a) p x n z → z ∉ p → c.l.length ≤ n) s.2 (s.1, []) ⟨⟨[], by simp, rfl, fun y c q => by cases q⟩, i.nd, i.kr, fun y q => by cases q⟩ (fun pre y post s' e j => ?_)) fun o h2 => ?_
            rotate_right
            · rcases h2 with ⟨s', e, j⟩ | ⟨q, e, c, y, e2, rest⟩
              · exact .inl ⟨s', e, j⟩
              · exact .inr ⟨c, y, by rw [e, e2], rest⟩
            · have hy : y ∈ s.2 := by rw [← e]; simp
              obtain ⟨c, hc1, hc2⟩ := i.lay y hy
              obtain ⟨ns, n1, n2, n3⟩ := j.news
              have hc3 : (y, c) ∈ s'.1.l := by rw [n1]; exact List.mem_append_left _ hc1
              have hyr : y ∈ r := i.kr y (List.mem_map.mpr ⟨_, hc1, rfl⟩)
              have hl8 := len8 hr8 j.nd j.kr
              split
              · rename_i hf
                simp only [decide_eq_true_eq, List.mem_filter, Bool.not_eq_true', decide_eq_false_iff_not] at hf
                rw [lookup_of j.nd hc3, bso]
                refine ⟨_, rfl, c, y, rfl, (i.ch y c hc1).1, hf.2, hyr, fun n z w hn => ?_⟩
                refine Classical.byContradiction fun hlt => ?_
                exact hn (i.nofree n z (by omega) w)
              · rename_i hf
                simp only [decide_eq_true_eq, List.mem_filter, Bool.not_eq_true', decide_eq_false_iff_not] at hf
                have hyp : y ∈ p := Classical.byContradiction fun q => hf ⟨hyr, q⟩
                have hix : p.idxOf y < p.length := List.idxOf_lt_length_of_mem hyp
                have hpy : p[p.idxOf y]? = some y := by rw [List.getElem?_eq_getElem hix, List.getElem_idxOf]
                have hia : p.idxOf y < a.length := by omega
                have hig : p.idxOf y < g.length := by rw [← h.al]; exact hia
                rw [indexX_ok (t := ⟨p⟩) hyp, bso, show atI (mkH g r a).accepted.l ((p.idxOf y : Nat) : Int) = some a[p.idxOf y] from atI_some hia, bso]
                have has := h.as _ (List.getElem_mem hia)
                refine ex_b (foldT_ok (fun pre2 s2 => LI g r a p x d s.1.l pre s2 ∧ (y, c) ∈ s2.1.l ∧ ∀ z ∈ pre2, z ∈ s2.1.l.map Prod.fst) _ _ ⟨j, hc3, fun z q => by cases q⟩ (fun pre2 z post2 s2 e2 k => ?_)) fun s2 k => ?_
                · obtain ⟨k1, k2, k3⟩ := k
                  have hzs : z ∈ a[p.idxOf y].l := by rw [← e2]; simp
                  have hzr : z ∈ r := has.subset hzs
                  have hl8' := len8 hr8 k1.nd k1.kr
                  split
                  · rename_i hnew
                    simp only [Bool.not_eq_true', decide_eq_false_iff_not] at hnew
                    have hcl := (i.ch y c hc1).2
                    have hd8 := i.cnt hne
                    have hs8 := len8 hr8 i.nd i.kr
                    obtain ⟨ms, m1, m2, m3⟩ := k1.news
                    have hsl : s2.2.length ≤ 8 := by
                      rw [m2, List.length_map]
                      have : s2.1.l.length = s.1.l.length + ms.length := by rw [m1, List.length_append]
                      omega
                    rw [lookup_of k1.nd k2, bso, show atI (mkH g r a).guests.l ((p.idxOf y : Nat) : Int) = some g[p.idxOf y] from atI_some hig, bso]
                    rw [catT_ok (a := c) (b := ⟨[(g[p.idxOf y], z)]⟩) (by show c.l.length + 1 ≤ _; omega), bso, setK_new (by omega) hnew, bso, appT_ok (by omega), bso]
                    refine ⟨_, rfl, ⟨⟨ms ++ [(z, ⟨c.l ++ [(g[p.idxOf y], z)]⟩)], by rw [m1, List.append_assoc], by rw [m2, List.map_append]; rfl, fun u v q => ?_⟩, ?_, ?_, fun u q => ?_⟩, List.mem_append_left _ k2, fun u q => ?_⟩
                    · rcases List.mem_append.mp q with q | q
                      · exact m3 u v q
                      · cases List.mem_singleton.mp q
                        exact ⟨.snoc (i.ch y c hc1).1 hpy (List.getElem?_eq_getElem hia) (List.getElem?_eq_getElem hig) hzs, by show (c.l ++ [_]).length = _; rw [List.length_append, hc2]; rfl⟩
                    · rw [List.map_append]
                      refine List.nodup_append.mpr ⟨k1.nd, by simp, fun u q v q' e => ?_⟩
                      have : v = z := by simpa using q'
                      subst this; subst e
                      exact hnew q
                    · intro u q
                      rw [List.map_append] at q
                      rcases List.mem_append.mp q with q | q
                      · exact k1.kr u q
                      · have : u = z := by simpa using q
                        rw [this]; exact hzr
                    · obtain ⟨q1, q2⟩ := k1.done u q
                      exact ⟨q1, fun w hw => by rw [List.map_append]; exact List.mem_append_left _ (q2 w hw)⟩
                    · rw [List.map_append]
                      rcases List.mem_append.mp q with q | q
                      · exact List.mem_append_left _ (k3 u q)
                      · have : u = z := by simpa using q
                        rw [this]; simp
                  · rename_i hold
                    simp only [Bool.not_eq_true', decide_eq_false_iff_not, Classical.not_not] at hold
                    refine ⟨_, rfl, k1, k2, fun u q => ?_⟩
                    rcases List.mem_append.mp q with q | q
                    · exact k3 u q
                    · rw [List.mem_singleton.mp q]; exact hold
                · obtain ⟨k1, k2, k3⟩ := k
                  refine ⟨_, rfl, k1.news, k1.nd, k1.kr, fun u q => ?_⟩
                  rcases List.mem_append.mp q with q | q
                  · exact k1.done u q
                  · rw [List.mem_singleton.mp q]
                    refine ⟨hyp, fun z ⟨m, t, q1, q2, q3⟩ => ?_⟩
                    have hm : m = p.idxOf y := by
                      obtain ⟨w1, w2⟩ := List.getElem?_eq_some_iff.mp q1
                      have := hp.nd.idxOf_getElem m w1
                      rw [w2] at this
                      exact this.symm
                    subst hm
                    rw [al_at hia] at q2
                    cases q2
                    exact k3 z q3
          · rcases ho with ⟨s', rfl, j⟩ | ⟨c, y, rfl, rest⟩
            · refine ⟨_, rfl, ?_⟩
              obtain ⟨ns, n1, n2, n3⟩ := j.news
              refine ⟨j.nd, j.kr, fun y c q => ?_, fun y q => ?_, fun n y hn w => ?_, fun y w => ?_, fun n y hn w => ?_, fun q => ?_⟩
              · rw [n1] at q
                rcases List.mem_append.mp q with q | q
                · exact ⟨(i.ch y c q).1, by have := (i.ch y c q).2; omega⟩
                · exact ⟨(n3 y c q).1, by have := (n3 y c q).2; omega⟩
              · rw [n2] at q
                obtain ⟨⟨y', c⟩, q1, rfl⟩ := List.mem_map.mp q
                exact ⟨c, by rw [n1]; exact List.mem_append_right _ q1, (n3 _ _ q1).2⟩
              · rcases Nat.lt_or_ge n (d + 1) with hlt | hge
                · rw [n1, List.map_append]; exact List.mem_append_left _ (i.full n y (by omega) w)
                · have e : n = d + 1 := by omega
                  subst e
                  obtain ⟨u, w1, st⟩ := w.inv
                  rcases i.ex u w1 with ⟨m, hm, w2⟩ | hu
                  · rw [n1, List.map_append]; exact List.mem_append_left _ (i.full (m + 1) y (by omega) (.succ w2 st))
                  · exact (j.done u hu).2 y st
              · have hy : y ∈ s'.1.l.map Prod.fst := by
                  obtain ⟨u, w1, st⟩ := w.inv
                  rcases i.ex u w1 with ⟨m, hm, w2⟩ | hu
                  · rw [n1, List.map_append]; exact List.mem_append_left _ (i.full (m + 1) y (by omega) (.succ w2 st))
                  · exact (j.done u hu).2 y st
                rw [n1, List.map_append] at hy
                rcases List.mem_append.mp hy with q | q
                · obtain ⟨⟨y', c⟩, q1, rfl⟩ := List.mem_map.mp q
                  exact .inl ⟨c.l.length, by have := (i.ch _ _ q1).2; omega, (i.ch _ _ q1).1.wk⟩
                · exact .inr (by rw [n2]; exact q)
              · rcases Nat.lt_or_ge n d with hlt | hge
                · exact i.nofree n y hlt w
                · have e : n = d := by omega
                  subst e
                  rcases i.ex y w with ⟨m, hm, w2⟩ | hu
                  · exact i.nofree m y hm w2
                  · exact (j.done y hu).1
              · have h1 := i.cnt hne
                have h2 : s'.1.l.length = s.1.l.length + ns.length := by rw [n1, List.length_append]
                have h3 : ns ≠ [] := fun z => q (by rw [n2, z]; rfl)
                have := List.length_pos_iff.mpr h3
                show d + 1 + 1 ≤ s'.1.l.length
                omega
            · exact ⟨_, rfl, c, y, rfl, rest⟩
    · refine ⟨by simp, fun y q => by simpa using (by simpa using q : y = x) ▸ hx, fun y c q => ?_, fun y q => ?_, fun n y hn w => ?_, fun y w => ?_, fun n y hn w => by omega, fun _ => by simp⟩
      · cases List.mem_singleton.mp q; exact ⟨.nil, Nat.le_refl _⟩
      · have : y = x := by simpa using q
        subst this
        exact ⟨⟨[]⟩, by simp, rfl⟩
      · have : n = 0 := by omega
        subst this
        cases w; simp
      · cases w; exact .inr (by simp)
  · rcases ho with ⟨s, rfl, hno⟩ | ⟨c, y, rfl, rest⟩
    · exact ⟨_, rfl, .inl ⟨rfl, hno⟩⟩
    · exact ⟨_, rfl, .inr ⟨c, y, rfl, rest⟩⟩
end VI
/-! drawing a house out of a bag -/
namespace VI
open PySem L2 Enc
def Bag (j : List Int) : Prop := ∃ a b c, j = [a, b, c]
theorem bt3_0 (a b c : Int) : atI [a, b, c] 0 = some a := rfl
theorem bt3_1 (a b c : Int) : atI [a, b, c] 1 = some b := rfl
theorem bt3_2 (a b c : Int) : atI [a, b, c] 2 = some c := rfl
theorem bs3_0 (a b c x : Int) : setT [a, b, c] 0 x = some [x, b, c] := rfl
theorem bs3_1 (a b c x : Int) : setT [a, b, c] 1 x = some [a, x, c] := rfl
theorem bs3_2 (a b c x : Int) : setT [a, b, c] 2 x = some [a, b, x] := rfl
theorem s_draw {j : List Int} {wide : Int} (hj : Bag j) (h0 : 0 < wide) (h1 : wide < 1073741824) : ∃ r, t_law_draw j wide = some r ∧ (0 ≤ r.1 ∧ r.1 < wide ∧ Bag r.2) := by
  obtain ⟨a, b, c, rfl⟩ := hj
  unfold t_law_draw
  simp only [bt3_2, bs3_2, bt3_0, bt3_1, bso]
  split
  · rw [modT_p h0, bso, divT_p ⟨h0, h1⟩, bso, bs3_0, bso]
    exact ⟨_, rfl, Int.emod_nonneg _ (by omega), Int.emod_lt_of_pos _ h0, _, _, _, rfl⟩
  · rw [mulT_l (by decide)]
    simp only [bso]
    rw [mulT_r (by
      have := Int.emod_nonneg (b + 64007 * (c + 1)) (show (59009 : Int) ≠ 0 by decide)
      have := Int.emod_lt_of_pos (b + 64007 * (c + 1)) (show (0 : Int) < 59009 by decide)
      omega), bso, mulT_l (by decide)]
    simp only [bso, bs3_1, bt3_1]
    rw [modT_p h0, bso]
    exact ⟨_, rfl, Int.emod_nonneg _ (by omega), Int.emod_lt_of_pos _ h0, _, _, _, rfl⟩
theorem s_bag {cells : List Int} {k : Nat} : ∃ r, t_law_bag ⟨cells⟩ (k : Int) = some r ∧ Bag r := by
  unfold t_law_bag
  have hp : powT 10 15 = some (10 ^ 15) := by unfold powT; rw [if_pos (by decide +kernel)]; rfl
  refine ex_b (P := fun _ => True) ?_ fun q _ => ?_
  · split
    · rename_i h
      simp only [decide_eq_true_eq] at h
      have h' : k < cells.length := by omega
      rw [atI_some h', bso]
      exact ⟨_, rfl, trivial⟩
    · exact ⟨_, rfl, trivial⟩
  · rw [mulT_l (by decide), bso]
    rw [foldT_eq (α := Int) (σ := Int) (fun x s => ((s * 49727 + x % 1000121) + 17 * (k : Int)) % 2147483549) _ _ (fun x _ s => by
      rw [mulT_r (by decide), bso, mulT_l (by decide), bso, bso]), bso]
    refine ex_b (P := fun _ => True) ?_ fun q2 _ => ?_
    · split
      · exact ⟨_, rfl, trivial⟩
      · rw [hp, bso]; exact ⟨_, rfl, trivial⟩
    · rw [bso, mulT_l (by decide), bso]
      exact ⟨_, rfl, _, _, _, rfl⟩
/-! names -/
def poolS : List Sx := [lx_a, lx_b, lx_c, lx_ab, lx_ann, lx_red, lx_rooms, lx_x, lx_abcdefgh, lx_aa, lx_z, lx_nona, lx_y, lx_ba, lx_p, lx_q, lx_no]
theorem pool_ok : ∀ x ∈ poolS, NameOk x := by unfold NameOk; decide +kernel
theorem pool_nd : poolS.Nodup := by decide +kernel
theorem popT_ok {l : List Sx} {d : Int} (h0 : 0 ≤ d) (h1 : d < l.length) (hz : l.length ≤ 1000) : ∃ (h : d.toNat < l.length), popT l d = some (l[d.toNat], l.eraseIdx d.toNat) := by
  have h : d.toNat < l.length := by omega
  refine ⟨h, ?_⟩
  unfold popT
  rw [if_pos (by omega)]
  have e : seqIndex? d l.length = some d.toNat := by
    unfold seqIndex?
    have h2 : ¬ d < 0 := by omega
    have h3 : (decide (0 ≤ d) && decide (d < (l.length : Int))) = true := by simp [h0, h1]
    simp only [h2, if_false]
    exact if_pos h3
  rw [e]
  simp only [List.getElem?_eq_getElem h]
theorem mem_erase_at {l : List Sx} (nd : l.Nodup) {i : Nat} (h : i < l.length) {x : Sx} : x ∈ l.eraseIdx i ↔ x ∈ l ∧ x ≠ l[i] := by
  rw [List.mem_eraseIdx_iff_getElem]
  constructor
  · rintro ⟨j, hj, hne, rfl⟩
    exact ⟨List.getElem_mem hj, fun e => hne ((List.getElem_inj nd).mp e)⟩
  · rintro ⟨hx, hne⟩
    obtain ⟨j, hj, rfl⟩ := List.getElem_of_mem hx
    exact ⟨j, hj, fun e => hne (by subst e; rfl), rfl⟩
theorem filt_len (l : List Sx) (less : List Sx) (nl : less.length ≤ 6) : l.Nodup → l.length ≤ (l.filter fun x => !decide (x ∈ less)).length + 6 := by
  intro nd
  have h1 : (l.filter fun x => decide (x ∈ less)).length ≤ less.length := by
    induction l generalizing less with
    | nil => simp
    | cons x l ih =>
      rw [List.nodup_cons] at nd
      rw [List.filter_cons]
      split
      · rename_i hx
        have hx' : x ∈ less := by simpa using hx
        have e : (l.filter fun y => decide (y ∈ less)) = l.filter fun y => decide (y ∈ less.erase x) := by
          refine List.filter_congr fun y hy => ?_
          have hne : y ≠ x := fun e => nd.1 (e ▸ hy)
          simp [List.mem_erase_of_ne hne]
        have hl := List.length_erase_of_mem hx'
        have hp : 0 < less.length := List.length_pos_of_mem hx'
        have := ih (less.erase x) (by omega) nd.2
        rw [List.length_cons, e]
        omega
      · exact ih less nl nd.2
  have h2 : l.length = (l.filter fun x => decide (x ∈ less)).length + (l.filter fun x => !decide (x ∈ less)).length := by
    clear h1 nd
    induction l with
    | nil => rfl
    | cons x l ih =>
      rw [List.filter_cons, List.filter_cons]
      by_cases hx : x ∈ less
      · simp only [hx, decide_true, if_true, Bool.not_true, Bool.false_eq_true, if_false, List.length_cons]; omega
      · simp only [hx, decide_false, Bool.false_eq_true, if_false, Bool.not_false, if_true, List.length_cons]; omega
  omega
theorem s_bnames {j : List Int} {many : Nat} {less : List Sx} (hj : Bag j) (hm : many ≤ 11) (nl : less.length ≤ 6) : ∃ r, t_law_names j (many : Int) ⟨less⟩ = some r ∧ (r.1.l.length = many ∧ r.1.l.Nodup ∧ (∀ x ∈ r.1.l, x ∈ poolS) ∧ (∀ x ∈ r.1.l, x ∉ less) ∧ Bag r.2) := by
  unfold t_law_names
  have hz := sz
  rw [bso, lcP_filter (fun x => !decide (x ∈ less)) (by show (17 : Nat) ≤ _; omega) (fun x _ => by split <;> rfl), bso, rngT_n many (by omega), bso]
  have hfl := filt_len poolS less nl pool_nd
  have hf17 : (poolS.filter fun x => !decide (x ∈ less)).length ≤ 17 := List.length_filter_le ..
  have h17 : poolS.length = 17 := rfl
  have hnd := pool_nd.filter (fun x => !decide (x ∈ less))
  refine ex_b (P := fun p : List Sx × (List Int × List Sx) => p.1.length = many ∧ p.1.Nodup ∧ (∀ x ∈ p.1, x ∈ poolS.filter fun x => !decide (x ∈ less)) ∧ Bag p.2.1) ?_ fun p hp => ?_
  · obtain ⟨l, s', q1, q2⟩ := lcS_ok (f := (fun (x5 : Int) (s8 : (List Int) × (List Sx)) =>
        (t_law_draw s8.1 (s8.2.length : Int)).bind fun r9 =>
        (popT s8.2 r9.1).bind fun pool10 =>
        some (some pool10.1, (r9.2, pool10.2)))) (fun pre acc s => acc.length = pre.length ∧ acc.Nodup ∧ (∀ x ∈ acc, x ∈ poolS.filter fun x => !decide (x ∈ less)) ∧ Bag s.1 ∧ s.2.Nodup ∧ (∀ x ∈ s.2, x ∈ poolS.filter fun x => !decide (x ∈ less)) ∧ (∀ x ∈ s.2, x ∉ acc) ∧ s.2.length + pre.length = (poolS.filter fun x => !decide (x ∈ less)).length)
        ((List.range many).map fun (k : Nat) => (k : Int)) (j, poolS.filter fun x => !decide (x ∈ less)) (by simp; omega) ⟨rfl, List.nodup_nil, by simp, hj, hnd, fun x h => h, by simp, by simp⟩ (fun pre x post acc s e i => by
      obtain ⟨i1, i2, i3, i4, i5, i6, i7, i8⟩ := i
      have hpl : pre.length < many := by
        have := congrArg List.length e
        simp at this
        omega
      have hsl : 0 < s.2.length := by omega
      obtain ⟨d, d1, d2⟩ := s_draw (wide := (s.2.length : Int)) i4 (by omega) (by omega)
      obtain ⟨hlt, e2⟩ := popT_ok (l := s.2) d2.1 d2.2.1 (by omega)
      rw [d1, bso, e2, bso]
      have hm : s.2[d.1.toNat] ∈ s.2 := List.getElem_mem hlt
      refine ⟨_, _, rfl, by simp [i1], ?_, fun y hy => ?_, d2.2.2, i5.sublist (List.eraseIdx_sublist _ _), fun y hy => i6 y ((mem_erase_at i5 hlt).mp hy).1, fun y hy hya => ?_, ?_⟩
      · show (acc ++ [s.2[d.1.toNat]]).Nodup
        refine List.nodup_append.mpr ⟨i2, by simp, fun a ha b hb e => ?_⟩
        have : b = s.2[d.1.toNat] := by simpa using hb
        subst this; subst e
        exact i7 _ hm ha
      · rcases List.mem_append.mp hy with hy | hy
        · exact i3 y hy
        · have : y = s.2[d.1.toNat] := by simpa using hy
          rw [this]; exact i6 _ hm
      · obtain ⟨h1, h2⟩ := (mem_erase_at i5 hlt).mp hy
        rcases List.mem_append.mp hya with hya | hya
        · exact i7 y h1 hya
        · exact h2 (by simpa using hya)
      · show (s.2.eraseIdx d.1.toNat).length + (pre ++ [x]).length = _
        rw [List.length_eraseIdx, if_pos hlt, List.length_append]
        simp
        omega)
    exact ⟨(l, s'), q1, by simpa using q2.1, q2.2.1, q2.2.2.1, q2.2.2.2.1⟩
  · refine ⟨_, rfl, hp.1, hp.2.1, fun x hx => (List.mem_filter.mp (hp.2.2.1 x hx)).1, fun x hx => ?_, hp.2.2.2⟩
    have := (List.mem_filter.mp (hp.2.2.1 x hx)).2
    simpa using this
abbrev PartsT : Type := Hl (Hc (Tup Sx) (Hc (Tup Sx) (Hc (Tup (Tup Sx)) Hn)))
def prt (g r : List Sx) (a : List (Tup Sx)) : PartsT := ⟨⟨⟨g⟩, ⟨⟨r⟩, ⟨⟨a⟩, ⟨⟩⟩⟩⟩⟩
def houseTail (guests6 r41 : Tup Sx) (bag : List Int) : Option (PartsT × List Int) :=
  (some (([] : (List (Tup Sx))) : (List (Tup Sx)))).bind fun found7 =>
  (rngT (r41.l.length : Int)).bind fun xs8 =>
  (foldT (σ := (List Int) × (List Sx)) (fun (x9 : Int) (s17 : (List Int) × (List Sx)) =>
  (t_law_draw s17.1 (r41.l.length : Int)).bind fun r18 =>
  (atI s17.2 r18.1).bind fun w19 =>
  (atI s17.2 x9).bind fun w20 =>
  (some ((w19, w20) : (Sx × Sx))).bind fun p21 =>
  (setT s17.2 x9 p21.1).bind fun order22 =>
  (setT order22 r18.1 p21.2).bind fun order23 =>
  some (r18.2, order23)) xs8 (bag, r41.l)).bind fun s24 =>
  (t_law_one s24.1 ([(2 : Int), (3 : Int), (3 : Int), (5 : Int)] : (List Int))).bind fun r25 =>
  (rngT (guests6.l.length : Int)).bind fun xs26 =>
  (foldT (σ := (List Int) × (List (Tup Sx))) (fun (x27 : Int) (s41 : (List Int) × (List (Tup Sx))) =>
  ((if (decide (x27 < (s24.2.length : Int))) = true then
  (t_law_draw s41.1 (12 : Int)).bind fun r42 =>
  some ((decide ((0 : Int) < r42.1)), r42.2)
  else some (false, s41.1) : Option (Bool × ((List Int))))).bind fun q43 =>
  ((if q43.1 = true then
  (atI s24.2 x27).bind fun w44 =>
  some (w44, ())
  else
  some (ly_, ()) : Option (Sx × (Unit)))).bind fun q45 =>
  ((lcS (β := Sx) (fun (x46 : Sx) (s49 : (List Int)) =>
  ((if (decide (x46 = q45.1)) = true then some (true, s49) else
  (t_law_draw s49 r25.1).bind fun r50 =>
  some ((decide (r50.1 = (0 : Int))), r50.2) : Option (Bool × ((List Int))))).bind fun q51 =>
  if q51.1 = true then
  some (some x46, q51.2)
  else some (none, q51.2)) r41.l q43.2 : Option (List Sx × ((List Int))))).bind fun l52 =>
  (appT s41.2 (⟨l52.1⟩ : (Tup Sx))).bind fun found53 =>
  some (l52.2, found53)) xs26 (r25.2, found7)).bind fun s54 =>
  some ((⟨⟨guests6, ⟨r41, ⟨(⟨s54.2⟩ : (Tup (Tup Sx))), ⟨⟩⟩⟩⟩⟩ : PartsT), s54.1)
theorem setT_ok {α : Type} [Enc α] {l : List α} {n : Nat} {x : α} (h : n < l.length) : setT l (n : Int) x = some (l.set n x) := by
  unfold setT ixN
  rw [if_pos (Int.natCast_nonneg n), if_pos (by omega)]
  simp
theorem s_one4 {j : List Int} (hj : Bag j) : ∃ r, t_law_one j [2, 3, 3, 5] = some r ∧ (0 < r.1 ∧ r.1 < 1073741824 ∧ Bag r.2) := by
  unfold t_law_one
  refine ex_b (s_draw hj (by decide) (by decide)) fun d hd => ?_
  obtain ⟨w, w1, w2⟩ := atI_lt (l := [(2 : Int), 3, 3, 5]) hd.1 hd.2.1
  rw [w1, bso]
  refine ⟨_, rfl, ?_, ?_, hd.2.2⟩ <;> (simp at w2; show _ < _; omega)
theorem sub_step {f : Option Sx} {x : Sx} {l m : List Sx} (h : l.Sublist m) (hf : f = none ∨ f = some x) : (l ++ f.toList).Sublist (m ++ [x]) := by
  rcases hf with rfl | rfl
  · simpa using List.Sublist.trans h (List.sublist_append_left m [x])
  · exact List.Sublist.append h (List.Sublist.refl _)
theorem rng_at {n : Nat} {pre post : List Int} {x : Int} (e : pre ++ x :: post = (List.range n).map fun (k : Nat) => (k : Int)) : x = (pre.length : Int) ∧ pre.length < n := by
  have h3 : ((List.range n).map fun (k : Nat) => (k : Int))[pre.length]? = some x := by rw [← e]; simp
  rw [List.getElem?_map, Option.map_eq_some_iff] at h3
  obtain ⟨k, h4, h5⟩ := h3
  obtain ⟨h6, h7⟩ := List.getElem?_eq_some_iff.mp h4
  rw [List.getElem_range] at h7
  rw [List.length_range] at h6
  exact ⟨by rw [← h5, h7], h6⟩
theorem s_tail {g r : List Sx} {bag : List Int} (hb : Bag bag) (hg : g.length ≤ 6) (hr1 : 1 ≤ r.length) (hr : r.length ≤ 8) : ∃ o, houseTail ⟨g⟩ ⟨r⟩ bag = some o ∧ ∃ a, o.1 = prt g r a ∧ a.length = g.length ∧ (∀ s ∈ a, s.l.Sublist r) ∧ Bag o.2 := by
  unfold houseTail
  have hz := sz
  rw [bso, show rngT ((⟨r⟩ : Tup Sx).l.length : Int) = _ from rngT_n r.length (by omega), bso]
  refine ex_b (foldT_ok (fun pre s => Bag s.1 ∧ s.2.length = r.length) _ _ ⟨hb, rfl⟩ (fun pre x post s e i => ?_)) fun s hs => ?_
  · obtain ⟨rfl, hlt⟩ := rng_at e
    obtain ⟨i1, i2⟩ := i
    refine ex_b (s_draw i1 (show (0 : Int) < (r.length : Int) by omega) (show (r.length : Int) < 1073741824 by omega)) fun d hd => ?_
    obtain ⟨n, hn⟩ := Int.eq_ofNat_of_zero_le hd.1
    have hn2 : n < s.2.length := by
      have : d.1 < (r.length : Int) := hd.2.1
      omega
    rw [hn, atI_some hn2, bso, atI_some (show pre.length < s.2.length by omega), bso, bso, setT_ok (by omega), bso, setT_ok (by rw [List.length_set]; exact hn2), bso]
    exact ⟨_, rfl, hd.2.2, by simp [i2]⟩
  · obtain ⟨s1, s2⟩ := hs
    refine ex_b (s_one4 s1) fun w hw => ?_
    rw [show rngT ((⟨g⟩ : Tup Sx).l.length : Int) = _ from rngT_n g.length (by omega), bso]
    refine ex_b (foldT_ok (fun pre t => Bag t.1 ∧ t.2.length = pre.length ∧ ∀ u ∈ t.2, u.l.Sublist r) _ _ ⟨hw.2.2, rfl, by simp⟩ (fun pre x post t e i => ?_)) fun t ht => ?_
    · obtain ⟨rfl, hlt⟩ := rng_at e
      obtain ⟨i1, i2, i3⟩ := i
      refine ex_b (P := fun q : Bool × List Int => Bag q.2 ∧ (q.1 = true → pre.length < s.2.length)) ?_ fun q hq => ?_
      · split
        · rename_i hc
          simp only [decide_eq_true_eq] at hc
          refine ex_b (s_draw i1 (by decide) (by decide)) fun d hd => ?_
          exact ⟨_, rfl, hd.2.2, fun _ => by omega⟩
        · exact ⟨_, rfl, i1, fun h => by cases h⟩
      · refine ex_b (P := fun _ => True) ?_ fun q2 _ => ?_
        · split
          · rename_i hc
            rw [atI_some (hq.2 hc), bso]
            exact ⟨_, rfl, trivial⟩
          · exact ⟨_, rfl, trivial⟩
        · refine ex_b (P := fun p : List Sx × List Int => p.1.Sublist r ∧ Bag p.2) ?_ fun p hp => ?_
          · obtain ⟨l, s', k1, k2⟩ := lcS_ok (f := (fun (x46 : Sx) (s49 : (List Int)) =>
                ((if (decide (x46 = q2.1)) = true then some (true, s49) else
                (t_law_draw s49 w.1).bind fun r50 =>
                some ((decide (r50.1 = (0 : Int))), r50.2) : Option (Bool × ((List Int))))).bind fun q51 =>
                if q51.1 = true then
                some (some x46, q51.2)
                else some (none, q51.2))) (fun pre acc s => acc.Sublist pre ∧ Bag s) r q.2 (by omega) ⟨List.Sublist.refl _, hq.1⟩ (fun pre x post acc s e i => by
              have key : ∃ v, ((if (decide (x = q2.1)) = true then some (true, s) else (t_law_draw s w.1).bind fun r50 => some ((decide (r50.1 = (0 : Int))), r50.2)) : Option (Bool × List Int)) = some v ∧ Bag v.2 := by
                split
                · exact ⟨_, rfl, i.2⟩
                · refine ex_b (s_draw i.2 hw.1 hw.2.1) fun d hd => ?_
                  exact ⟨_, rfl, hd.2.2⟩
              obtain ⟨v, v1, v2⟩ := key
              rw [v1, bso]
              split
              · exact ⟨_, _, rfl, sub_step i.1 (.inr rfl), v2⟩
              · exact ⟨_, _, rfl, sub_step i.1 (.inl rfl), v2⟩)
            exact ⟨(l, s'), k1, k2⟩
          · rw [appT_ok (by omega), bso]
            refine ⟨_, rfl, hp.2, by simp [i2], fun u hu => ?_⟩
            rcases List.mem_append.mp hu with hu | hu
            · exact i3 u hu
            · rw [List.mem_singleton.mp hu]; exact hp.1
    · obtain ⟨t1, t2, t3⟩ := ht
      rw [List.length_map, List.length_range] at t2
      exact ⟨_, rfl, t.2, rfl, t2, t3, t1⟩
theorem s_bhouse {j : List Int} {mg mr : Nat} (hj : Bag j) (g1 : 1 ≤ mg) (g6 : mg ≤ 6) (r1 : 1 ≤ mr) (r8 : mr ≤ 8) :
    ∃ o, t_law_house j (mg : Int) (mr : Int) = some o ∧ ∃ g r a, o.1 = prt g r a ∧ HomeOk g r a ∧ g.length ≤ mg ∧ r.length ≤ mr ∧ (∀ x ∈ g, x ∈ poolS) ∧ (∀ x ∈ r, x ∈ poolS) ∧ Bag o.2 := by
  unfold t_law_house
  have hz := sz
  refine ex_b (s_draw hj (by omega) (by omega)) fun d1 hd1 => ?_
  obtain ⟨n1, hn1⟩ := Int.eq_ofNat_of_zero_le hd1.1
  have e1 : ((1 : Int) + d1.1) = ((1 + n1 : Nat) : Int) := by omega
  rw [e1]
  refine ex_b (s_bnames (less := []) hd1.2.2 (by omega) (by simp)) fun d2 hd2 => ?_
  refine ex_b (s_draw hd2.2.2.2.2 (by omega) (by omega)) fun d3 hd3 => ?_
  obtain ⟨n3, hn3⟩ := Int.eq_ofNat_of_zero_le hd3.1
  have e3 : ((1 : Int) + d3.1) = ((1 + n3 : Nat) : Int) := by omega
  rw [e3]
  have l2 := hd2.1
  refine ex_b (s_bnames (less := d2.1.l) hd3.2.2 (by have := hd3.2.1; omega) (by have := hd1.2.1; omega)) fun d4 hd4 => ?_
  refine ex_b (s_draw hd4.2.2.2.2 (by decide) (by decide)) fun d5 hd5 => ?_
  have l4 := hd4.1
  have b1 := hd1.2.1
  have b3 := hd3.2.1
  have fin : ∀ g : List Sx, g.Sublist d2.1.l → g ≠ [] → ∃ o, houseTail ⟨g⟩ d4.1 d5.2 = some o ∧ ∃ g r a, o.1 = prt g r a ∧ HomeOk g r a ∧ g.length ≤ mg ∧ r.length ≤ mr ∧ (∀ x ∈ g, x ∈ poolS) ∧ (∀ x ∈ r, x ∈ poolS) ∧ Bag o.2 := by
    intro g hg hg0
    have hgl := hg.length_le
    obtain ⟨o, o1, a, o2, o3, o4, o5⟩ := s_tail (g := g) (r := d4.1.l) hd5.2.2 (by omega) (by omega) (by omega)
    have gp : ∀ x ∈ g, x ∈ poolS := fun x hx => hd2.2.2.1 x (hg.subset hx)
    refine ⟨o, o1, g, d4.1.l, a, o2, ⟨fun x hx => pool_ok x (gp x hx), fun x hx => pool_ok x (hd4.2.2.1 x hx), hd2.2.1.sublist hg, hd4.2.1, hg0, ?_, by omega, by omega, fun x hx q => hd4.2.2.2.1 x hx (hg.subset q), o3, o4⟩, by omega, by omega, gp, hd4.2.2.1, o5⟩
    intro z
    have : d4.1.l.length = 0 := by rw [z]; rfl
    omega
  split
  · rename_i hc
    rw [bso]
    have e : cutL d2.1.l none (some (d4.1.l.length : Int)) = d2.1.l.take d4.1.l.length := cutL_take _ _
    refine fin (cutL d2.1.l none (some (d4.1.l.length : Int))) (by rw [e]; exact List.take_sublist _ _) ?_
    intro z
    have := congrArg List.length z
    rw [e, List.length_take] at this
    have h0 : ([] : List Sx).length = 0 := rfl
    omega
  · refine fin d2.1.l (List.Sublist.refl _) ?_
    intro z
    have : d2.1.l.length = 0 := by rw [z]; rfl
    omega
theorem b_made {g r : List Sx} {a : List (Tup Sx)} (h : HomeOk g r a) : t_law_made (prt g r a) = some (mkH g r a) := by
  unfold t_law_made
  rw [show t_House_init (prt g r a).x.h (prt g r a).x.t.h (prt g r a).x.t.t.h = _ from s_House h, bso]
end VI
/-! who moves in some placing -/
namespace VI
section
variable {α : Type} [DecidableEq α]
theorem Plc.at {a : List (List α)} {p : List α} (h : Plc a p) {i : Nat} (hi : i < a.length) : ∃ x, p[i]? = some x ∧ x ∈ a[i] := by
  have hp : i < p.length := by rw [h.len]; exact hi
  exact ⟨p[i], List.getElem?_eq_getElem hp, h.mem i p[i] a[i] (List.getElem?_eq_getElem hp) (List.getElem?_eq_getElem hi)⟩
theorem nd_ix {p : List α} (nd : p.Nodup) {i j : Nat} {x : α} (h1 : p[i]? = some x) (h2 : p[j]? = some x) : i = j := by
  obtain ⟨a1, a2⟩ := List.getElem?_eq_some_iff.mp h1
  obtain ⟨b1, b2⟩ := List.getElem?_eq_some_iff.mp h2
  exact (List.getElem_inj nd).mp (a2.trans b2.symm)
/-- a guest goes into a free room -/
theorem Plc.move {a : List (List α)} {p : List α} (h : Plc a p) {j : Nat} {s : List α} {y : α} (hs : a[j]? = some s) (hy : y ∈ s) (hf : y ∉ p) : Plc a (p.set j y) where
  len := by rw [List.length_set]; exact h.len
  mem := fun i x t h1 h2 => by
    rw [List.getElem?_set] at h1
    split at h1
    · rename_i e
      subst e
      split at h1
      · cases h1
        rw [hs] at h2; cases h2; exact hy
      · cases h1
    · exact h.mem i x t h1 h2
  nd := by
    rw [List.Nodup, List.pairwise_iff_getElem]
    intro i k hi hk hik
    rw [List.length_set] at hi hk
    rw [List.getElem_set, List.getElem_set]
    split
    · split
      · omega
      · intro e; exact hf (e ▸ List.getElem_mem hk)
    · split
      · intro e; exact hf (e ▸ List.getElem_mem hi)
      · intro e
        have := (List.getElem_inj h.nd).mp e
        omega
theorem walk_keeps {a : List (List α)} {p : List α} {x u y : α} {j m : Nat} (hj : p[j]? = some u) (hm : ∀ m', m' < m → ¬ Wk a p x m' u) : ∀ {k : Nat} {v : α}, k ≤ m → Wk a p x k v → Wk a (p.set j y) x k v
  | 0, v, _, w => by cases w; exact .zero
  | k + 1, v, hk, w => by
    obtain ⟨t, w1, i, s, h1, h2, h3⟩ := w.inv
    have w2 := walk_keeps (y := y) hj hm (k := k) (by omega) w1
    have hne : j ≠ i := fun e => by
      subst e
      rw [hj] at h1
      cases h1
      exact hm k (by omega) w1
    exact .succ w2 ⟨i, s, by rw [List.getElem?_set_ne hne]; exact h1, h2, h3⟩
/-- a guest in an open room moves in some placing; the placing is come to by moves of others -/
theorem open_moves {a : List (List α)} : ∀ (n : Nat) {p : List α} {x y : α} {i : Nat}, Plc a p → p[i]? = some x → Wk a p x n y → y ∉ p → ∃ q z s, Plc a q ∧ a[i]? = some s ∧ z ∈ s ∧ z ∉ q := by
  intro n
  induction n using Nat.strongRecOn with
  | ind n ih =>
    intro p x y i hp hi w hf
    cases n with
    | zero => cases w; exact (hf (List.mem_of_getElem? hi)).elim
    | succ m =>
      obtain ⟨u, w1, j, s, h1, h2, h3⟩ := w.inv
      by_cases hsh : ∃ m', m' < m ∧ Wk a p x m' u
      · obtain ⟨m', hm', w'⟩ := hsh
        exact ih (m' + 1) (by omega) hp hi (.succ w' ⟨j, s, h1, h2, h3⟩) hf
      · have hno : ∀ m', m' < m → ¬ Wk a p x m' u := fun m' h w' => hsh ⟨m', h, w'⟩
        by_cases hm0 : m = 0
        · subst hm0
          cases w1
          have : i = j := nd_ix hp.nd hi h1
          subst this
          exact ⟨p, y, s, hp, h2, h3, hf⟩
        · have hxu : x ≠ u := fun e => hno 0 (by omega) (e ▸ .zero)
          have hij : j ≠ i := fun e => by
            subst e
            rw [hi] at h1; cases h1; exact hxu rfl
          have hp' := hp.move h2 h3 hf
          have hjl : j < p.length := (List.getElem?_eq_some_iff.mp h1).1
          refine ih m (by omega) hp' (by rw [List.getElem?_set_ne hij]; exact hi) (walk_keeps h1 hno (Nat.le_refl _) w1) ?_
          intro q
          obtain ⟨k, hk⟩ := List.getElem?_of_mem q
          rw [List.getElem?_set] at hk
          split at hk
          · have hk' : y = u := Option.some.inj hk
            exact hf (hk' ▸ List.mem_of_getElem? h1)
          · rename_i hne
            exact hne (nd_ix hp.nd h1 hk)
/-- a lot of places whose accepted rooms all lie among as many rooms: in each placing all these rooms are taken -/
theorem lot_full {a : List (List α)} {G : List Nat} {S : List α} (gn : G.Nodup) (hG : ∀ i ∈ G, i < a.length) (hS : ∀ i ∈ G, ∀ s, a[i]? = some s → ∀ y ∈ s, y ∈ S) (hl : S.length ≤ G.length) {q : List α} (hq : Plc a q) : ∀ y ∈ S, y ∈ q := by
  have hlen : ∀ i ∈ G, i < q.length := fun i hi => by rw [hq.len]; exact hG i hi
  -- the rooms of the lot
  have hQ : ∀ (G : List Nat), (∀ i ∈ G, i < q.length) → G.Nodup → ∃ Q : List α, Q.length = G.length ∧ Q.Nodup ∧ ∀ x ∈ Q, ∃ i ∈ G, q[i]? = some x := by
    intro G
    induction G with
    | nil => intro _ _; exact ⟨[], rfl, List.nodup_nil, fun x h => by cases h⟩
    | cons i G ih =>
      intro h1 h2
      rw [List.nodup_cons] at h2
      obtain ⟨Q, e1, e2, e3⟩ := ih (fun j hj => h1 j (List.mem_cons_of_mem _ hj)) h2.2
      have hi := h1 i (List.mem_cons_self ..)
      refine ⟨q[i] :: Q, by simp [e1], ?_, fun x hx => ?_⟩
      · rw [List.nodup_cons]
        refine ⟨fun hm => ?_, e2⟩
        obtain ⟨j, hj, e⟩ := e3 _ hm
        have := nd_ix hq.nd (List.getElem?_eq_getElem hi) e
        exact h2.1 (this ▸ hj)
      · rcases List.mem_cons.mp hx with rfl | hx
        · exact ⟨i, List.mem_cons_self .., List.getElem?_eq_getElem hi⟩
        · obtain ⟨j, hj, e⟩ := e3 x hx
          exact ⟨j, List.mem_cons_of_mem _ hj, e⟩
  obtain ⟨Q, e1, e2, e3⟩ := hQ G hlen gn
  have hsub : ∀ x ∈ Q, x ∈ S := fun x hx => by
    obtain ⟨i, hi, e⟩ := e3 x hx
    have hia := hG i hi
    exact hS i hi a[i] (List.getElem?_eq_getElem hia) x (hq.mem i x a[i] e (List.getElem?_eq_getElem hia))
  intro y hy
  have := nd_eq e2 hsub (by omega) y hy
  obtain ⟨i, _, e⟩ := e3 y this
  exact List.mem_of_getElem? e
open Classical in
/-- the places of the guests in rooms that are not open -/
noncomputable def shutG (a : List (List α)) (p : List α) : List Nat := (List.range a.length).filter fun i => decide (∃ x, p[i]? = some x ∧ ¬ Opn a p x)
open Classical in
noncomputable def shutS (a : List (List α)) (p : List α) : List α := p.filter fun x => decide (¬ Opn a p x)
open Classical in
theorem mem_shutG {a : List (List α)} {p : List α} {i : Nat} : i ∈ shutG a p ↔ i < a.length ∧ ∃ x, p[i]? = some x ∧ ¬ Opn a p x := by
  unfold shutG; rw [List.mem_filter, List.mem_range, decide_eq_true_iff]
open Classical in
theorem mem_shutS {a : List (List α)} {p : List α} {x : α} : x ∈ shutS a p ↔ x ∈ p ∧ ¬ Opn a p x := by
  unfold shutS; rw [List.mem_filter, decide_eq_true_iff]
theorem shut_len {a : List (List α)} {p : List α} (hp : Plc a p) : (shutS a p).length = (shutG a p).length := by
  unfold shutS shutG
  rw [← hp.len]
  have key : ∀ (p' : List α) (f : α → Bool), (p'.filter f).length = ((List.range p'.length).filter fun i => match p'[i]? with | some x => f x | none => false).length := by
    intro p' f
    induction p' with
    | nil => rfl
    | cons x p' ih =>
      rw [List.length_cons, List.range_succ_eq_map, List.filter_cons, List.filter_cons, List.filter_map]
      simp only [List.getElem?_cons_zero, Function.comp_def, List.getElem?_cons_succ]
      split
      · rw [List.length_cons, List.length_cons, List.length_map, ih]
      · rw [List.length_map, ih]
  rw [key]
  congr 1
  refine List.filter_congr fun i hi => ?_
  rw [List.mem_range] at hi
  rw [List.getElem?_eq_getElem hi]
  by_cases h : Opn a p p[i] <;> simp [h]
theorem shut_closed {a : List (List α)} {p : List α} (hp : Plc a p) : ∀ i ∈ shutG a p, ∀ s, a[i]? = some s → ∀ y ∈ s, y ∈ shutS a p := by
  intro i hi s hs y hy
  obtain ⟨h1, x, h2, h3⟩ := mem_shutG.mp hi
  have hn : ¬ Opn a p y := fun o => h3 (.step ⟨i, s, h2, hs, hy⟩ o)
  exact mem_shutS.mpr ⟨Classical.byContradiction fun q => hn (.free q), hn⟩
/-- a guest in a room that is not open moves in no placing -/
theorem shut_stays {a : List (List α)} {p : List α} (hp : Plc a p) {i : Nat} (hi : i ∈ shutG a p) {q : List α} (hq : Plc a q) {s : List α} (hs : a[i]? = some s) : ∀ y ∈ s, y ∈ q := by
  intro y hy
  have gn : (shutG a p).Nodup := by unfold shutG; exact List.nodup_range.filter _
  exact lot_full gn (fun j hj => (mem_shutG.mp hj).1) (shut_closed hp) (Nat.le_of_eq (shut_len hp)) hq y (shut_closed hp i hi s hs y hy)
/-- who moves in no placing -/
def Stuck (a : List (List α)) (i : Nat) : Prop := ∀ q s, Plc a q → a[i]? = some s → ∀ y ∈ s, y ∈ q
theorem stuck_iff {a : List (List α)} {p : List α} (hp : Plc a p) {i : Nat} {x : α} (hx : p[i]? = some x) : Stuck a i ↔ ¬ Opn a p x := by
  have hi : i < a.length := by rw [← hp.len]; exact (List.getElem?_eq_some_iff.mp hx).1
  constructor
  · rintro h ⟨n, y, w, hf⟩
    obtain ⟨q, z, s, h1, h2, h3, h4⟩ := open_moves n hp hx w hf
    exact h4 (h q s h1 h2 z h3)
  · intro h q s hq hs y hy
    exact shut_stays hp (mem_shutG.mpr ⟨hi, x, hx, h⟩) hq hs y hy
end
end VI
/-! rooms that are freed; one guest more -/
namespace VI
section
variable {α : Type} [DecidableEq α]
/-- an open room is free in some placing -/
theorem open_frees {a : List (List α)} : ∀ (n : Nat) {p : List α} {x y : α}, Plc a p → Wk a p x n y → y ∉ p → ∃ q, Plc a q ∧ x ∉ q := by
  intro n
  induction n using Nat.strongRecOn with
  | ind n ih =>
    intro p x y hp w hf
    cases n with
    | zero => cases w; exact ⟨p, hp, hf⟩
    | succ m =>
      obtain ⟨u, w1, j, s, h1, h2, h3⟩ := w.inv
      by_cases hsh : ∃ m', m' < m ∧ Wk a p x m' u
      · obtain ⟨m', hm', w'⟩ := hsh
        exact ih (m' + 1) (by omega) hp (.succ w' ⟨j, s, h1, h2, h3⟩) hf
      · have hno : ∀ m', m' < m → ¬ Wk a p x m' u := fun m' h w' => hsh ⟨m', h, w'⟩
        have hjl : j < p.length := (List.getElem?_eq_some_iff.mp h1).1
        refine ih m (by omega) (hp.move h2 h3 hf) (walk_keeps h1 hno (Nat.le_refl _) w1) ?_
        intro q
        obtain ⟨k, hk⟩ := List.getElem?_of_mem q
        rw [List.getElem?_set] at hk
        split at hk
        · have hk' : y = u := Option.some.inj hk
          exact hf (hk' ▸ List.mem_of_getElem? h1)
        · rename_i hne
          exact hne (nd_ix hp.nd h1 hk)
/-- the rooms of a shortest way are unlike -/
theorem way_rooms {a : List (List α)} {p : List α} {x : α} : ∀ {n : Nat} {y : α}, Wk a p x n y → (∀ m, m < n → ¬ Wk a p x m y) → ∃ l : List α, l.length = n ∧ l.Nodup ∧ ∀ v ∈ l, ∃ k, k < n ∧ Wk a p x k v
  | 0, y, w, _ => ⟨[], rfl, List.nodup_nil, fun v h => by cases h⟩
  | n + 1, y, w, hm => by
    obtain ⟨u, w1, st⟩ := w.inv
    have hu : ∀ m, m < n → ¬ Wk a p x m u := fun m h w' => hm (m + 1) (by omega) (.succ w' st)
    obtain ⟨l, h1, h2, h3⟩ := way_rooms w1 hu
    refine ⟨l ++ [u], by simp [h1], ?_, fun v hv => ?_⟩
    · refine List.nodup_append.mpr ⟨h2, by simp, fun v hv b hb e => ?_⟩
      have : b = u := by simpa using hb
      subst this; subst e
      obtain ⟨k, hk, w'⟩ := h3 _ hv
      exact hu k hk w'
    · rcases List.mem_append.mp hv with hv | hv
      · obtain ⟨k, hk, w'⟩ := h3 v hv
        exact ⟨k, by omega, w'⟩
      · rw [List.mem_singleton.mp hv]; exact ⟨n, by omega, w1⟩
theorem way_short {a : List (List α)} {p : List α} {x y : α} {n : Nat} (w : Wk a p x n y) (hf : y ∉ p) (hm : ∀ m z, Wk a p x m z → z ∉ p → n ≤ m) : n ≤ p.length := by
  obtain ⟨l, h1, h2, h3⟩ := way_rooms w (fun m h w' => by have := hm m y w' hf; omega)
  have := nd_le h2 (m := p) fun v hv => by
    obtain ⟨k, hk, w'⟩ := h3 v hv
    exact Classical.byContradiction fun q => by have := hm k v w' q; omega
  omega
/-- one guest more -/
theorem Plc.more {a : List (List α)} {q : List α} (h : Plc a q) {s : List α} {x : α} (hx : x ∈ s) (hf : x ∉ q) : Plc (a ++ [s]) (q ++ [x]) where
  len := by simp [h.len]
  mem := fun i y t h1 h2 => by
    by_cases hi : i < a.length
    · rw [List.getElem?_append_left (by rw [h.len]; exact hi)] at h1
      rw [List.getElem?_append_left hi] at h2
      exact h.mem i y t h1 h2
    · rw [List.getElem?_append_right (by rw [h.len]; omega)] at h1
      rw [List.getElem?_append_right (by omega)] at h2
      have : i = a.length := by
        have := (List.getElem?_eq_some_iff.mp h2).1
        simp at this; omega
      subst this
      rw [h.len] at h1
      simp at h1 h2
      subst h1; subst h2; exact hx
  nd := List.nodup_append.mpr ⟨h.nd, by simp, fun v hv b hb e => by
    have : b = x := by simpa using hb
    subst this; subst e; exact hf hv⟩
theorem Plc.less {a : List (List α)} {Q : List α} {s : List α} (h : Plc (a ++ [s]) Q) : ∃ q x, Q = q ++ [x] ∧ Plc a q ∧ x ∈ s ∧ x ∉ q := by
  have hl : Q.length = a.length + 1 := by rw [h.len]; simp
  have hne : Q ≠ [] := fun e => by rw [e] at hl; simp at hl
  have e : Q = Q.dropLast ++ [Q.getLast hne] := (List.dropLast_concat_getLast hne).symm
  have hdl : Q.dropLast.length = a.length := by rw [List.length_dropLast]; omega
  generalize Q.dropLast = q at e hdl
  generalize Q.getLast hne = x at e
  subst e
  have nd := List.nodup_append.mp h.nd
  refine ⟨q, x, rfl, ⟨hdl, fun i y t h1 h2 => ?_, nd.1⟩, ?_, fun hx => nd.2.2 x hx x (by simp) rfl⟩
  · have hi : i < a.length := (List.getElem?_eq_some_iff.mp h2).1
    exact h.mem i y t (by rw [List.getElem?_append_left (by omega)]; exact h1) (by rw [List.getElem?_append_left hi]; exact h2)
  · exact h.mem a.length x s (by rw [List.getElem?_append_right (by omega), hdl]; simp) (by simp)
/-- the bigger house has a placing exactly if one of the new guest's rooms is open -/
theorem more_iff {a : List (List α)} {p : List α} (hp : Plc a p) {s : List α} : (∃ Q, Plc (a ++ [s]) Q) ↔ ∃ x ∈ s, Opn a p x := by
  constructor
  · rintro ⟨Q, hQ⟩
    obtain ⟨q, x, _, hq, hx, hn⟩ := hQ.less
    refine Classical.byContradiction fun hc => ?_
    have hno : ∀ x ∈ s, ¬ Opn a p x := fun x hx o => hc ⟨x, hx, o⟩
    have gn : (shutG a p).Nodup := by unfold shutG; exact List.nodup_range.filter _
    have hxS : x ∈ shutS a p := mem_shutS.mpr ⟨Classical.byContradiction fun z => hno x hx (.free z), hno x hx⟩
    exact hn (lot_full gn (fun j hj => (mem_shutG.mp hj).1) (shut_closed hp) (Nat.le_of_eq (shut_len hp)) hq x hxS)
  · rintro ⟨x, hx, n, y, w, hf⟩
    obtain ⟨q, hq, hn⟩ := open_frees n hp w hf
    exact ⟨q ++ [x], hq.more hx hn⟩
end
end VI
/-! the law k23 -/
namespace VI
open PySem L2 Enc
theorem s_bplacings {g r : List Sx} {a : List (Tup Sx)} (h : HomeOk g r a) : t_law_placings (prt g r a) = some (lainsT a) := by
  have h8 := h.l8
  have h6 := h.a6
  have hal := h.al
  have hz := sz
  unfold t_law_placings
  rw [bso, show rngT ((prt g r a).x.h.l.length : Int) = _ from rngT_n g.length (by have := h.gl; omega), bso]
  refine ex_e (foldT_ok (fun pre s => s = lainsT (a.take pre.length)) _ _ rfl (fun pre x post s e i => ?_)) fun s hs => by
    rw [hs, List.length_map, List.length_range, ← hal, List.take_length]
  subst i
  obtain ⟨rfl, hlt⟩ := rng_at e
  have hia : pre.length < a.length := by omega
  have et : a.take (pre.length + 1) = a.take pre.length ++ [a[pre.length]] := (List.take_append_getElem hia).symm
  have esplit : a.take pre.length ++ a[pre.length] :: a.drop (pre.length + 1) = a := by
    rw [List.getElem_cons_drop]; exact List.take_append_drop _ _
  obtain ⟨z1, z2, z3, z4⟩ := lains_sz h8 h6 esplit
  rw [bso]
  refine ex_b (foldT_ok (fun pre2 s => s = lstepT pre2 a[pre.length]) _ _ rfl (fun pre2 p post2 s2 e2 i2 => ?_)) fun s hs => ⟨_, rfl, by
    rw [hs, List.length_append]
    show _ = lainsT (a.take (pre.length + 1))
    rw [et]; unfold lainsT; rw [fold_last]⟩
  subst i2
  have hp : p ∈ lainsT (a.take pre.length) := by rw [← e2]; simp
  have hp6 := z4 p hp
  rw [show atI (prt g r a).x.t.t.h.l (pre.length : Int) = some a[pre.length] from atI_some hia, bso, cat_step (by omega) (by omega), bso]
  have : (lstepT pre2 a[pre.length]).length + ((a[pre.length].l.filter fun y => !decide (y ∈ p.l)).map fun y => (⟨p.l ++ [y]⟩ : Tup Sx)).length ≤ 262144 := by
    rw [← List.length_append, ← lstepT_app]
    refine Nat.le_trans (lstepT_mono (g := post2) a[pre.length]) ?_
    rw [List.append_assoc]
    show (lstepT (pre2 ++ p :: post2) a[pre.length]).length ≤ _
    rw [e2]; exact z2
  rw [catL_ok (by omega), bso]
  exact ⟨_, rfl, (lstepT_app pre2 p _).symm⟩
/-- the shortest chain as told -/
def chO (g r : List Sx) (a : List (Tup Sx)) (p : List Sx) (x : Sx) : Option (Tup (Sx × Sx)) := (t_shortest_chain (mkH g r a) ⟨p⟩ x).getD none
theorem chO_ok {g r : List Sx} {a : List (Tup Sx)} {p : List Sx} (h : HomeOk g r a) (hp : Plc (al a) p) {x : Sx} (hx : x ∈ r) :
    t_shortest_chain (mkH g r a) ⟨p⟩ x = some (chO g r a p x) ∧ ((chO g r a p x = none ∧ ¬ Opn (al a) p x) ∨ ∃ c, chO g r a p x = some c ∧ Opn (al a) p x ∧ c.l.length ≤ p.length ∧ (c.l.length = 0 ↔ x ∉ p)) := by
  obtain ⟨o, h1, h2⟩ := s_chain h hp hx
  have e : chO g r a p x = o := by unfold chO; rw [h1]; rfl
  refine ⟨by rw [h1, e], ?_⟩
  rw [e]
  rcases h2 with ⟨rfl, hno⟩ | ⟨c, y, rfl, h3, h4, h5, h6⟩
  · exact .inl ⟨rfl, fun ⟨n, y, w, hf⟩ => hf (hno n y w)⟩
  · refine .inr ⟨c, rfl, ⟨_, y, h3.wk, h4⟩, way_short h3.wk h4 h6, fun h0 => ?_, fun hx => ?_⟩
    · have : c.l = [] := List.eq_nil_of_length_eq_zero h0
      exact h3.nil_eq this ▸ h4
    · have := h6 0 x .zero hx; omega
def lens (g r : List Sx) (a : List (Tup Sx)) (p : List Sx) (s : List Sx) : List Int := s.filterMap fun x => (chO g r a p x).map fun c => (c.l.length : Int)
def newO (g r : List Sx) (a : List (Tup Sx)) (p : List Sx) (s : List Sx) : Option Int := minL (lens g r a p s)
theorem s_newcomer {g r : List Sx} {a : List (Tup Sx)} {p s : List Sx} (h : HomeOk g r a) (hp : Plc (al a) p) (hs : s.Sublist r) : t_newcomer (mkH g r a) ⟨p⟩ ⟨s⟩ = some (newO g r a p s) := by
  unfold t_newcomer
  have hz := sz
  have hr := h.rl
  have hsl := hs.length_le
  have e0 : t_check_lain (mkH g r a) ⟨p⟩ = some () := by unfold t_check_lain; rw [s_check_house, bso, s_check_placing h hp, bso]
  rw [e0, bso, show t_is_ascending ⟨s⟩ (mkH g r a).rooms = some true from s_asc hs h.rd (by omega), bso]
  simp only [Bool.not_true, Bool.false_eq_true, if_false]
  rw [lcP_map (fun x => chO g r a p x) (by show s.length ≤ _; omega) (fun x hx => by rw [(chO_ok h hp (hs.subset hx)).1, bso]), bso]
  have e1 : lcP (β := Int) (fun (x6 : (Option (Tup (Sx × Sx)))) => if x6.isSome = true then (x6).bind fun y7 => some (some (y7.l.length : Int)) else some none) (s.map fun x => chO g r a p x) = some (lens g r a p s) := by
    rw [lcP_eq (fun o : Option (Tup (Sx × Sx)) => o.map fun c => (c.l.length : Int)) (by rw [List.length_map]; omega) (fun o _ => by cases o <;> rfl)]
    unfold lens
    rw [List.filterMap_map]; rfl
  rw [e1, bso]
  unfold newO
  by_cases hl : lens g r a p s = []
  · rw [hl]; rfl
  · obtain ⟨n, ns, e⟩ := List.exists_cons_of_ne_nil hl
    rw [e]
    rfl
theorem new_one (g r : List Sx) (a : List (Tup Sx)) (p : List Sx) (x : Sx) : newO g r a p [x] = (chO g r a p x).map fun c => (c.l.length : Int) := by
  unfold newO lens
  rw [List.filterMap_cons]
  cases chO g r a p x <;> rfl
theorem minL_spec : ∀ {l : List Int}, l ≠ [] → ∃ m, minL l = some m ∧ m ∈ l ∧ ∀ y ∈ l, m ≤ y
  | [], h => (h rfl).elim
  | n :: ns, _ => ⟨minI n ns, rfl, minI_mem ns n, fun y hy => by
    rcases List.mem_cons.mp hy with rfl | hy
    · exact (minI_le ns y).1
    · exact (minI_le ns n).2 y hy⟩
theorem mem_lens {g r : List Sx} {a : List (Tup Sx)} {p s : List Sx} {n : Int} : n ∈ lens g r a p s ↔ ∃ x ∈ s, ∃ c, chO g r a p x = some c ∧ n = (c.l.length : Int) := by
  unfold lens
  rw [List.mem_filterMap]
  constructor
  · rintro ⟨x, hx, e⟩
    obtain ⟨c, h1, h2⟩ := Option.map_eq_some_iff.mp e
    exact ⟨x, hx, c, h1, h2.symm⟩
  · rintro ⟨x, hx, c, h1, rfl⟩
    exact ⟨x, hx, by rw [h1]; rfl⟩
theorem new_some {g r : List Sx} {a : List (Tup Sx)} {p s : List Sx} (h : HomeOk g r a) (hp : Plc (al a) p) (hs : s.Sublist r) : (newO g r a p s).isSome = true ↔ ∃ x ∈ s, Opn (al a) p x := by
  unfold newO
  constructor
  · intro q
    have hl : lens g r a p s ≠ [] := fun e => by rw [e] at q; cases q
    obtain ⟨n, hn⟩ := List.exists_mem_of_ne_nil _ hl
    obtain ⟨x, hx, c, h1, _⟩ := mem_lens.mp hn
    rcases (chO_ok h hp (hs.subset hx)).2 with ⟨e, _⟩ | ⟨c', _, ho, _⟩
    · rw [h1] at e; cases e
    · exact ⟨x, hx, ho⟩
  · rintro ⟨x, hx, ho⟩
    rcases (chO_ok h hp (hs.subset hx)).2 with ⟨_, hno⟩ | ⟨c, e, _⟩
    · exact (hno ho).elim
    · have hl : lens g r a p s ≠ [] := fun z => by
        have : (c.l.length : Int) ∈ lens g r a p s := mem_lens.mpr ⟨x, hx, c, e, rfl⟩
        rw [z] at this; cases this
      obtain ⟨m, hm, _⟩ := minL_spec hl
      rw [hm]; rfl
theorem new_zero {g r : List Sx} {a : List (Tup Sx)} {p s : List Sx} (h : HomeOk g r a) (hp : Plc (al a) p) (hs : s.Sublist r) : newO g r a p s = some 0 ↔ ∃ x ∈ s, x ∉ p := by
  unfold newO
  constructor
  · intro q
    have hl : lens g r a p s ≠ [] := fun e => by rw [e] at q; cases q
    obtain ⟨m, hm, h1, _⟩ := minL_spec hl
    rw [hm] at q
    cases q
    obtain ⟨x, hx, c, h2, h3⟩ := mem_lens.mp h1
    rcases (chO_ok h hp (hs.subset hx)).2 with ⟨e, _⟩ | ⟨c', e, _, _, h0⟩
    · rw [h2] at e; cases e
    · rw [h2] at e; cases e
      exact ⟨x, hx, h0.mp (by omega)⟩
  · rintro ⟨x, hx, hf⟩
    rcases (chO_ok h hp (hs.subset hx)).2 with ⟨_, hno⟩ | ⟨c, e, _, _, h0⟩
    · exact (hno (.free hf)).elim
    · have hin : (c.l.length : Int) ∈ lens g r a p s := mem_lens.mpr ⟨x, hx, c, e, rfl⟩
      have hc0 := h0.mpr hf
      obtain ⟨m, hm, h1, h2⟩ := minL_spec (l := lens g r a p s) (fun z => by rw [z] at hin; cases hin)
      have h3 := h2 _ hin
      obtain ⟨x', hx', c', _, h4⟩ := mem_lens.mp h1
      rw [hm]
      congr 1
      omega
theorem new_le {g r : List Sx} {a : List (Tup Sx)} {p s : List Sx} (h : HomeOk g r a) (hp : Plc (al a) p) (hs : s.Sublist r) {n : Int} (hn : newO g r a p s = some n) : 0 ≤ n ∧ n ≤ p.length := by
  unfold newO at hn
  have hl : lens g r a p s ≠ [] := fun e => by rw [e] at hn; cases hn
  obtain ⟨m, hm, h1, _⟩ := minL_spec hl
  rw [hm] at hn
  cases hn
  obtain ⟨x, hx, c, h2, h3⟩ := mem_lens.mp h1
  rcases (chO_ok h hp (hs.subset hx)).2 with ⟨e, _⟩ | ⟨c', e, _, hle, _⟩
  · rw [h2] at e; cases e
  · rw [h2] at e; cases e
    omega
theorem zzz_ok : NameOk lx_zzz := by unfold NameOk; decide +kernel
theorem zzz_pool : lx_zzz ∉ poolS := by decide +kernel
theorem s_has_placing {g r : List Sx} {a : List (Tup Sx)} (h : HomeOk g r a) : t_has_placing (mkH g r a) = some (decide (lainsT a ≠ [])) := by
  unfold t_has_placing
  rw [s_check_house, bso, s_has_some h.l8 h.a6, bso]
theorem reprO {o : Option Int} (h : ∀ n, o = some n → 0 ≤ n ∧ n < 1000) : ∃ z, reprT o = some z := by
  cases o with
  | none => exact ⟨_, rfl⟩
  | some n =>
    obtain ⟨h1, h2⟩ := h n rfl
    have hlog : n.natAbs.log2 < 1920 := by
      have := log_lt (n := n.natAbs) (by have : (10 : Nat) ^ 12 = 1000000000000 := by decide
                                         omega)
      omega
    have e : biRepr [enc (some n)] = some (.dt (.str (toString n : String))) := by
      show (if n.natAbs.log2 < 1920 then some (R.dt (.str (toString n : String))) else none) = _
      rw [if_pos hlog]
    exact ⟨_, by unfold reprT; rw [e]⟩
theorem s_one2 {j : List Int} (hj : Bag j) {l : List (Tup Sx)} (hl : l ≠ []) (hz : l.length ≤ 262144) : ∃ o, t_law_one_2 j l = some o ∧ (o.1 ∈ l ∧ Bag o.2) := by
  unfold t_law_one_2
  have h0 : 0 < l.length := List.length_pos_iff.mpr hl
  refine ex_b (s_draw hj (show (0 : Int) < (l.length : Int) by omega) (show (l.length : Int) < 1073741824 by omega)) fun d hd => ?_
  obtain ⟨w, w1, w2⟩ := atI_lt (l := l) hd.1 hd.2.1
  rw [w1, bso]
  exact ⟨_, rfl, w2, hd.2.2⟩
theorem s_right {j : List Int} (hj : Bag j) : ∃ o, t_law_right j = some o ∧ o.1 = true := by
  unfold t_law_right
  have hz := sz
  rw [show rngT 5 = _ from rngT_n 5 (by decide), bso]
  refine ex_b (forT_nx' (fun _ s => Bag s) _ _ hj (fun pre x post s e hb => ?_)) fun o ho => ?_
  · refine nx_b (s_bhouse (mg := 5) (mr := 6) hb (by decide) (by decide) (by decide) (by decide)) fun d hd => ?_
    obtain ⟨g, r, a, hd1, ok, hg, hr, gp, rp, hbag⟩ := hd
    have hal := ok.al
    rw [hd1, s_bplacings ok, bso]
    split
    · exact ⟨_, rfl, hbag⟩
    · rename_i hne
      have hne' : lainsT a ≠ [] := by simpa using hne
      rw [b_made ok, bso]
      refine nx_b (s_one2 hbag hne' (lainsT_len ok.l8 ok.a6)) fun e he => ?_
      have hp := mem_lainsT.mp he.1
      have hpl : e.1.l.length = a.length := by rw [hp.len, List.length_map]
      refine nx_b (P := fun q : List Sx × List Int => q.1.Sublist r ∧ Bag q.2) ?_ fun q hq => ?_
      · obtain ⟨l, s', k1, k2⟩ := lcS_ok (f := (fun (x40 : Sx) (s42 : (List Int)) =>
            (t_law_draw s42 (3 : Int)).bind fun r43 =>
            if (decide (r43.1 = (0 : Int))) = true then
            some (some x40, r43.2)
            else some (none, r43.2))) (fun pre acc s => acc.Sublist pre ∧ Bag s) r e.2 (by omega) ⟨List.Sublist.refl _, he.2⟩ (fun pre x post acc s e i => by
          obtain ⟨d, d1, d2⟩ := s_draw (wide := 3) i.2 (by decide) (by decide)
          rw [d1, bso]
          split
          · exact ⟨_, _, rfl, sub_step i.1 (.inr rfl), d2.2.2⟩
          · exact ⟨_, _, rfl, sub_step i.1 (.inl rfl), d2.2.2⟩)
        exact ⟨(l, s'), k1, k2⟩
      · have okB : HomeOk (g ++ [lx_zzz]) r (a ++ [⟨q.1⟩]) := ⟨fun x hx => by
            rcases List.mem_append.mp hx with hx | hx
            · exact ok.gn x hx
            · rw [List.mem_singleton.mp hx]; exact zzz_ok, ok.rn, List.nodup_append.mpr ⟨ok.gd, by simp, fun x hx y hy e => by
              have : y = lx_zzz := by simpa using hy
              subst this; subst e; exact zzz_pool (gp _ hx)⟩, ok.rd, by simp, ok.r0, by simp; omega, ok.rl, fun x hx hy => by
              rcases List.mem_append.mp hy with hy | hy
              · exact ok.dj x hx hy
              · have : x = lx_zzz := by simpa using hy
                exact zzz_pool (this ▸ rp x hx), by simp [hal], fun t ht => by
              rcases List.mem_append.mp ht with ht | ht
              · exact ok.as t ht
              · rw [List.mem_singleton.mp ht]; exact hq.1⟩
        rw [bso, catT_ok (a := (prt g r a).x.h) (b := ⟨[lx_zzz]⟩) (by show g.length + 1 ≤ _; omega), bso, catT_ok (a := (prt g r a).x.t.t.h) (b := ⟨[⟨q.1⟩]⟩) (by show a.length + 1 ≤ _; omega), bso]
        rw [show t_House_init (⟨(prt g r a).x.h.l ++ (⟨[lx_zzz]⟩ : Tup Sx).l⟩ : Tup Sx) (prt g r a).x.t.h (⟨(prt g r a).x.t.t.h.l ++ (⟨[⟨q.1⟩]⟩ : Tup (Tup Sx)).l⟩ : Tup (Tup Sx)) = _ from s_House okB, bso]
        rw [show t_newcomer (mkH g r a) e.1 ⟨q.1⟩ = _ from s_newcomer ok hp hq.1, bso, bso]
        obtain ⟨z, hz1⟩ := reprO (o := newO g r a e.1.l q.1) (fun n hn => by
          have := new_le ok hp hq.1 hn
          omega)
        rw [hz1, bso, bso]
        simp only [decide_true, Bool.not_true, Bool.false_eq_true, if_false]
        rw [show t_has_placing (mkH ((prt g r a).x.h.l ++ [lx_zzz]) r ((prt g r a).x.t.t.h.l ++ [⟨q.1⟩])) = _ from s_has_placing okB, bso]
        have hB : (newO g r a e.1.l q.1).isSome = decide (lainsT (a ++ [⟨q.1⟩]) ≠ []) := by
          rw [Bool.eq_iff_iff, new_some ok hp hq.1, decide_eq_true_iff, ← more_iff hp]
          constructor
          · rintro ⟨Q, hQ⟩ hnil
            have : (⟨Q⟩ : Tup Sx) ∈ lainsT (a ++ [⟨q.1⟩]) := mem_lainsT.mpr (by rw [List.map_append]; exact hQ)
            rw [hnil] at this; cases this
          · intro hn
            obtain ⟨Q, hQ⟩ := List.exists_mem_of_ne_nil _ hn
            have := mem_lainsT.mp hQ
            rw [List.map_append] at this
            exact ⟨Q.l, this⟩
        have hB2 : decide ((newO g r a e.1.l q.1).isSome ≠ decide (lainsT ((prt g r a).x.t.t.h.l ++ [⟨q.1⟩]) ≠ [])) = false := by
          show decide ((newO g r a e.1.l q.1).isSome ≠ decide (lainsT (a ++ [⟨q.1⟩]) ≠ [])) = false
          rw [hB]; simp
        rw [hB2]
        simp only [Bool.false_eq_true, if_false]
        have hql := hq.1.length_le
        rw [lcP_filter (fun x => !decide (x ∈ e.1.l)) (by show q.1.length ≤ _; omega) (fun x _ => by split <;> rfl), bso]
        have hZ : decide (newO g r a e.1.l q.1 = some 0) = decide ((q.1.filter fun x => !decide (x ∈ e.1.l)) ≠ []) := by
          rw [decide_eq_decide, new_zero ok hp hq.1]
          constructor
          · rintro ⟨x, hx, hf⟩ hnil
            have : x ∈ q.1.filter fun x => !decide (x ∈ e.1.l) := List.mem_filter.mpr ⟨hx, by simpa using hf⟩
            rw [hnil] at this; cases this
          · intro hn
            obtain ⟨x, hx⟩ := List.exists_mem_of_ne_nil _ hn
            obtain ⟨h1, h2⟩ := List.mem_filter.mp hx
            exact ⟨x, h1, by simpa using h2⟩
        have hZ2 : decide (decide (newO g r a e.1.l q.1 = some 0) ≠ decide ((q.1.filter fun x => !decide (x ∈ e.1.l)) ≠ [])) = false := by rw [hZ]; simp
        rw [hZ2]
        simp only [Bool.false_eq_true, if_false]
        rw [lcP_map (fun x => (chO g r a e.1.l x).map fun c => (c.l.length : Int)) (by show q.1.length ≤ _; omega) (fun x hx => by
          have hxr : [x].Sublist r := List.singleton_sublist.mpr (hq.1.subset hx)
          rw [show t_newcomer (mkH g r a) e.1 ⟨[x]⟩ = _ from s_newcomer ok hp hxr, bso]
          congr 2
          exact new_one g r a e.1.l x), bso]
        have e1 : lcP (β := Int) (fun (x59 : (Option Int)) => if x59.isSome = true then (x59).bind fun y60 => some (some y60) else some none) (q.1.map fun x => (chO g r a e.1.l x).map fun c => (c.l.length : Int)) = some (lens g r a e.1.l q.1) := by
          rw [lcP_eq (fun o : Option Int => o) (by rw [List.length_map]; omega) (fun o _ => by cases o <;> rfl)]
          unfold lens
          rw [List.filterMap_map]; rfl
        rw [e1, bso]
        refine nx_b (P := fun w : Option Int × Unit => w.1 = newO g r a e.1.l q.1) ?_ fun w hw => ?_
        · unfold newO
          by_cases hl : lens g r a e.1.l q.1 = []
          · rw [hl]; exact ⟨_, rfl, rfl⟩
          · obtain ⟨n, ns, en⟩ := List.exists_cons_of_ne_nil hl
            rw [en]; exact ⟨_, rfl, rfl⟩
        · rw [hw]
          simp only [ne_eq, not_true_eq_false, decide_false, Bool.false_eq_true, if_false]
          refine nx_b (P := fun w : Bool × Unit => w.1 = false) ?_ fun w hw => ?_
          · refine ex_b (P := fun w : Bool × Unit => w.1 = false) ?_ fun w hw => ⟨_, rfl, hw⟩
            cases hn : newO g r a e.1.l q.1 with
            | none => exact ⟨_, rfl, rfl⟩
            | some n =>
              have := new_le ok hp hq.1 hn
              simp only [Option.isSome_some, if_true, bso]
              exact ⟨_, rfl, by simp; omega⟩
          · rw [hw]
            exact ⟨_, rfl, hq.2⟩
  · obtain ⟨s, rfl, _⟩ := ho
    exact ⟨_, rfl, rfl⟩
theorem law_typed (ns : List Int) (hl : ns.length ≤ 63) : t_law ⟨ns⟩ = some true := by
  unfold t_law
  have e : ∃ n : Nat, max2T 2 (min2T ((⟨ns⟩ : Scr).l.length : Int) 5) = (n : Int) ∧ n ≤ 5 := by
    show ∃ n : Nat, max2T 2 (min2T (ns.length : Int) 5) = (n : Int) ∧ n ≤ 5
    unfold max2T min2T
    refine ⟨(if (if (5 : Int) < (ns.length : Int) then (5 : Int) else (ns.length : Int)) > 2 then (if (5 : Int) < (ns.length : Int) then (5 : Int) else (ns.length : Int)) else 2).toNat, ?_, ?_⟩ <;> (repeat' split) <;> omega
  obtain ⟨n, en, hn⟩ := e
  have hz := sz
  rw [en, rngT_n n (by omega), bso]
  rw [lcP_map (fun _ => true) (by simp; omega) (fun x hx => by
    obtain ⟨k, hk, rfl⟩ := List.mem_map.mp hx
    obtain ⟨c, c1, c2⟩ := s_bag (cells := ns) (k := k)
    obtain ⟨r, r1, r2⟩ := s_right c2
    rw [c1, bso, r1, bso, r2]), bso]
  simp
theorem law_true (ns : List Int) (hl : ns.length ≤ 63) : ∃ ss', runN Pg0 30 i_law [.va (.scr ns)] = some (.dt (.bl true), ss') := ⟨_, ok_law _ (script := ⟨ns⟩) (law_typed ns hl)⟩
end VI
namespace VI
open PySem L2
/-! the head -/
def top (i : Nat) : Stmt := PySem.Challenge.pw_roomsingly_k23_whole_new_guests.main.body.getD i (.Pass ⟨0, 0, 0, 0⟩)
def st_is_name : Stmt := (top 16)
def d_is_name : He.DefD := ⟨("is_name", none), "is_name", "is_name", defArgs st_is_name, defBody st_is_name, defScope st_is_name, [], []⟩
def st_wrong_name : Stmt := (top 17)
def d_wrong_name : He.DefD := ⟨("wrong_name", none), "wrong_name", "wrong_name", defArgs st_wrong_name, defBody st_wrong_name, defScope st_wrong_name, [], []⟩
def st_is_ascending : Stmt := (top 18)
def d_is_ascending : He.DefD := ⟨("is_ascending", none), "is_ascending", "is_ascending", defArgs st_is_ascending, defBody st_is_ascending, defScope st_is_ascending, [], []⟩
def st_check_guests : Stmt := (top 21)
def d_check_guests : He.DefD := ⟨("check_guests", none), "check_guests", "check_guests", defArgs st_check_guests, defBody st_check_guests, defScope st_check_guests, [], []⟩
def st_check_rooms : Stmt := (top 22)
def d_check_rooms : He.DefD := ⟨("check_rooms", none), "check_rooms", "check_rooms", defArgs st_check_rooms, defBody st_check_rooms, defScope st_check_rooms, [], []⟩
def st_check_accepted : Stmt := (top 23)
def d_check_accepted : He.DefD := ⟨("check_accepted", none), "check_accepted", "check_accepted", defArgs st_check_accepted, defBody st_check_accepted, defScope st_check_accepted, [], []⟩
def st_House_init : Stmt := (inClass (top 26) 0)
def d_House_init : He.DefD := ⟨("House", some "__init__"), "__init__", "House.__init__", defArgs st_House_init, defBody st_House_init, defScope st_House_init, [], []⟩
def st_check_house : Stmt := (top 27)
def d_check_house : He.DefD := ⟨("check_house", none), "check_house", "check_house", defArgs st_check_house, defBody st_check_house, defScope st_check_house, [], []⟩
def st_all_placings : Stmt := (top 29)
def d_all_placings : He.DefD := ⟨("all_placings", none), "all_placings", "all_placings", defArgs st_all_placings, defBody st_all_placings, defScope st_all_placings, [], []⟩
def st_has_some : Stmt := (top 30)
def d_has_some : He.DefD := ⟨("has_some", none), "has_some", "has_some", defArgs st_has_some, defBody st_has_some, defScope st_has_some, [], []⟩
def st_has_placing : Stmt := (top 31)
def d_has_placing : He.DefD := ⟨("has_placing", none), "has_placing", "has_placing", defArgs st_has_placing, defBody st_has_placing, defScope st_has_placing, [], []⟩
def st_are_places : Stmt := (top 32)
def d_are_places : He.DefD := ⟨("are_places", none), "are_places", "are_places", defArgs st_are_places, defBody st_are_places, defScope st_are_places, [], []⟩
def st_is_good : Stmt := (top 33)
def d_is_good : He.DefD := ⟨("is_good", none), "is_good", "is_good", defArgs st_is_good, defBody st_is_good, defScope st_is_good, [], []⟩
def st_check_placing : Stmt := (top 34)
def d_check_placing : He.DefD := ⟨("check_placing", none), "check_placing", "check_placing", defArgs st_check_placing, defBody st_check_placing, defScope st_check_placing, [], []⟩
def st_frees : Stmt := (top 35)
def d_frees : He.DefD := ⟨("frees", none), "frees", "frees", defArgs st_frees, defBody st_frees, defScope st_frees, [], []⟩
def st_shortest_chain : Stmt := (top 37)
def d_shortest_chain : He.DefD := ⟨("shortest_chain", none), "shortest_chain", "shortest_chain", defArgs st_shortest_chain, defBody st_shortest_chain, defScope st_shortest_chain, [], []⟩
def st_check_lain : Stmt := (top 39)
def d_check_lain : He.DefD := ⟨("check_lain", none), "check_lain", "check_lain", defArgs st_check_lain, defBody st_check_lain, defScope st_check_lain, [], []⟩
def st_newcomer : Stmt := (top 40)
def d_newcomer : He.DefD := ⟨("newcomer", none), "newcomer", "newcomer", defArgs st_newcomer, defBody st_newcomer, defScope st_newcomer, [], []⟩
def st_law_bag : Stmt := (top 42)
def d_law_bag : He.DefD := ⟨("_law_bag", none), "_law_bag", "_law_bag", defArgs st_law_bag, defBody st_law_bag, defScope st_law_bag, [], []⟩
def st_law_draw : Stmt := (top 43)
def d_law_draw : He.DefD := ⟨("_law_draw", none), "_law_draw", "_law_draw", defArgs st_law_draw, defBody st_law_draw, defScope st_law_draw, [], []⟩
def st_law_one : Stmt := (top 44)
def d_law_one : He.DefD := ⟨("_law_one", none), "_law_one", "_law_one", defArgs st_law_one, defBody st_law_one, defScope st_law_one, [], []⟩
def st_law_names : Stmt := (top 45)
def d_law_names : He.DefD := ⟨("_law_names", none), "_law_names", "_law_names", defArgs st_law_names, defBody st_law_names, defScope st_law_names, [], []⟩
def st_law_house : Stmt := (top 46)
def d_law_house : He.DefD := ⟨("_law_house", none), "_law_house", "_law_house", defArgs st_law_house, defBody st_law_house, defScope st_law_house, [], []⟩
def st_law_made : Stmt := (top 47)
def d_law_made : He.DefD := ⟨("_law_made", none), "_law_made", "_law_made", defArgs st_law_made, defBody st_law_made, defScope st_law_made, [], []⟩
def st_law_placings : Stmt := (top 48)
def d_law_placings : He.DefD := ⟨("_law_placings", none), "_law_placings", "_law_placings", defArgs st_law_placings, defBody st_law_placings, defScope st_law_placings, [], []⟩
def st_law_right : Stmt := (top 49)
def d_law_right : He.DefD := ⟨("_law_right", none), "_law_right", "_law_right", defArgs st_law_right, defBody st_law_right, defScope st_law_right, [], []⟩
def st_law : Stmt := (top 50)
def d_law : He.DefD := ⟨("law", none), "law", "law", defArgs st_law, defBody st_law, defScope st_law, [], []⟩
def dfs : List He.DefD := [d_is_name, d_wrong_name, d_is_ascending, d_check_guests, d_check_rooms, d_check_accepted, d_House_init, d_check_house, d_all_placings, d_has_some, d_has_placing, d_are_places, d_is_good, d_check_placing, d_frees, d_shortest_chain, d_check_lain, d_newcomer, d_law_bag, d_law_draw, d_law_one, d_law_names, d_law_house, d_law_made, d_law_placings, d_law_right, d_law]
def loc0 : List (Str × Option Str) := dfs.map He.DefD.at_
def stm0 (f : Nat) : Stmt := [st_is_name, st_wrong_name, st_is_ascending, st_check_guests, st_check_rooms, st_check_accepted, st_House_init, st_check_house, st_all_placings, st_has_some, st_has_placing, st_are_places, st_is_good, st_check_placing, st_frees, st_shortest_chain, st_check_lain, st_newcomer, st_law_bag, st_law_draw, st_law_one, st_law_names, st_law_house, st_law_made, st_law_placings, st_law_right, st_law].getD f (.Pass ⟨0, 0, 0, 0⟩)
def nms0 (f : Nat) : List Str := [n_is_name, n_wrong_name, n_is_ascending, n_check_guests, n_check_rooms, n_check_accepted, n_House_init, n_check_house, n_all_placings, n_has_some, n_has_placing, n_are_places, n_is_good, n_check_placing, n_frees, n_shortest_chain, n_check_lain, n_newcomer, n_law_bag, n_law_draw, n_law_one, n_law_names, n_law_house, n_law_made, n_law_placings, n_law_right, n_law].getD f []
def ex0 : PySem.W.Frag → Bool := exB Pg0 loc0
abbrev R0 : PySem.W.OpenRow := PySem.W.OpenLaw.row PySem.Challenge.rw_roomsingly_k23_whole_new_guests
abbrev hk0 : PySem.W.Hook := hookE 5 dfs ex0
def loose0 : List Str := (["ShapeError", "InvalidGuests", "InvalidRooms", "InvalidAccepted", "InvalidText", "InvalidPlacing", "NotAHouse", "QuestionError", "UnknownGuest", "UnknownRoom", "MOST_NAME", "MOST_GUESTS", "MOST_ROOMS", "LETTERS", "is_name", "wrong_name", "is_ascending", "is_one_of", "check_guests", "check_rooms"] : List Str) ++ (["check_accepted", "house_text", "house_in", "House", "check_house", "all_placings", "has_some", "has_placing", "are_places", "is_good", "check_placing", "frees", "shortest_chain", "check_lain", "newcomer", "_law_bag", "_law_draw", "_law_one", "_law_names", "_law_house"] : List Str) ++ (["_law_made", "_law_placings", "_law_right"] : List Str)
set_option maxHeartbeats 0 in
theorem head_run (w : World) : HandSHeadRun.RunEq R0 (PySem.W.view R0.prog [50]) hk0 (obE 5 dfs ex0) 8000 loose0 w := by
  intro os
  kernel_rfl
theorem c_is_name : chkFn Pg0 f_is_name n_is_name st_is_name = true := by decide +kernel
theorem c_wrong_name : chkFn Pg0 f_wrong_name n_wrong_name st_wrong_name = true := by decide +kernel
theorem c_is_ascending : chkFn Pg0 f_is_ascending n_is_ascending st_is_ascending = true := by decide +kernel
theorem c_check_guests : chkFn Pg0 f_check_guests n_check_guests st_check_guests = true := by decide +kernel
theorem c_check_rooms : chkFn Pg0 f_check_rooms n_check_rooms st_check_rooms = true := by decide +kernel
theorem c_check_accepted : chkFn Pg0 f_check_accepted n_check_accepted st_check_accepted = true := by decide +kernel
theorem c_House_init : chkFn Pg0 f_House_init n_House_init st_House_init = true := by decide +kernel
theorem c_check_house : chkFn Pg0 f_check_house n_check_house st_check_house = true := by decide +kernel
theorem c_all_placings : chkFn Pg0 f_all_placings n_all_placings st_all_placings = true := by decide +kernel
theorem c_has_some : chkFn Pg0 f_has_some n_has_some st_has_some = true := by decide +kernel
theorem c_has_placing : chkFn Pg0 f_has_placing n_has_placing st_has_placing = true := by decide +kernel
theorem c_are_places : chkFn Pg0 f_are_places n_are_places st_are_places = true := by decide +kernel
theorem c_is_good : chkFn Pg0 f_is_good n_is_good st_is_good = true := by decide +kernel
theorem c_check_placing : chkFn Pg0 f_check_placing n_check_placing st_check_placing = true := by decide +kernel
theorem c_frees : chkFn Pg0 f_frees n_frees st_frees = true := by decide +kernel
theorem c_shortest_chain : chkFn Pg0 f_shortest_chain n_shortest_chain st_shortest_chain = true := by decide +kernel
theorem c_check_lain : chkFn Pg0 f_check_lain n_check_lain st_check_lain = true := by decide +kernel
theorem c_newcomer : chkFn Pg0 f_newcomer n_newcomer st_newcomer = true := by decide +kernel
theorem c_law_bag : chkFn Pg0 f_law_bag n_law_bag st_law_bag = true := by decide +kernel
theorem c_law_draw : chkFn Pg0 f_law_draw n_law_draw st_law_draw = true := by decide +kernel
theorem c_law_one : chkFn Pg0 f_law_one n_law_one st_law_one = true := by decide +kernel
theorem c_law_names : chkFn Pg0 f_law_names n_law_names st_law_names = true := by decide +kernel
theorem c_law_house : chkFn Pg0 f_law_house n_law_house st_law_house = true := by decide +kernel
theorem c_law_made : chkFn Pg0 f_law_made n_law_made st_law_made = true := by decide +kernel
theorem c_law_placings : chkFn Pg0 f_law_placings n_law_placings st_law_placings = true := by decide +kernel
theorem c_law_right : chkFn Pg0 f_law_right n_law_right st_law_right = true := by decide +kernel
theorem c_law : chkFn Pg0 f_law n_law st_law = true := by decide +kernel
theorem chk0 : ∀ (f : Nat) (fn : Fn), Pg0.fns[f]? = some fn → chkFn Pg0 fn (nms0 f) (stm0 f) = true := fun f fn h => AllIx.at0 (Q := fun f fn => chkFn Pg0 fn (nms0 f) (stm0 f) = true) (l := Pg0.fns) (.cons (c_is_name)
  (.cons (c_wrong_name)
  (.cons (c_is_ascending)
  (.cons (c_check_guests)
  (.cons (c_check_rooms)
  (.cons (c_check_accepted)
  (.cons (c_House_init)
  (.cons (c_check_house)
  (.cons (c_all_placings)
  (.cons (c_has_some)
  (.cons (c_has_placing)
  (.cons (c_are_places)
  (.cons (c_is_good)
  (.cons (c_check_placing)
  (.cons (c_frees)
  (.cons (c_shortest_chain)
  (.cons (c_check_lain)
  (.cons (c_newcomer)
  (.cons (c_law_bag)
  (.cons (c_law_draw)
  (.cons (c_law_one)
  (.cons (c_law_names)
  (.cons (c_law_house)
  (.cons (c_law_made)
  (.cons (c_law_placings)
  (.cons (c_law_right)
  (.cons (c_law)
  (.nil _)))))))))))))))))))))))))))) h
section
variable {K : PySem.W.Frag}
theorem funs0 (S : He.SaysD [] dfs K) : ∀ (f : Nat) (fn : Fn), Pg0.fns[f]? = some fn → ∃ x qual, L2.Fun K x qual (stm0 f) (faK loc0 K f) (fdOf K (faK loc0 K f)) := fun f fn h => AllIx.at0 (Q := fun f _ => ∃ x qual, L2.Fun K x qual (stm0 f) (faK loc0 K f) (fdOf K (faK loc0 K f))) (l := Pg0.fns) (.cons (fun_ofD (d := d_is_name) (st := st_is_name) rfl rfl rfl rfl rfl (S.def_ 0))
  (.cons (fun_ofD (d := d_wrong_name) (st := st_wrong_name) rfl rfl rfl rfl rfl (S.def_ 1))
  (.cons (fun_ofD (d := d_is_ascending) (st := st_is_ascending) rfl rfl rfl rfl rfl (S.def_ 2))
  (.cons (fun_ofD (d := d_check_guests) (st := st_check_guests) rfl rfl rfl rfl rfl (S.def_ 3))
  (.cons (fun_ofD (d := d_check_rooms) (st := st_check_rooms) rfl rfl rfl rfl rfl (S.def_ 4))
  (.cons (fun_ofD (d := d_check_accepted) (st := st_check_accepted) rfl rfl rfl rfl rfl (S.def_ 5))
  (.cons (fun_ofD (d := d_House_init) (st := st_House_init) rfl rfl rfl rfl rfl (S.def_ 6))
  (.cons (fun_ofD (d := d_check_house) (st := st_check_house) rfl rfl rfl rfl rfl (S.def_ 7))
  (.cons (fun_ofD (d := d_all_placings) (st := st_all_placings) rfl rfl rfl rfl rfl (S.def_ 8))
  (.cons (fun_ofD (d := d_has_some) (st := st_has_some) rfl rfl rfl rfl rfl (S.def_ 9))
  (.cons (fun_ofD (d := d_has_placing) (st := st_has_placing) rfl rfl rfl rfl rfl (S.def_ 10))
  (.cons (fun_ofD (d := d_are_places) (st := st_are_places) rfl rfl rfl rfl rfl (S.def_ 11))
  (.cons (fun_ofD (d := d_is_good) (st := st_is_good) rfl rfl rfl rfl rfl (S.def_ 12))
  (.cons (fun_ofD (d := d_check_placing) (st := st_check_placing) rfl rfl rfl rfl rfl (S.def_ 13))
  (.cons (fun_ofD (d := d_frees) (st := st_frees) rfl rfl rfl rfl rfl (S.def_ 14))
  (.cons (fun_ofD (d := d_shortest_chain) (st := st_shortest_chain) rfl rfl rfl rfl rfl (S.def_ 15))
  (.cons (fun_ofD (d := d_check_lain) (st := st_check_lain) rfl rfl rfl rfl rfl (S.def_ 16))
  (.cons (fun_ofD (d := d_newcomer) (st := st_newcomer) rfl rfl rfl rfl rfl (S.def_ 17))
  (.cons (fun_ofD (d := d_law_bag) (st := st_law_bag) rfl rfl rfl rfl rfl (S.def_ 18))
  (.cons (fun_ofD (d := d_law_draw) (st := st_law_draw) rfl rfl rfl rfl rfl (S.def_ 19))
  (.cons (fun_ofD (d := d_law_one) (st := st_law_one) rfl rfl rfl rfl rfl (S.def_ 20))
  (.cons (fun_ofD (d := d_law_names) (st := st_law_names) rfl rfl rfl rfl rfl (S.def_ 21))
  (.cons (fun_ofD (d := d_law_house) (st := st_law_house) rfl rfl rfl rfl rfl (S.def_ 22))
  (.cons (fun_ofD (d := d_law_made) (st := st_law_made) rfl rfl rfl rfl rfl (S.def_ 23))
  (.cons (fun_ofD (d := d_law_placings) (st := st_law_placings) rfl rfl rfl rfl rfl (S.def_ 24))
  (.cons (fun_ofD (d := d_law_right) (st := st_law_right) rfl rfl rfl rfl rfl (S.def_ 25))
  (.cons (fun_ofD (d := d_law) (st := st_law) rfl rfl rfl rfl rfl (S.def_ 26))
  (.nil _)))))))))))))))))))))))))))) h
theorem bn0 (S : He.SaysD [] dfs K) : ∀ (f : Nat) (fn : Fn), Pg0.fns[f]? = some fn → Binds K (fdOf K (faK loc0 K f)) fn.ps [] := fun f fn h => AllIx.at0 (Q := fun f fn => Binds K (fdOf K (faK loc0 K f)) fn.ps []) (l := Pg0.fns) (.cons (let ⟨_, _, F⟩ := funs0 S 0 f_is_name rfl; F.binds (ps := f_is_name.ps) fun _ _ _ _ _ _ us hl => match us, hl with | [_], _ => rfl)
  (.cons (let ⟨_, _, F⟩ := funs0 S 1 f_wrong_name rfl; F.binds (ps := f_wrong_name.ps) fun _ _ _ _ _ _ us hl => match us, hl with | [_, _, _], _ => rfl)
  (.cons (let ⟨_, _, F⟩ := funs0 S 2 f_is_ascending rfl; F.binds (ps := f_is_ascending.ps) fun _ _ _ _ _ _ us hl => match us, hl with | [_, _], _ => rfl)
  (.cons (let ⟨_, _, F⟩ := funs0 S 3 f_check_guests rfl; F.binds (ps := f_check_guests.ps) fun _ _ _ _ _ _ us hl => match us, hl with | [_], _ => rfl)
  (.cons (let ⟨_, _, F⟩ := funs0 S 4 f_check_rooms rfl; F.binds (ps := f_check_rooms.ps) fun _ _ _ _ _ _ us hl => match us, hl with | [_, _], _ => rfl)
  (.cons (let ⟨_, _, F⟩ := funs0 S 5 f_check_accepted rfl; F.binds (ps := f_check_accepted.ps) fun _ _ _ _ _ _ us hl => match us, hl with | [_, _, _], _ => rfl)
  (.cons (let ⟨_, _, F⟩ := funs0 S 6 f_House_init rfl; F.binds (ps := f_House_init.ps) fun _ _ _ _ _ _ us hl => match us, hl with | [_, _, _, _], _ => rfl)
  (.cons (let ⟨_, _, F⟩ := funs0 S 7 f_check_house rfl; F.binds (ps := f_check_house.ps) fun _ _ _ _ _ _ us hl => match us, hl with | [_], _ => rfl)
  (.cons (let ⟨_, _, F⟩ := funs0 S 8 f_all_placings rfl; F.binds (ps := f_all_placings.ps) fun _ _ _ _ _ _ us hl => match us, hl with | [_], _ => rfl)
  (.cons (let ⟨_, _, F⟩ := funs0 S 9 f_has_some rfl; F.binds (ps := f_has_some.ps) fun _ _ _ _ _ _ us hl => match us, hl with | [_], _ => rfl)
  (.cons (let ⟨_, _, F⟩ := funs0 S 10 f_has_placing rfl; F.binds (ps := f_has_placing.ps) fun _ _ _ _ _ _ us hl => match us, hl with | [_], _ => rfl)
  (.cons (let ⟨_, _, F⟩ := funs0 S 11 f_are_places rfl; F.binds (ps := f_are_places.ps) fun _ _ _ _ _ _ us hl => match us, hl with | [_, _, _], _ => rfl)
  (.cons (let ⟨_, _, F⟩ := funs0 S 12 f_is_good rfl; F.binds (ps := f_is_good.ps) fun _ _ _ _ _ _ us hl => match us, hl with | [_, _], _ => rfl)
  (.cons (let ⟨_, _, F⟩ := funs0 S 13 f_check_placing rfl; F.binds (ps := f_check_placing.ps) fun _ _ _ _ _ _ us hl => match us, hl with | [_, _], _ => rfl)
  (.cons (let ⟨_, _, F⟩ := funs0 S 14 f_frees rfl; F.binds (ps := f_frees.ps) fun _ _ _ _ _ _ us hl => match us, hl with | [_, _], _ => rfl)
  (.cons (let ⟨_, _, F⟩ := funs0 S 15 f_shortest_chain rfl; F.binds (ps := f_shortest_chain.ps) fun _ _ _ _ _ _ us hl => match us, hl with | [_, _, _], _ => rfl)
  (.cons (let ⟨_, _, F⟩ := funs0 S 16 f_check_lain rfl; F.binds (ps := f_check_lain.ps) fun _ _ _ _ _ _ us hl => match us, hl with | [_, _], _ => rfl)
  (.cons (let ⟨_, _, F⟩ := funs0 S 17 f_newcomer rfl; F.binds (ps := f_newcomer.ps) fun _ _ _ _ _ _ us hl => match us, hl with | [_, _, _], _ => rfl)
  (.cons (let ⟨_, _, F⟩ := funs0 S 18 f_law_bag rfl; F.binds (ps := f_law_bag.ps) fun _ _ _ _ _ _ us hl => match us, hl with | [_, _], _ => rfl)
  (.cons (let ⟨_, _, F⟩ := funs0 S 19 f_law_draw rfl; F.binds (ps := f_law_draw.ps) fun _ _ _ _ _ _ us hl => match us, hl with | [_, _], _ => rfl)
  (.cons (let ⟨_, _, F⟩ := funs0 S 20 f_law_one rfl; F.binds (ps := f_law_one.ps) fun _ _ _ _ _ _ us hl => match us, hl with | [_, _], _ => rfl)
  (.cons (let ⟨_, _, F⟩ := funs0 S 21 f_law_names rfl; F.binds (ps := f_law_names.ps) fun _ _ _ _ _ _ us hl => match us, hl with | [_, _, _], _ => rfl)
  (.cons (let ⟨_, _, F⟩ := funs0 S 22 f_law_house rfl; F.binds (ps := f_law_house.ps) fun _ _ _ _ _ _ us hl => match us, hl with | [_, _, _], _ => rfl)
  (.cons (let ⟨_, _, F⟩ := funs0 S 23 f_law_made rfl; F.binds (ps := f_law_made.ps) fun _ _ _ _ _ _ us hl => match us, hl with | [_], _ => rfl)
  (.cons (let ⟨_, _, F⟩ := funs0 S 24 f_law_placings rfl; F.binds (ps := f_law_placings.ps) fun _ _ _ _ _ _ us hl => match us, hl with | [_], _ => rfl)
  (.cons (let ⟨_, _, F⟩ := funs0 S 25 f_law_right rfl; F.binds (ps := f_law_right.ps) fun _ _ _ _ _ _ us hl => match us, hl with | [_], _ => rfl)
  (.cons (let ⟨_, _, F⟩ := funs0 S 26 f_law rfl; F.binds (ps := f_law.ps) fun _ _ _ _ _ _ us hl => match us, hl with | [_], _ => rfl)
  (.nil _)))))))))))))))))))))))))))) h
theorem kw_0 (S : He.SaysD [] dfs K) : KwB K (fdOf K (faK loc0 K 17)) f_newcomer.ps ["accepted", "placing", "house"] 0 [2, 1, 0] := by
  obtain ⟨x, qual, F⟩ := funs0 S 17 f_newcomer rfl
  obtain ⟨oc, od, kV, doc, pm, an, cdv, ctv, osl, e, lk, hcd⟩ := F.ex
  intro s fs ws us _ h1 h2 h3
  rw [e]
  match fs, ws, h1, h2, h3 with
  | [], [w0, w1, w2], _, _, h3 =>
    have e3 : us = [w2, w1, w0] := (Option.some.inj h3).symm
    subst e3
    exact .of_eq rfl
theorem kw0 (S : He.SaysD [] dfs K) : ∀ (f : Nat) (ks : List Str) (n : Nat) (perm : List Nat) (fn : Fn), (f, ks, n, perm) ∈ Pg0.kws → Pg0.fns[f]? = some fn → KwB K (fdOf K (faK loc0 K f)) fn.ps ks n perm := by
  intro f ks n perm fn h hf
  have h2 : (f, ks, n, perm) ∈ ([(17, ["accepted", "placing", "house"], 0, [2, 1, 0])] : List (Nat × List Str × Nat × List Nat)) := h
  simp only [List.mem_cons, List.not_mem_nil, or_false, Prod.mk.injEq] at h2
  rcases h2 with ⟨rfl, rfl, rfl, rfl⟩
  · cases hf; exact kw_0 S
end
theorem law_walk {q : Program} {loose : List Str} {XP : (Str → Option Value) → Heap → Prop} (run : ∀ ns : List Int, ns.length ≤ 63 → ∃ ss', runN Pg0 30 i_law [.va (.scr ns)] = some (.dt (.bl true), ss')) :
    PySem.W.WalkO q loose XP hk0.says (PySem.W.OpenLaw.row PySem.Challenge.rw_roomsingly_k23_whole_new_guests).toRowW (HandSHeadRun.topDef R0.prog 50) [] (fun f vs => PySem.call f vs) := by
  refine walk_ofG (l := PySem.Challenge.rw_roomsingly_k23_whole_new_guests) (n := 63) (L := 30) (x := "_law_script") (P := Pg0) (f := i_law) (fn := f_law) (Nm := nms0) (stm := stm0) rfl (by decide) rfl ⟨rfl, by decide, by decide +kernel⟩ rfl rfl (fun w mg fa0 h Y G hmg => ?_) run
  obtain ⟨K, KX, S, E⟩ := Y
  have ok := pgOk_of (Nm := nms0) (stm := stm0) KX G E (funs0 S) chk0 (bn0 S) (kw0 S)
  refine ⟨K, ctK Pg0 K, faK loc0 K, fun f => fdOf K (faK loc0 K f), KX, ?_, fun s u => ?_, ok⟩
  · have g := (ok.glo i_law f_law rfl rfl).1
    have hmg2 : mg "law" = some (.ref fa0) := hmg
    have g2 : mg "law" = some (.ref (faK loc0 K i_law)) := g
    rw [hmg2] at g2
    cases g2
    rfl
  · obtain ⟨x, qual, F⟩ := funs0 S i_law f_law rfl
    obtain ⟨oc, od, kV, doc, pm, an, cdv, ctv, osl, e, lk, hcd⟩ := F.ex
    have e2 : fdOf K (faK loc0 K i_law) = _ := e
    show BindsTo s (fdOf K (faK loc0 K i_law)) _ _
    rw [e2]
    exact .of_eq rfl
end VI
open PySem PySem.W PySem.Calls PyProof.Rows
set_option maxRecDepth 100000 in
set_option maxHeartbeats 0 in
theorem PySem.Challenge.cw_roomsingly_k23_whole_new_guests_holds : PySem.Challenge.rw_roomsingly_k23_whole_new_guests.Holds := by
  w_on; o_law
  refine HandSHeadRun.head_any (r := OpenLaw.row PySem.Challenge.rw_roomsingly_k23_whole_new_guests) (q := PySem.W.view VI.R0.prog [50]) (H := VI.hk0) (ob := VI.obE 5 VI.dfs VI.ex0) (M := 8000) (loose := VI.loose0) (d := HandSHeadRun.topDef VI.R0.prog 50) (kwd := []) VI.obE_eq (by kernel_rfl) (fun s => by kernel_rfl) VI.head_run (by rfl) (by rfl) (by rfl) (by rfl) (by first | assumption | decide +kernel) (by decide +kernel) ⟨rfl, rfl, rfl, rfl, rfl, by decide +kernel⟩ ?hw ?hc
  case hw => w_witness2
  case hc => exact VI.law_walk VI.law_true
