import PyProof.Rows.All
import Wide.All
import OpenK.AllK
import Wide.FinOn
import HandS.ForMost
import HandS.ForExc
import HandS.TupAny
import HandS.Iter
import HandS.Comp
import HandS.Text
import HandS.SortInts
import HandS.IsInst
import HandS.Style
import HandS.ExcIs
import HandS.HotCalls
import HandS.WordsExc
import HandS.Wide
import PyProof.StrOps2
import PyProof.CollectStr
import HandS.Set
import HandS.Strs
import HandS.ExcValue
import PyProof.CollectIter
import PyProof.EnumMake
import PyProof.JoinWalk
import HandS.MapObj
import HandS.More
import PyProof.StrLawsChain
import PyProof.StrLawsTight
import PyProof.Rows.StrItems
import PyProof.StrLawsFirst
import PyProof.ExcBaseAll.ValueError
import PySem.Challenge.RW_trunksay_k61_next_filling
set_option Elab.async false
set_option linter.all false
set_option maxRecDepth 100000
set_option maxHeartbeats 4000000
/-! The core language: data, cells, expressions, statements, and their evaluator, in plain Lean. -/
namespace Pv
open PySem

abbrev Tx := List Nat

/-- data that never changes -/
inductive D where
  | non | bl (b : Bool) | int (i : Int) | str (x : Tx) | tup (xs : List D) | lst (xs : List D)

mutual
def D.eqb : D → D → Bool
  | .non, .non => true
  | .bl a, .bl b => a == b
  | .int a, .int b => a == b
  | .str a, .str b => a == b
  | .tup a, .tup b => D.eqbs a b
  | .lst a, .lst b => D.eqbs a b
  | _, _ => false
def D.eqbs : List D → List D → Bool
  | [], [] => true
  | a :: as, b :: bs => D.eqb a b && D.eqbs as bs
  | _, _ => false
end
mutual
theorem D.eqb_iff : ∀ a b : D, D.eqb a b = true ↔ a = b
  | .non, b => by cases b <;> simp [D.eqb]
  | .bl a, b => by cases b <;> simp [D.eqb]
  | .int a, b => by cases b <;> simp [D.eqb]
  | .str a, b => by cases b <;> simp [D.eqb]
  | .tup a, b => by cases b <;> simp [D.eqb, D.eqbs_iff a]
  | .lst a, b => by cases b <;> simp [D.eqb, D.eqbs_iff a]
theorem D.eqbs_iff : ∀ a b : List D, D.eqbs a b = true ↔ a = b
  | [], b => by cases b <;> simp [D.eqbs]
  | a :: as, b => by cases b <;> simp [D.eqbs, D.eqb_iff a, D.eqbs_iff as]
end
instance : DecidableEq D := fun a b => decidable_of_iff _ (D.eqb_iff a b)

/-- a mutable object: a list, live or shut for ever -/
inductive Cell where
  | lst (xs : List D) | flst (xs : List D)
  deriving DecidableEq
abbrev Store := List Cell
/-- what an expression gives: data; a cell; a list just made that no name has yet -/
inductive Val where
  | d (x : D) | ref (i : Nat) | new (xs : List D)
abbrev Env := List (Option Val)

inductive R (α : Type) where
  | ok (a : α) (s : Store) | exc (c : String) (s : Store) | err
@[inline] def R.bind {α β : Type} (r : R α) (f : α → Store → R β) : R β := match r with
  | .ok a s => f a s
  | .exc c s => .exc c s
  | .err => .err
/-- a statement's end -/
inductive SR where
  | nx (env : Env) (s : Store) | rt (v : Val) (s : Store) | ct (env : Env) (s : Store) | exc (c : String) (env : Env) (s : Store) | err

inductive Bop where
  | add | sub | mul | fdiv | mod | pow | shl | shr | band | bor | bxor
  deriving DecidableEq
inductive Cop where
  | eq | ne | lt | le | gt | ge | is | isnot | isin | notin
  deriving DecidableEq
inductive Ty where
  | tup | bool | int | str
  deriving DecidableEq
inductive Blt where
  | len | tuple | list | sorted | max | min | sum | abs | int | ord | str | any | all | sset
  deriving DecidableEq
inductive Mt where
  | append | pop | join | replace | split | count | find | insert | extend | index
  deriving DecidableEq

mutual
inductive Tg where
  | name (i : Nat) | tup (ts : Tgs)
inductive Tgs where
  | nil | cons (t : Tg) (ts : Tgs)
end
mutual
inductive E where
  | var (i : Nat) | int (i : Int) | str (x : Tx) | bl (b : Bool) | non | glob (g : String)
  | bin (o : Bop) (a b : E) | neg (a : E) | inv (a : E) | not (a : E)
  | cmp (o : Cop) (a b : E) | chain (o1 o2 : Cop) (a b c : E)
  | and (es : Es) | or (es : Es) | ite (t a b : E)
  | tup (es : Es) | list (es : Es) | ix (a i : E) | slice (a lo hi : E) | slice0 (a hi : E) | slice1 (a lo : E) | rev (a : E)
  | call (f : String) (es : Es) | blt (f : Blt) (es : Es) | meth (m : Mt) (a : E) (es : Es)
  | lc (elt : E) (tg : Tg) (it : It) (ifs : Es) | frz (a : E) | isi (t : Ty) (a : E)
inductive Es where
  | nil | cons (e : E) (es : Es)
inductive It where
  | val (e : E) | range (es : Es) | enum (e : E) | zip (a b : E)
end
mutual
/-- what a handler says of its exception -/
inductive HE where
  | str (x : Tx) | non | bl (b : Bool) | var (j : Nat) | isi (c : String) | isis (cs : List String) | kinds (f : String) | tup (es : HEs) | not (e : HE) | and (es : HEs)
inductive HEs where
  | nil | cons (e : HE) (es : HEs)
end
inductive HS where
  | set (j : Nat) (e : HE) | ret (e : HE)
def HEs.of : List HE → HEs
  | [] => .nil
  | s :: r => .cons s (HEs.of r)
mutual
inductive S where
  | set (i : Nat) (e : E) | par (i j : Nat) (a b : E) | asg (tg : Tg) (e : E) | setix (a i v : E) | augix (a i e : E) | ex (e : E) | ret (e : E) | retN
  | ife (t : E) (a b : Ss) | forr (tg : Tg) (it : It) (b : Ss) | whil (t : E) (b : Ss)
  | rais (c : String) | trye (b : Ss) (c : String) (i : Nat) (h : List HS) | pass | cont
inductive Ss where
  | nil | cons (s : S) (ss : Ss)
end
def Ss.of : List S → Ss
  | [] => .nil
  | s :: r => .cons s (Ss.of r)
def Es.of : List E → Es
  | [] => .nil
  | s :: r => .cons s (Es.of r)
def Tgs.of : List Tg → Tgs
  | [] => .nil
  | s :: r => .cons s (Tgs.of r)

/-! ### values -/
def Cell.items : Cell → List D
  | .lst xs => xs
  | .flst xs => xs
/-- a list's items -/
def lstOf (v : Val) (s : Store) : Option (List D) := match v with
  | .d (.lst xs) => some xs
  | .new xs => some xs
  | .ref i => (s[i]?).map Cell.items
  | _ => none
def seqOf (v : Val) (s : Store) : Option (List D) := match v with
  | .d (.tup xs) => some xs
  | v => lstOf v s
/-- a value as data, as it stands -/
def peek (v : Val) (s : Store) : Option D := match v with
  | .d d => some d
  | .new xs => some (.lst xs)
  | .ref i => (s[i]?).map fun c => D.lst c.items
/-- a value as data for ever: its cell is shut -/
def toD (v : Val) (s : Store) : Option (D × Store) := match v with
  | .d d => some (d, s)
  | .new xs => some (.lst xs, s)
  | .ref i => match s[i]? with
    | some (.lst xs) => some (.lst xs, s.set i (.flst xs))
    | some (.flst xs) => some (.lst xs, s)
    | none => none
def toDs : List Val → Store → Option (List D × Store)
  | [], s => some ([], s)
  | v :: vs, s => match toD v s with
    | none => none
    | some (d, s1) => match toDs vs s1 with
      | none => none
      | some (ds, s2) => some (d :: ds, s2)
/-- what a call hands on -/
def argV : Val → Val
  | .new xs => .d (.lst xs)
  | v => v

mutual
def toPy : D → PyData
  | .non => .none
  | .bl b => .bool b
  | .int i => .int i
  | .str x => .str ⟨x.toArray⟩
  | .tup xs => .tuple (toPys xs)
  | .lst xs => .list (toPys xs)
def toPys : List D → List PyData
  | [] => []
  | d :: ds => toPy d :: toPys ds
end
/-- Python's == -/
def peq (a b : D) : Bool := PyData.eqv (toPy a) (toPy b)
def eqOk (a : D) : Bool := SeqAt.shaped (toPy a)

def okMul (i j : Int) : Bool := (decide (-18446744073709551616 < i) && decide (i < 18446744073709551616)) || (decide (-18446744073709551616 < j) && decide (j < 18446744073709551616)) || decide (i.natAbs.log2 + j.natAbs.log2 < 1000000)
def okPow (i j : Int) : Bool := decide (0 ≤ j) && decide (j ≤ 1000000) && decide (-18446744073709551616 < i) && decide (i < 18446744073709551616)
def okShl (i j : Int) : Bool := decide (0 ≤ j) && decide (j ≤ 1000000) && decide (i.natAbs.log2 < 1000000)
def okDiv (j : Int) : Bool := decide (0 < j) && decide (j.natAbs.log2 < 9000)
def binI (o : Bop) (i j : Int) : Option Int := match o with
  | .add => some (i + j)
  | .sub => some (i - j)
  | .mul => if okMul i j then some (i * j) else none
  | .fdiv => if okDiv j = true then some (i / j) else none
  | .mod => if 0 < j then some (i % j) else none
  | .pow => if okPow i j then some (i ^ j.toNat) else none
  | .shl => if okShl i j then some (i * 2 ^ j.toNat) else none
  | .shr => if 0 ≤ j then some (i / 2 ^ j.toNat) else none
  | .band => some (Builtin.bitAnd i j)
  | .bor => some (Builtin.bitOr i j)
  | .bxor => some (Builtin.bitXor i j)
def line : Nat := 16777216
/-- an operator by the values -/
def binV (o : Bop) (x y : Val) (s : Store) : R Val := match x, y with
  | .d (.int i), .d (.int j) => match binI o i j with
    | some k => .ok (.d (.int k)) s
    | none => .err
  | .d (.str a), .d (.str b) => match o with
    | .add => if a.length + b.length ≤ line then .ok (.d (.str (a ++ b))) s else .err
    | _ => .err
  | .d (.tup a), .d (.tup b) => match o with
    | .add => if a.length + b.length ≤ line then .ok (.d (.tup (a ++ b))) s else .err
    | _ => .err
  | x, y => match o with
    | .add => match lstOf x s, lstOf y s with
      | some a, some b => if a.length + b.length ≤ line then .ok (.new (a ++ b)) s else .err
      | _, _ => .err
    | .mul => match x, y with
      | .new a, .d (.int k) => if a.length * k.toNat ≤ line ∧ k < 9223372036854775808 ∧ -9223372036854775808 ≤ k then .ok (.new (List.replicate k.toNat a).flatten) s else .err
      | .d (.str a), .d (.int k) => if a.length * k.toNat ≤ line ∧ k < 9223372036854775808 ∧ -9223372036854775808 ≤ k then .ok (.d (.str (List.replicate k.toNat a).flatten)) s else .err
      | _, _ => .err
    | _ => .err
def flatD : D → Bool
  | .non => true | .bl _ => true | .int _ => true | .str _ => true | _ => false
def eqF : D → D → Bool
  | .non, .non => true
  | .bl a, .bl b => a == b
  | .bl a, .int b => (if a then 1 else 0) == b
  | .int a, .bl b => a == (if b then 1 else 0)
  | .int a, .int b => a == b
  | .str a, .str b => a == b
  | _, _ => false
/-- scalars that == tells apart -/
def scalD : D → D → Bool
  | .non, .non => true | .non, .int _ => true | .int _, .non => true | .non, .bl _ => true | .bl _, .non => true | .non, .str _ => true | .str _, .non => true
  | .int _, .int _ => true | .bl _, .bl _ => true | .str _, .str _ => true
  | .int _, .str _ => true | .str _, .int _ => true | .bl _, .str _ => true | .str _, .bl _ => true
  | _, _ => false
def inD (x : D) (xs : List D) : Bool := xs.any fun y => eqF y x
/-- is x in y -/
def memV (x y : Val) (s : Store) : Option Bool := match x, y with
  | .d (.str [c]), .d (.str z) => some (decide (c ∈ z))
  | .d x, y => match seqOf y s with
    | some xs => if flatD x && xs.all flatD then some (inD x xs) else none
    | none => none
  | _, _ => none
def cmpV (o : Cop) (x y : Val) (s : Store) : Option Bool := match o with
  | .eq => match peek x s, peek y s with
    | some a, some b => if scalD a b then some (decide (a = b)) else if eqOk a && eqOk b then some (peq a b) else none
    | _, _ => none
  | .ne => match peek x s, peek y s with
    | some a, some b => if scalD a b then some (!decide (a = b)) else if eqOk a && eqOk b then some (!peq a b) else none
    | _, _ => none
  | .lt => match x, y with
    | .d (.int i), .d (.int j) => some (decide (i < j))
    | .d (.str i), .d (.str j) => some (decide (i < j))
    | _, _ => none
  | .le => match x, y with
    | .d (.int i), .d (.int j) => some (decide (i ≤ j))
    | _, _ => none
  | .gt => match x, y with
    | .d (.int i), .d (.int j) => some (decide (j < i))
    | _, _ => none
  | .ge => match x, y with
    | .d (.int i), .d (.int j) => some (decide (j ≤ i))
    | _, _ => none
  | .is => match x, y with
    | .d .non, .d .non => some true
    | _, .d .non => some false
    | _, _ => none
  | .isnot => match x, y with
    | .d .non, .d .non => some false
    | _, .d .non => some true
    | _, _ => none
  | .isin => memV x y s
  | .notin => (memV x y s).map fun b => !b
def truV (v : Val) (s : Store) : Option Bool := match v with
  | .d (.bl b) => some b
  | .d (.int i) => some (i != 0)
  | _ => none
def ixV (x y : Val) (s : Store) : R Val := match y with
  | .d (.int i) => match x with
    | .d (.str z) => if z.length ≤ line then match L2.atI z i with
        | some c => .ok (.d (.str [c])) s
        | none => .err
      else .err
    | x => match seqOf x s with
      | some xs => match L2.atI xs i with
        | some d => .ok (.d d) s
        | none => .err
      | none => .err
  | _ => .err
def cutL {α : Type} (xs : List α) (lo hi : Option Int) : List α := (xs.drop (HT.sIx xs.length 0 lo)).take (HT.sIx xs.length xs.length hi - HT.sIx xs.length 0 lo)
def sliceV (x : Val) (lo hi : Option Int) (s : Store) : R Val := match x with
  | .d (.str z) => if z.length ≤ line then .ok (.d (.str (cutL z lo hi))) s else .err
  | .d (.tup z) => .ok (.d (.tup (cutL z lo hi))) s
  | x => match lstOf x s with
    | some z => .ok (.new (cutL z lo hi)) s
    | none => .err
def revV (x : Val) (s : Store) : R Val := match x with
  | .d (.str z) => if z.length ≤ line then .ok (.d (.str z.reverse)) s else .err
  | .d (.tup _) => .err
  | x => match lstOf x s with
    | some z => .ok (.new z.reverse) s
    | none => .err
def txOf : D → Option Tx
  | .str x => some x
  | _ => none
def intOf : D → Option Int
  | .int x => some x
  | _ => none
def blOf : D → Option Bool
  | .bl x => some x
  | _ => none
def allM {α : Type} (f : D → Option α) : List D → Option (List α)
  | [] => some []
  | d :: ds => match f d with
    | none => none
    | some a => match allM f ds with
      | none => none
      | some as => some (a :: as)
/-- put into a rising list -/
def insG {α : Type} (lt : α → α → Bool) (x : α) : List α → List α
  | [] => [x]
  | y :: ys => if lt y x = true then y :: insG lt x ys else x :: y :: ys
def sortG {α : Type} (lt : α → α → Bool) : List α → List α
  | [] => []
  | x :: xs => insG lt x (sortG lt xs)
def ltT (x y : Tx) : Bool := decide (x < y)
def ltI (x y : Int) : Bool := decide (x < y)
abbrev sortT : List Tx → List Tx := sortG ltT
abbrev sortI : List Int → List Int := sortG ltI
def joinT (sep : Tx) : List Tx → Tx
  | [] => []
  | [x] => x
  | x :: y :: r => x ++ sep ++ joinT sep (y :: r)
def tyIs (t : Ty) : Val → Bool
  | .d (.tup _) => match t with | .tup => true | _ => false
  | .d (.bl _) => match t with | .bool => true | .int => true | _ => false
  | .d (.int _) => match t with | .int => true | _ => false
  | .d (.str _) => match t with | .str => true | _ => false
  | _ => false
def isiV (t : Ty) (v : Val) : Option Bool := match v with
  | .d d => some (tyIs t (.d d))
  | _ => none
def bltV (f : Blt) (vs : List Val) (s : Store) : R Val := match f, vs with
  | .len, [.d (.str z)] => if z.length ≤ line then .ok (.d (.int z.length)) s else .err
  | .len, [v] => match seqOf v s with
    | some xs => .ok (.d (.int xs.length)) s
    | none => .err
  | .tuple, [.d (.tup xs)] => .ok (.d (.tup xs)) s
  | .tuple, [v] => match lstOf v s with
    | some xs => .ok (.d (.tup xs)) s
    | none => .err
  | .list, [v] => match seqOf v s with
    | some xs => .ok (.new xs) s
    | none => .err
  | .sorted, [.d (.str z)] => if z.length < 64 then .ok (.new ((sortT (z.map fun c => [c])).map D.str)) s else .err
  | .sorted, [v] => match lstOf v s with
    | some xs => if xs.length < 64 then match allM txOf xs with
        | some ts => .ok (.new ((sortT ts).map D.str)) s
        | none => match allM intOf xs with
          | some ns => .ok (.new ((sortI ns).map D.int)) s
          | none => .err
      else .err
    | none => .err
  | .max, [.d (.int i), .d (.int j)] => .ok (.d (.int (if j > i then j else i))) s
  | .min, [.d (.int i), .d (.int j)] => .ok (.d (.int (if j < i then j else i))) s
  | .abs, [.d (.int i)] => .ok (.d (.int (if i < 0 then -i else i))) s
  | .sum, [v] => match lstOf v s with
    | some xs => match allM intOf xs with
      | some ns => .ok (.d (.int ns.sum)) s
      | none => .err
    | none => .err
  | .int, [.d (.int i)] => .ok (.d (.int i)) s
  | .int, [.d (.bl b)] => .ok (.d (.int (if b then 1 else 0))) s
  | .int, [.d (.str [c])] => if 48 ≤ c ∧ c < 58 then .ok (.d (.int ((c : Int) - 48))) s else .err
  | .str, [.d (.int i)] => if 0 ≤ i ∧ i < 10 then .ok (.d (.str [48 + i.toNat])) s else .err
  | .ord, [.d (.str [c])] => .ok (.d (.int c)) s
  | .any, [v] => match lstOf v s with
    | some xs => match allM blOf xs with
      | some bs => .ok (.d (.bl (bs.any id))) s
      | none => .err
    | none => .err
  | .all, [v] => match lstOf v s with
    | some xs => match allM blOf xs with
      | some bs => .ok (.d (.bl (bs.all id))) s
      | none => .err
    | none => .err
  | _, _ => .err
/-- the pieces between the signs c -/
def splitC (c : Nat) : Tx → List Tx
  | [] => [[]]
  | x :: xs => if x = c then [] :: splitC c xs else match splitC c xs with
    | [] => [[x]]
    | p :: ps => (x :: p) :: ps
/-- where the sign c is first, or -1 -/
def findC (c : Nat) (z : Tx) : Int := if c ∈ z then (z.idxOf c : Int) else -1
def methV (m : Mt) (x : Val) (vs : List Val) (s : Store) : R Val := match m, x, vs with
  | .append, .ref i, [v] => match toD v s with
    | none => .err
    | some (d, s1) => match s1[i]? with
      | some (.lst xs) => if xs.length < line then .ok (.d .non) (s1.set i (.lst (xs ++ [d]))) else .err
      | _ => .err
  | .pop, .ref i, [] => match s[i]? with
    | some (.lst xs) => match xs.getLast? with
      | some d => .ok (.d d) (s.set i (.lst xs.dropLast))
      | none => .err
    | _ => .err
  | .pop, .ref i, [.d (.int k)] => match s[i]? with
    | some (.lst xs) => if xs.length ≤ line then match L2.ixN xs.length k with
      | some j => match xs[j]? with
        | some d => .ok (.d d) (s.set i (.lst (xs.eraseIdx j)))
        | none => .err
      | none => .err
      else .err
    | _ => .err
  | .join, .d (.str sep), [.d (.str z)] => if z.length + z.length * sep.length ≤ line then .ok (.d (.str (joinT sep (z.map fun c => [c])))) s else .err
  | .join, .d (.str sep), [v] => match seqOf v s with
    | some xs => match allM txOf xs with
      | some ts => if (ts.map List.length).sum + ts.length * sep.length ≤ line then .ok (.d (.str (joinT sep ts))) s else .err
      | none => .err
    | none => .err
  | .split, .d (.str z), [.d (.str [c])] => if z.length + 2 ≤ line then .ok (.new ((splitC c z).map D.str)) s else .err
  | .find, .d (.str z), [.d (.str [c])] => .ok (.d (.int (findC c z))) s
  | .count, .d (.str z), [.d (.str [c])] => .ok (.d (.int ((splitC c z).length - 1 : Nat))) s
  | .insert, .ref i, [.d (.int k), v] => match toD v s with
    | none => .err
    | some (d, s1) => match s1[i]? with
      | some (.lst xs) => if xs.length < line ∧ 0 ≤ k ∧ k < 9223372036854775808 then .ok (.d .non) (s1.set i (.lst (xs.take k.toNat ++ [d] ++ xs.drop k.toNat))) else .err
      | _ => .err
  | _, _, _ => .err

def isLm : Mt → Bool
  | .append | .pop | .insert | .extend | .index => true
  | _ => false
def isSup : Mt → Bool
  | .append | .pop | .join | .split | .find | .count | .insert => true
  | _ => false
/-- the receiver is of the kind -/
def recvOk (m : Mt) (x : Val) (s : Store) : Bool := isSup m && match x with
  | .ref i => isLm m && (s[i]?).isSome
  | .d (.str _) => !isLm m
  | _ => false
/-- o[k] = x -/
def setV (x o k : Val) (s : Store) : R Val := match o, k with
  | .ref r, .d (.int n) => match toD x s with
    | none => .err
    | some (d, s4) => match s4[r]? with
      | some (.lst xs) => match L2.ixN xs.length n with
        | some j => .ok (.d .non) (s4.set r (.lst (xs.set j d)))
        | none => .err
      | _ => .err
  | _, _ => .err

/-! ### targets -/
mutual
def bindT : Tg → D → Env → Option Env
  | .name i, d, env => some (env.set i (some (.d d)))
  | .tup ts, d, env => match d with
    | .tup xs => bindTs ts xs env
    | _ => none
def bindTs : Tgs → List D → Env → Option Env
  | .nil, [], env => some env
  | .cons t ts, d :: ds, env => match bindT t d env with
    | some e1 => bindTs ts ds e1
    | none => none
  | _, _, _ => none
end
mutual
def slotsT : Tg → List Nat
  | .name i => [i]
  | .tup ts => slotsTs ts
def slotsTs : Tgs → List Nat
  | .nil => []
  | .cons t ts => slotsT t ++ slotsTs ts
end
def wipeE (env : Env) : List Nat → Env
  | [] => env
  | v :: vs => (wipeE env vs).set v none

/-- what is walked: its items; a cell that must stand as it is meanwhile -/
structure Walk where
  items : List D
  guard : Option (Nat × List D)
def Walk.ok (w : Walk) (s : Store) : Bool := match w.guard with
  | none => true
  | some (i, xs) => match s[i]? with
    | some c => decide (c.items = xs)
    | none => false
def rangeL (lo : Int) (n : Nat) : List D := (List.range n).map fun (k : Nat) => D.int (lo + (k : Int))
def rangeD (lo c : Int) (n : Nat) : List D := (List.range n).map fun (k : Nat) => D.int (lo + (k : Int) * c)
def okR (i : Int) : Bool := decide (-4611686018427387904 ≤ i) && decide (i < 4611686018427387904)
def walkV (v : Val) (s : Store) : R Walk := match v with
  | .d (.str z) => .ok ⟨z.map fun c => D.str [c], none⟩ s
  | .d (.tup xs) => .ok ⟨xs, none⟩ s
  | .d (.lst xs) => .ok ⟨xs, none⟩ s
  | .new xs => .ok ⟨xs, none⟩ s
  | .ref i => match s[i]? with
    | some c => .ok ⟨c.items, some (i, c.items)⟩ s
    | none => .err
  | _ => .err
/-- the pairs of enumerate -/
def enumL : Nat → List D → List D
  | _, [] => []
  | n, d :: ds => .tup [.int (n : Int), d] :: enumL (n + 1) ds
def enumV (v : Val) (s : Store) : R Walk := match v with
  | .d (.lst xs) => .ok ⟨enumL 0 xs, none⟩ s
  | .new xs => .ok ⟨enumL 0 xs, none⟩ s
  | .ref i => match s[i]? with
    | some c => .ok ⟨enumL 0 c.items, some (i, c.items)⟩ s
    | none => .err
  | _ => .err
def rangeV (vs : List Val) (s : Store) : R Walk := match vs with
  | [.d (.int j)] => if okR j then .ok ⟨rangeL 0 j.toNat, none⟩ s else .err
  | [.d (.int i), .d (.int j)] => if okR i && okR j then .ok ⟨rangeL i (j - i).toNat, none⟩ s else .err
  | [.d (.int i), .d (.int j), .d (.int c)] => if okR i && okR j && decide (c = -1) then .ok ⟨rangeD i (-1) (i - j).toNat, none⟩ s
      else if okR i && okR j && decide (c = 50) then .ok ⟨rangeD i 50 ((j - i + 49) / 50).toNat, none⟩ s else .err
  | _ => .err
/-- cells from n on are forgotten -/
def kill (n : Nat) : Option Val → Option Val
  | some (.ref i) => if i < n then some (.ref i) else none
  | o => o

/-! ### loops -/
def forL (w : Walk) (n : Nat) (tg : Tg) (body : Env → Store → SR) : List D → Env → Store → SR
  | [], env, s => if w.ok s then .nx env s else .err
  | d :: ds, env, s => if w.ok s then match bindT tg d env with
      | some e1 => match body e1 s with
        | .nx e2 s2 => forL w n tg body ds (e2.map (kill n)) (s2.take n)
        | .ct e2 s2 => forL w n tg body ds (e2.map (kill n)) (s2.take n)
        | r => r
      | none => .err
    else .err
def whileL (n : Nat) (test : Env → Store → R Bool) (body : Env → Store → SR) : Nat → Env → Store → SR
  | 0, _, _ => .err
  | k + 1, env, s => match test env s with
    | .ok true s1 => match body env s1 with
      | .nx e2 s2 => whileL n test body k (e2.map (kill n)) (s2.take n)
      | .ct e2 s2 => whileL n test body k (e2.map (kill n)) (s2.take n)
      | r => r
    | .ok false s1 => .nx env s1
    | .exc c s1 => .exc c env s1
    | .err => .err
def lcL (w : Walk) (tg : Tg) (test : Env → Store → R Bool) (elt : Env → Store → R Val) (env : Env) : List D → List D → Store → R (List D)
  | [], acc, s => if w.ok s then .ok acc s else .err
  | d :: ds, acc, s => if w.ok s && decide (acc.length < line) then match bindT tg d env with
      | some e1 => match test e1 s with
        | .ok true s1 => match elt e1 s1 with
          | .ok v s2 => match toD v s2 with
            | some (y, s3) => lcL w tg test elt env ds (acc ++ [y]) s3
            | none => .err
          | _ => .err
        | .ok false s1 => lcL w tg test elt env ds acc s1
        | _ => .err
      | none => .err
    else .err

/-! ### the evaluator -/
structure Cxt where
  call : String → List Val → Store → R Val
  glob : String → Option D
  fuel : Nat
  isx : String → Bool
  has : String → Bool
  sub : String → String → Option Bool
  hnd : String → String → Option Bool
  knd : String → Option (List String)
/-- of which of the classes is the exception's class c -/
def subs (cx : Cxt) (c : String) : List String → Option (List D)
  | [] => some []
  | t :: ts => match cx.sub c t with
    | none => none
    | some b => match subs cx c ts with
      | none => none
      | some bs => some (.bl b :: bs)
def trD : D → Bool
  | .bl b => b
  | _ => false
mutual
def evH (cx : Cxt) (c : String) (env : Env) : HE → Option D
  | .non => some .non
  | .bl b => some (.bl b)
  | .var j => match env[j]? with
    | some (some (.d d)) => some d
    | _ => none
  | .str x => some (.str x)
  | .isi t => match cx.sub c t with
    | some b => some (.bl b)
    | none => none
  | .isis ts => match subs cx c ts with
    | some bs => if bs.length ≤ line then some (.bl (bs.any trD)) else none
    | none => none
  | .kinds f => match cx.knd f with
    | none => none
    | some ts => match subs cx c ts with
      | some bs => if bs.length ≤ line then some (.tup bs) else none
      | none => none
  | .tup es => match evHs cx c env es with
    | some ds => if ds.length ≤ line then some (.tup ds) else none
    | none => none
  | .not e => match evH cx c env e with
    | some (.bl b) => some (.bl (!b))
    | _ => none
  | .and es => match evHs cx c env es with
    | some ds => match allM blOf ds with
      | some bs => some (.bl (bs.all id))
      | none => none
    | none => none
def evHs (cx : Cxt) (c : String) (env : Env) : HEs → Option (List D)
  | .nil => some []
  | .cons e es => match evH cx c env e with
    | none => none
    | some d => match evHs cx c env es with
      | none => none
      | some ds => some (d :: ds)
end
/-- a handler's suite -/
def evHS (cx : Cxt) (c : String) : List HS → Env → Store → SR
  | [], env, s => .nx env s
  | .set j e :: r, env, s => match evH cx c env e with
    | some d => evHS cx c r (env.set j (some (.d d))) s
    | none => .err
  | .ret e :: _, env, s => match evH cx c env e with
    | some d => .rt (.d d) s
    | none => .err
mutual
def evE (cx : Cxt) : E → Env → Store → R Val
  | .var i, env, s => match env[i]? with
    | some (some v) => .ok v s
    | _ => .err
  | .int i, _, s => .ok (.d (.int i)) s
  | .str x, _, s => .ok (.d (.str x)) s
  | .bl b, _, s => .ok (.d (.bl b)) s
  | .non, _, s => .ok (.d .non) s
  | .glob g, _, s => match cx.glob g with
    | some d => .ok (.d d) s
    | none => .err
  | .bin o a b, env, s => (evE cx a env s).bind fun x s1 => (evE cx b env s1).bind fun y s2 => binV o x y s2
  | .neg a, env, s => (evE cx a env s).bind fun x s1 => match x with
    | .d (.int i) => .ok (.d (.int (-i))) s1
    | _ => .err
  | .inv a, env, s => (evE cx a env s).bind fun x s1 => match x with
    | .d (.int i) => .ok (.d (.int (Builtin.bitNot i))) s1
    | _ => .err
  | .not a, env, s => (evE cx a env s).bind fun x s1 => match x with
    | .d (.bl b) => .ok (.d (.bl (!b))) s1
    | _ => .err
  | .cmp o a b, env, s => (evE cx a env s).bind fun x s1 => (evE cx b env s1).bind fun y s2 => match cmpV o x y s2 with
    | some k => .ok (.d (.bl k)) s2
    | none => .err
  | .chain o1 o2 a b c, env, s => (evE cx a env s).bind fun x s1 => (evE cx b env s1).bind fun y s2 => match cmpV o1 x y s2 with
    | some true => (evE cx c env s2).bind fun z s3 => match cmpV o2 y z s3 with
      | some k => .ok (.d (.bl k)) s3
      | none => .err
    | some false => .ok (.d (.bl false)) s2
    | none => .err
  | .and es, env, s => evAnd cx es env s
  | .or es, env, s => evOr cx es env s
  | .ite t a b, env, s => (evT cx t env s).bind fun k s1 => if k then evE cx a env s1 else evE cx b env s1
  | .tup es, env, s => (evEs cx es env s).bind fun vs s1 => match toDs vs s1 with
    | some (ds, s2) => if ds.length ≤ line then .ok (.d (.tup ds)) s2 else .err
    | none => .err
  | .list es, env, s => (evEs cx es env s).bind fun vs s1 => match toDs vs s1 with
    | some (ds, s2) => if ds.length ≤ line then .ok (.new ds) s2 else .err
    | none => .err
  | .ix a i, env, s => (evE cx a env s).bind fun x s1 => (evE cx i env s1).bind fun y s2 => ixV x y s2
  | .slice a lo hi, env, s => (evE cx a env s).bind fun x s1 => (evE cx lo env s1).bind fun l s2 => match l with
    | .d (.int i) => (evE cx hi env s2).bind fun h s3 => match h with
      | .d (.int j) => sliceV x (some i) (some j) s3
      | _ => .err
    | _ => .err
  | .slice0 a hi, env, s => (evE cx a env s).bind fun x s1 => (evE cx hi env s1).bind fun h s2 => match h with
    | .d (.int j) => sliceV x none (some j) s2
    | _ => .err
  | .slice1 a lo, env, s => (evE cx a env s).bind fun x s1 => (evE cx lo env s1).bind fun l s2 => match l with
    | .d (.int i) => sliceV x (some i) none s2
    | _ => .err
  | .rev a, env, s => (evE cx a env s).bind fun x s1 => revV x s1
  | .call f es, env, s => if cx.has f then (evEs cx es env s).bind fun vs s1 => cx.call f (vs.map argV) s1 else .err
  | .blt f es, env, s => (evEs cx es env s).bind fun vs s1 => bltV f vs s1
  | .meth m a es, env, s => (evE cx a env s).bind fun x s1 => if recvOk m x s1 then (evEs cx es env s1).bind fun vs s2 => methV m x vs s2 else .err
  | .lc elt tg it ifs, env, s => (evI cx it env s).bind fun w s1 =>
      (lcL w tg (fun e s => evC cx ifs e s) (fun e s => evE cx elt e s) (wipeE env (slotsT tg)) w.items [] s1).bind fun ds s2 => .ok (.new ds) s2
  | .frz a, env, s => (evE cx a env s).bind fun v s1 => match toD v s1 with
    | some (d, s2) => .ok (.d d) s2
    | none => .err
  | .isi t a, env, s => (evE cx a env s).bind fun v s1 => match isiV t v with
    | some b => .ok (.d (.bl b)) s1
    | none => .err
def evEs (cx : Cxt) : Es → Env → Store → R (List Val)
  | .nil, _, s => .ok [] s
  | .cons e es, env, s => (evE cx e env s).bind fun v s1 => (evEs cx es env s1).bind fun vs s2 => .ok (v :: vs) s2
/-- and, or as values: all but the last are truths -/
def evAnd (cx : Cxt) : Es → Env → Store → R Val
  | .nil, _, _ => .err
  | .cons e es, env, s => match es with
    | .nil => evE cx e env s
    | .cons _ _ => (evE cx e env s).bind fun x s1 => match x with
      | .d (.bl true) => evAnd cx es env s1
      | .d (.bl false) => .ok (.d (.bl false)) s1
      | _ => .err
def evOr (cx : Cxt) : Es → Env → Store → R Val
  | .nil, _, _ => .err
  | .cons e es, env, s => match es with
    | .nil => evE cx e env s
    | .cons _ _ => (evE cx e env s).bind fun x s1 => match x with
      | .d (.bl true) => .ok (.d (.bl true)) s1
      | .d (.bl false) => evOr cx es env s1
      | _ => .err
def evI (cx : Cxt) : It → Env → Store → R Walk
  | .val e, env, s => (evE cx e env s).bind fun v s1 => walkV v s1
  | .range es, env, s => (evEs cx es env s).bind fun vs s1 => rangeV vs s1
  | .enum e, env, s => (evE cx e env s).bind fun v s1 => enumV v s1
  | .zip a b, env, s => .err
/-- a test -/
def evT (cx : Cxt) : E → Env → Store → R Bool
  | .not a, env, s => (evT cx a env s).bind fun k s1 => .ok (!k) s1
  | .and es, env, s => evTA cx es env s
  | .or es, env, s => evTO cx es env s
  | .ite _ _ _, _, _ => .err
  | .cmp o a b, env, s => (evE cx a env s).bind fun x s1 => (evE cx b env s1).bind fun y s2 => match cmpV o x y s2 with
    | some k => .ok k s2
    | none => .err
  | .chain o1 o2 a b c, env, s => (evE cx a env s).bind fun x s1 => (evE cx b env s1).bind fun y s2 => match cmpV o1 x y s2 with
    | some true => (evE cx c env s2).bind fun z s3 => match cmpV o2 y z s3 with
      | some k => .ok k s3
      | none => .err
    | some false => .ok false s2
    | none => .err
  | .frz _, _, _ => .err
  | .isi t a, env, s => (evE cx a env s).bind fun v s1 => match isiV t v with
    | some b => .ok b s1
    | none => .err
  | .var i, env, s => match env[i]? with
    | some (some v) => match truV v s with
      | some k => .ok k s
      | none => .err
    | _ => .err
  | .ix a i, env, s => (evE cx a env s).bind fun x s1 => (evE cx i env s1).bind fun y s2 => (ixV x y s2).bind fun v s3 => match truV v s3 with
    | some k => .ok k s3
    | none => .err
  | .call f es, env, s => if cx.has f then (evEs cx es env s).bind fun vs s1 => (cx.call f (vs.map argV) s1).bind fun v s2 => match truV v s2 with
    | some k => .ok k s2
    | none => .err
    else .err
  | .blt f es, env, s => (evEs cx es env s).bind fun vs s1 => (bltV f vs s1).bind fun v s2 => match truV v s2 with
    | some k => .ok k s2
    | none => .err
  | _, _, _ => .err
def evTA (cx : Cxt) : Es → Env → Store → R Bool
  | .nil, _, s => .ok true s
  | .cons e es, env, s => (evT cx e env s).bind fun k s1 => if k then evTA cx es env s1 else .ok false s1
def evTO (cx : Cxt) : Es → Env → Store → R Bool
  | .nil, _, s => .ok false s
  | .cons e es, env, s => (evT cx e env s).bind fun k s1 => if k then .ok true s1 else evTO cx es env s1
/-- a comprehension's tests: none or one -/
def evC (cx : Cxt) : Es → Env → Store → R Bool
  | .nil, _, s => .ok true s
  | .cons e es, env, s => match es with
    | .nil => evT cx e env s
    | .cons _ _ => .err
end
mutual
def evS (cx : Cxt) : S → Env → Store → SR
  | .set i e, env, s => match evE cx e env s with
    | .ok (.new xs) s1 => .nx (env.set i (some (.ref s1.length))) (s1 ++ [.lst xs])
    | .ok v s1 => .nx (env.set i (some v)) s1
    | .exc c s1 => .exc c env s1
    | .err => .err
  | .par i j a b, env, s => match (evE cx a env s).bind fun x s1 => (evE cx b env s1).bind fun y s2 => .ok (x, y) s2 with
    | .ok (.d x, .d y) s1 => .nx ((env.set i (some (.d x))).set j (some (.d y))) s1
    | .exc c s1 => .exc c env s1
    | _ => .err
  | .asg tg e, env, s => match evE cx e env s with
    | .ok (.d d) s1 => match bindT tg d env with
      | some e1 => .nx e1 s1
      | none => .err
    | .exc c s1 => .exc c env s1
    | _ => .err
  | .setix a i v, env, s => match (evE cx v env s).bind fun x s1 => (evE cx a env s1).bind fun o s2 => (evE cx i env s2).bind fun k s3 => setV x o k s3 with
    | .ok _ s1 => .nx env s1
    | .exc c s1 => .exc c env s1
    | .err => .err
  | .augix a i e, env, s => match (evE cx a env s).bind fun o s1 => (evE cx i env s1).bind fun k s2 => match o, k with
      | .ref r, .d (.int n) => match s2[r]? with
        | some (.lst xs) => match xs[n.toNat]? with
          | some (.int x) => if 0 ≤ n then (evE cx e env s2).bind fun y s3 => match y with
              | .d (.int j) => setV (.d (.int (x + j))) (.ref r) (.d (.int n)) s3
              | _ => .err
            else .err
          | _ => .err
        | _ => .err
      | _, _ => .err with
    | .ok _ s1 => .nx env s1
    | .exc c s1 => .exc c env s1
    | .err => .err
  | .ex e, env, s => match evE cx e env s with
    | .ok _ s1 => .nx env s1
    | .exc c s1 => .exc c env s1
    | .err => .err
  | .ret e, env, s => match evE cx e env s with
    | .ok v s1 => .rt v s1
    | .exc c s1 => .exc c env s1
    | .err => .err
  | .retN, _, s => .rt (.d .non) s
  | .ife t a b, env, s => match evT cx t env s with
    | .ok true s1 => evSs cx a env s1
    | .ok false s1 => evSs cx b env s1
    | .exc c s1 => .exc c env s1
    | .err => .err
  | .forr tg it b, env, s => match evI cx it env s with
    | .ok w s1 => forL w s1.length tg (fun e s => evSs cx b e s) w.items env s1
    | .exc c s1 => .exc c env s1
    | .err => .err
  | .whil t b, env, s => whileL s.length (fun e s => evT cx t e s) (fun e s => evSs cx b e s) cx.fuel env s
  | .rais c, env, s => if cx.isx c then .exc c env s else .err
  | .trye b c i h, env, s => if (cx.hnd c c).isSome then match evSs cx b env s with
      | .exc c' e1 s1 => match cx.hnd c' c with
        | some true => if i < e1.length then evHS cx c' h (e1.set i none) s1 else .err
        | some false => .exc c' e1 s1
        | none => .err
      | r => r
    else .err
  | .pass, env, s => .nx env s
  | .cont, env, s => .ct env s
def evSs (cx : Cxt) : Ss → Env → Store → SR
  | .nil, env, s => .nx env s
  | .cons st ss, env, s => match evS cx st env s with
    | .nx e1 s1 => evSs cx ss e1 s1
    | r => r
end

/-! ### a program -/
structure Fn where
  ps : List String
  ns : List String
  body : Ss
/-- a def's value: cells that were made within are forgotten -/
def retV (v : Val) (n : Nat) (s : Store) : R Val := match v with
  | .d d => .ok (.d d) (s.take n)
  | .new xs => .ok (.new xs) (s.take n)
  | .ref i => if i < n then .ok (.ref i) (s.take n) else match s[i]? with
    | some (.lst xs) => .ok (.new xs) (s.take n)
    | some (.flst xs) => .ok (.d (.lst xs)) (s.take n)
    | none => .err
def endF (r : SR) (n : Nat) : R Val := match r with
  | .nx _ s => .ok (.d .non) (s.take n)
  | .rt v s => retV v n s
  | .exc c _ s => .exc c (s.take n)
  | .ct _ _ => .err
  | .err => .err
def envF (F : Fn) (vs : List Val) : Env := vs.map some ++ List.replicate (F.ns.length - vs.length) none
def runF (F : Fn) (cx : Cxt) (vs : List Val) (s : Store) : R Val :=
  if vs.length = F.ps.length then endF (evSs cx F.body (envF F vs) s) s.length else .err
structure Prog where
  fn : String → Option Fn
  glob : String → Option D
  isx : String → Bool
  sub : String → String → Option Bool
  hnd : String → String → Option Bool
  knd : String → Option (List String)
/-- calls to a depth -/
def Φ (Δ : Prog) (m : Nat) : Nat → String → List Val → Store → R Val
  | 0, _, _, _ => .err
  | n + 1, f, vs, s => match Δ.fn f with
    | some F => runF F ⟨Φ Δ m n, Δ.glob, m, Δ.isx, fun f => (Δ.fn f).isSome, Δ.sub, Δ.hnd, Δ.knd⟩ vs s
    | none => .err
end Pv

/-! Sorting: the one rising arrangement. -/
namespace Pv
open PySem
section
variable {α : Type} {lt : α → α → Bool}
theorem insG_perm (x : α) : ∀ l : List α, (insG lt x l).Perm (x :: l)
  | [] => .refl _
  | y :: ys => by
    unfold insG
    split
    · exact ((insG_perm x ys).cons y).trans (.swap x y ys)
    · exact .refl _
theorem sortG_perm : ∀ l : List α, (sortG lt l).Perm l
  | [] => .refl _
  | x :: xs => (insG_perm x _).trans ((sortG_perm xs).cons x)
abbrev leG (lt : α → α → Bool) (a b : α) : Prop := lt b a = false
theorem insG_pw (asym : ∀ a b, lt a b = true → lt b a = false) (tr : ∀ a b c, leG lt a b → leG lt b c → leG lt a c) (x : α) : ∀ l : List α, l.Pairwise (leG lt) → (insG lt x l).Pairwise (leG lt)
  | [], _ => List.pairwise_singleton _ _
  | y :: ys, h => by
    obtain ⟨h1, h2⟩ := List.pairwise_cons.mp h
    unfold insG
    split
    · rename_i c
      refine List.pairwise_cons.mpr ⟨fun z hz => ?_, insG_pw asym tr x ys h2⟩
      rcases List.mem_cons.mp ((insG_perm x ys).mem_iff.mp hz) with e | e
      · rw [e]; exact asym _ _ c
      · exact h1 z e
    · rename_i c
      have c' : leG lt x y := by simpa using c
      refine List.pairwise_cons.mpr ⟨fun z hz => ?_, h⟩
      rcases List.mem_cons.mp hz with e | e
      · rw [e]; exact c'
      · exact tr _ _ _ c' (h1 z e)
theorem sortG_pw (asym : ∀ a b, lt a b = true → lt b a = false) (tr : ∀ a b c, leG lt a b → leG lt b c → leG lt a c) : ∀ l : List α, (sortG lt l).Pairwise (leG lt)
  | [] => .nil
  | x :: xs => insG_pw asym tr x _ (sortG_pw asym tr xs)
/-- there is one rising arrangement -/
theorem sortG_uniq (asym : ∀ a b, lt a b = true → lt b a = false) (tr : ∀ a b c, leG lt a b → leG lt b c → leG lt a c) (anti : ∀ a b, leG lt a b → leG lt b a → a = b) {l m : List α}
    (p : m.Perm l) (w : m.Pairwise (leG lt)) : m = sortG lt l :=
  List.Perm.eq_of_pairwise (fun a b _ _ => anti a b) w (sortG_pw asym tr l) (p.trans (sortG_perm l).symm)
end
theorem ltT_asym (a b : Tx) (h : ltT a b = true) : ltT b a = false := by
  unfold ltT at *
  simp only [decide_eq_true_eq, decide_eq_false_iff_not] at *
  exact List.lt_asymm h
theorem ltT_tr (a b c : Tx) (h : leG ltT a b) (h' : leG ltT b c) : leG ltT a c := by
  unfold leG ltT at *
  simp only [decide_eq_false_iff_not] at *
  exact List.le_trans (α := Nat) h h'
theorem ltT_anti (a b : Tx) (h : leG ltT a b) (h' : leG ltT b a) : a = b := by
  unfold leG ltT at *
  simp only [decide_eq_false_iff_not] at *
  exact List.le_antisymm (α := Nat) h h'
theorem ltI_asym (a b : Int) (h : ltI a b = true) : ltI b a = false := by
  unfold ltI at *
  simp only [decide_eq_true_eq, decide_eq_false_iff_not] at *
  omega
theorem ltI_tr (a b c : Int) (h : leG ltI a b) (h' : leG ltI b c) : leG ltI a c := by
  unfold leG ltI at *
  simp only [decide_eq_false_iff_not] at *
  omega
theorem ltI_anti (a b : Int) (h : leG ltI a b) (h' : leG ltI b a) : a = b := by
  unfold leG ltI at *
  simp only [decide_eq_false_iff_not] at *
  omega
theorem sortT_uniq {l m : List Tx} (p : m.Perm l) (w : m.Pairwise (leG ltT)) : m = sortT l := sortG_uniq ltT_asym ltT_tr ltT_anti p w
theorem sortI_uniq {l m : List Int} (p : m.Perm l) (w : m.Pairwise (leG ltI)) : m = sortI l := sortG_uniq ltI_asym ltI_tr ltI_anti p w
end Pv

/-! The checker: which text of the model's syntax a core expression stands for. -/
namespace Pv
open PySem

def vis (sc : Scope) (x : Str) : Bool := match sc.names.lookup x with
  | some .local => true
  | some .cell => true
  | some .free => true
  | _ => false
def locl (sc : Scope) (x : Str) : Bool := match sc.names.lookup x with
  | some .local => true
  | some .cell => true
  | _ => false
def gl (sc : Scope) (x : Str) : Bool := match sc.names.lookup x with
  | some .globalImplicit => true
  | _ => false
def plainName (x : Str) : Bool := !(x == ("__debug__" : Str)) && !(x == ("__classdict__" : Str)) && !(x == ("__name__" : Str))
def isVar (N : List Str) (sc : Scope) (i : Nat) (x : Str) : Bool := decide (N[i]? = some x) && vis sc x && plainName x
def isSet (N : List Str) (sc : Scope) (i : Nat) (x : Str) : Bool := decide (N[i]? = some x) && locl sc x && plainName x
def isBlt (sc : Scope) (n x : Str) : Bool := decide (x = n) && gl sc x && plainName x
def txt (x : Tx) : Str := ⟨x.toArray⟩

def bopOf : Bop → Operator
  | .add => .Add | .sub => .Sub | .mul => .Mult | .fdiv => .FloorDiv | .mod => .Mod | .pow => .Pow | .shl => .LShift | .shr => .RShift
  | .band => .BitAnd | .bor => .BitOr | .bxor => .BitXor
def isBop (o : Bop) (p : Operator) : Bool := match o, p with
  | .add, .Add => true | .sub, .Sub => true | .mul, .Mult => true | .fdiv, .FloorDiv => true | .mod, .Mod => true | .pow, .Pow => true
  | .shl, .LShift => true | .shr, .RShift => true | .band, .BitAnd => true | .bor, .BitOr => true | .bxor, .BitXor => true
  | _, _ => false
def isCop (o : Cop) (p : CmpOp) : Bool := match o, p with
  | .eq, .Eq => true | .ne, .NotEq => true | .lt, .Lt => true | .le, .LtE => true | .gt, .Gt => true | .ge, .GtE => true
  | .is, .Is => true | .isnot, .IsNot => true | .isin, .In => true | .notin, .NotIn => true
  | _, _ => false
def tyName : Ty → Str
  | .tup => "tuple" | .bool => "bool" | .int => "int" | .str => "str"
def bltName : Blt → Str
  | .len => "len" | .tuple => "tuple" | .list => "list" | .sorted => "sorted" | .max => "max" | .min => "min" | .sum => "sum" | .abs => "abs"
  | .int => "int" | .ord => "ord" | .str => "str" | .any => "any" | .all => "all" | .sset => "sorted"
def mtName : Mt → Str
  | .append => "append" | .pop => "pop" | .join => "join" | .replace => "replace" | .split => "split" | .count => "count" | .find => "find"
  | .insert => "insert" | .extend => "extend" | .index => "index"
/-- no super() -/
def notCall0 : Expr → Bool
  | .Call (.Name _ _) [] [] _ => false
  | _ => true
def isIntC : Expr → Int → Bool
  | .Constant (.int j) _ _, i => decide (j = i)
  | _, _ => false
def isMinus1 : Expr → Bool
  | .UnaryOp .USub (.Constant (.int j) _ _) _ => decide (j = 1)
  | _ => false

mutual
def chkG (N : List Str) (sc : Scope) : Tg → Expr → Bool
  | .name i, .Name x _ => isSet N sc i x
  | .tup ts, .Tuple xs _ _ => chkGs N sc ts xs
  | _, _ => false
def chkGs (N : List Str) (sc : Scope) : Tgs → List Expr → Bool
  | .nil, [] => true
  | .cons t ts, x :: xs => chkG N sc t x && chkGs N sc ts xs
  | _, _ => false
end
/-- a comprehension's own names with their slots -/
def ownOf (N : List Str) (is : List Nat) : List (Str × Nat) := is.filterMap fun i => (N[i]?).map fun x => (x, i)

/-- enumerate is walked into a tuple of names -/
def tgI : It → Expr → Bool
  | .enum _, t => match t with
    | .Tuple .. => true
    | _ => false
  | .zip _ _, t => match t with
    | .Tuple .. => true
    | _ => false
  | _, _ => true
mutual
def chkE (N : List Str) : Scope → E → Expr → Bool
  | sc, .var i, ex => match ex with
    | .Name x _ => isVar N sc i x
    | _ => false
  | _, .int i, ex => match ex with
    | .Constant (.int j) _ _ => decide (j = i)
    | _ => false
  | _, .str t, ex => match ex with
    | .Constant (.str x) _ _ => decide (x = txt t)
    | _ => false
  | _, .bl b, ex => match ex with
    | .Constant (.bool c) _ _ => c == b
    | _ => false
  | _, .non, ex => match ex with
    | .Constant .none _ _ => true
    | _ => false
  | sc, .glob g, ex => match ex with
    | .Name x _ => decide (x = Str.ofString g) && gl sc x && plainName x
    | _ => false
  | sc, .bin o a b, ex => match ex with
    | .BinOp x p y _ => isBop o p && chkE N sc a x && chkE N sc b y
    | _ => false
  | sc, .neg a, ex => match ex with
    | .UnaryOp .USub x _ => chkE N sc a x
    | _ => false
  | sc, .inv a, ex => match ex with
    | .UnaryOp .Invert x _ => chkE N sc a x
    | _ => false
  | sc, .not a, ex => match ex with
    | .UnaryOp .Not x _ => chkE N sc a x
    | _ => false
  | sc, .cmp o a b, ex => match ex with
    | .Compare x [p] [y] _ => isCop o p && chkE N sc a x && chkE N sc b y
    | _ => false
  | sc, .chain o1 o2 a b c, ex => match ex with
    | .Compare x [p, q] [y, z] _ => isCop o1 p && isCop o2 q && chkE N sc a x && chkE N sc b y && chkE N sc c z
    | _ => false
  | sc, .and es, ex => match ex with
    | .BoolOp .And xs _ => !xs.isEmpty && chkEs N sc es xs
    | _ => false
  | sc, .or es, ex => match ex with
    | .BoolOp .Or xs _ => !xs.isEmpty && chkEs N sc es xs
    | _ => false
  | sc, .ite t a b, ex => match ex with
    | .IfExp x y z _ => chkE N sc t x && chkE N sc a y && chkE N sc b z
    | _ => false
  | sc, .tup es, ex => match ex with
    | .Tuple xs _ _ => chkEs N sc es xs
    | _ => false
  | sc, .list es, ex => match ex with
    | .List xs _ => chkEs N sc es xs
    | _ => false
  | sc, .ix a i, ex => match ex with
    | .Subscript x y _ => chkE N sc a x && chkE N sc i y
    | _ => false
  | sc, .slice a lo hi, ex => match ex with
    | .Subscript x (.Slice (some l) (some h) none _) _ => chkE N sc a x && chkE N sc lo l && chkE N sc hi h
    | _ => false
  | sc, .slice0 a hi, ex => match ex with
    | .Subscript x (.Slice none (some h) none _) _ => chkE N sc a x && chkE N sc hi h
    | _ => false
  | sc, .slice1 a lo, ex => match ex with
    | .Subscript x (.Slice (some l) none none _) _ => chkE N sc a x && chkE N sc lo l
    | _ => false
  | sc, .rev a, ex => match ex with
    | .Subscript x (.Slice none none (some m) _) _ => isMinus1 m && chkE N sc a x
    | _ => false
  | sc, .call f es, ex => match ex with
    | .Call (.Name x _) xs [] _ => decide (x = Str.ofString f) && gl sc x && plainName x && chkEs N sc es xs
    | _ => false
  | sc, .blt f es, ex => match ex with
    | .Call (.Name x _) xs [] _ => isBlt sc (bltName f) x && chkEs N sc es xs
    | _ => false
  | sc, .isi t a, ex => match ex with
    | .Call (.Name x _) [y, .Name z _] [] _ => isBlt sc "isinstance" x && isBlt sc (tyName t) z && chkE N sc a y
    | _ => false
  | sc, .meth m a es, ex => match ex with
    | .Call (.Attribute x n p) xs [] q => decide (n = mtName m) && (p.endLine == q.line) && notCall0 x && decide (xs.length < 20) && chkE N sc a x && chkEs N sc es xs
    | _ => false
  | sc, .lc elt tg it ifs, ex => match ex with
    | .ListComp x [⟨t, i, fs, 0⟩] scope _ => L2.blkC N sc scope (ownOf N (slotsT tg)) && decide ((slotsT tg).all fun i => decide (i < N.length)) && chkG N scope tg t && (chkI N sc it i && tgI it t) && chkEs N scope ifs fs && chkE N scope elt x
    | _ => false
  | sc, .frz a, ex => chkE N sc a ex
def chkEs (N : List Str) : Scope → Es → List Expr → Bool
  | _, .nil, xs => match xs with
    | [] => true
    | _ => false
  | sc, .cons e es, xs => match xs with
    | x :: xs => chkE N sc e x && chkEs N sc es xs
    | _ => false
def chkI (N : List Str) : Scope → It → Expr → Bool
  | sc, .val e, ex => (match ex with | .Set _ _ _ => false | _ => true) && chkE N sc e ex
  | sc, .range es, ex => match ex with
    | .Call (.Name x _) xs [] _ => isBlt sc "range" x && decide (xs.length ≤ 3) && chkEs N sc es xs
    | _ => false
  | sc, .enum e, ex => match ex with
    | .Call (.Name x _) [y] [] _ => isBlt sc "enumerate" x && chkE N sc e y
    | _ => false
  | sc, .zip a b, ex => false
end
/-- the value is no comprehension, or the name is on the comprehension's line -/
def isLC : Expr → Bool
  | .ListComp .. => true
  | _ => false
def isTuple : Expr → Bool
  | .Tuple .. => true
  | _ => false
/-- a pair that is stored from the right -/
def okPar (a b : Expr) : Bool := !([a, b].any fun | .Starred .. => true | _ => false) && !([a, b].all (foldedForSure 8)) && !([a, b].all (constantsAlone 8))
/-- isinstance(e, C) of the exception in slot i -/
def chkIsi (N : List Str) (sc : Scope) (i : Nat) (c : String) : Expr → Bool
  | .Call (.Name f _) [.Name y _, .Name z _] [] _ => isBlt sc "isinstance" f && isVar N sc i y && decide (z = Str.ofString c) && gl sc z && plainName z
  | _ => false
def chkNames (sc : Scope) : List String → List Expr → Bool
  | [], xs => match xs with
    | [] => true
    | _ => false
  | c :: cs, xs => match xs with
    | .Name z _ :: xs => decide (z = Str.ofString c) && gl sc z && plainName z && chkNames sc cs xs
    | _ => false
mutual
def chkH (N : List Str) (sc : Scope) (i : Nat) : HE → Expr → Bool
  | .str t, ex => match ex with
    | .Constant (.str x) _ _ => decide (x = txt t)
    | _ => false
  | .non, ex => match ex with
    | .Constant .none _ _ => true
    | _ => false
  | .bl b, ex => match ex with
    | .Constant (.bool c) _ _ => c == b
    | _ => false
  | .var j, ex => match ex with
    | .Name x _ => isVar N sc j x
    | _ => false
  | .isi c, ex => chkIsi N sc i c ex
  | .isis cs, ex => match ex with
    | .Call (.Name f _) [.Name y _, .Tuple zs _ _] [] _ => isBlt sc "isinstance" f && isVar N sc i y && chkNames sc cs zs && !cs.isEmpty
    | _ => false
  | .kinds f, ex => match ex with
    | .Call (.Name x _) [.Name y _] [] _ => decide (x = Str.ofString f) && gl sc x && plainName x && isVar N sc i y
    | _ => false
  | .tup es, ex => match ex with
    | .Tuple xs _ _ => chkHs N sc i es xs
    | _ => false
  | .not e, ex => match ex with
    | .UnaryOp .Not x _ => chkH N sc i e x
    | _ => false
  | .and es, ex => match ex with
    | .BoolOp .And xs _ => !xs.isEmpty && chkHs N sc i es xs
    | _ => false
def chkHs (N : List Str) (sc : Scope) (i : Nat) : HEs → List Expr → Bool
  | .nil, xs => match xs with
    | [] => true
    | _ => false
  | .cons e es, xs => match xs with
    | x :: xs => chkH N sc i e x && chkHs N sc i es xs
    | _ => false
end
def chkHS (N : List Str) (sc : Scope) (i : Nat) : List HS → List Stmt → Bool
  | [], xs => match xs with
    | [] => true
    | _ => false
  | .set j e :: r, xs => match xs with
    | .Assign [.Name x _] ex _ :: xs => isSet N sc j x && decide (i ≠ j) && chkH N sc i e ex && chkHS N sc i r xs
    | _ => false
  | .ret e :: r, xs => match xs with
    | [.Return (some ex) _] => chkH N sc i e ex && r.isEmpty
    | _ => false
mutual
def chkS (N : List Str) (sc : Scope) : S → Stmt → Bool
  | .set i e, st => match st with
    | .Assign [.Name x p] ex q => isSet N sc i x && chkE N sc e ex && (!isLC ex || decide (sc.names.lookup x = some .cell) || (decide (sc.names.lookup x = some .local) && (p.line == ex.pos.line) && (match ex with
        | .ListComp _ _ scope _ => !(scope.names.any fun (n, k) => n == x && (k == .local || k == .cell))
        | _ => false)))
    | _ => false
  | .par i j a b, st => match st with
    | .Assign [.Tuple [.Name x px, .Name y py] _ _] (.Tuple [ea, eb] _ _) _ => isSet N sc i x && isSet N sc j y && decide (i ≠ j) && decide (sc.names.lookup x = some .local) && decide (sc.names.lookup y = some .local) && (px.line == py.line) && decide (x ≠ y) && chkE N sc a ea && chkE N sc b eb && okPar ea eb
    | _ => false
  | .asg tg e, st => match st with
    | .Assign [.Tuple ts k p] ex _ => chkG N sc tg (.Tuple ts k p) && chkE N sc e ex && !isLC ex && !isTuple ex
    | _ => false
  | .setix a i v, st => match st with
    | .Assign [.Subscript x y _] ex _ => chkE N sc a x && chkE N sc i y && chkE N sc v ex && !isLC ex
    | _ => false
  | .augix a i e, st => match st with
    | .AugAssign (.Subscript x y _) .Add ex _ => chkE N sc a x && chkE N sc i y && chkE N sc e ex && !isLC ex
    | _ => false
  | .ex e, st => match st with
    | .Expr ex _ => chkE N sc e ex && !isLC ex
    | _ => false
  | .ret e, st => match st with
    | .Return (some ex) _ => chkE N sc e ex
    | _ => false
  | .retN, st => match st with
    | .Return none _ => true
    | _ => false
  | .ife t a b, st => match st with
    | .If x y z _ => chkE N sc t x && chkSs N sc a y && chkSs N sc b z
    | _ => false
  | .forr tg it b, st => match st with
    | .For t i y [] _ => chkG N sc tg t && (chkI N sc it i && tgI it t) && chkSs N sc b y
    | _ => false
  | .whil t b, st => match st with
    | .While x y [] _ => chkE N sc t x && chkSs N sc b y
    | _ => false
  | .rais c, st => match st with
    | .Raise (some (.Call (.Name x _) [.Constant (.str _) _ _] [] _)) none _ => decide (x = Str.ofString c) && gl sc x && plainName x
    | _ => false
  | .trye b c i h, st => match st with
    | .Try x [.ExceptHandler (some (.Name y _)) (some n) (z :: zs) _] [] [] _ => chkSs N sc b x && decide (y = Str.ofString c) && gl sc y && plainName y && decide (N[i]? = some n) && decide (sc.names.lookup n = some .local) && chkHS N sc i h (z :: zs)
    | _ => false
  | .pass, st => match st with
    | .Pass _ => true
    | _ => false
  | .cont, st => match st with
    | .Continue _ => true
    | _ => false
def chkSs (N : List Str) (sc : Scope) : Ss → List Stmt → Bool
  | .nil, xs => match xs with
    | [] => true
    | _ => false
  | .cons s ss, xs => match xs with
    | x :: xs => chkS N sc s x && chkSs N sc ss xs
    | _ => false
end
/-- a def that tells of which classes an exception is -/
structure Kd where
  p : String
  x : String
  g0 : List String
  g1 : List String
  g2 : List String
  c3 : String
def Kd.cs (d : Kd) : List String := d.g0 ++ d.g1 ++ d.g2 ++ [d.c3]
def Kd.N (d : Kd) : List Str := [Str.ofString d.p, Str.ofString d.x]
def chkIsis (N : List Str) (sc : Scope) (i : Nat) : List String → List Expr → Bool
  | [], xs => match xs with
    | [] => true
    | _ => false
  | c :: cs, xs => match xs with
    | x :: xs => chkIsi N sc i c x && chkIsis N sc i cs xs
    | _ => false
def chkKd0 (N : List Str) (sc : Scope) (d : Kd) : List Stmt → Bool
  | [.Assign [.Name x0 _] (.List e0 _) _, .Assign [.Name x1 _] (.BinOp (.Name y1 _) .Add (.List e1 _) _) _, .Assign [.Name x2 _] (.BinOp (.Name y2 _) .Add (.List e2 _) _) _,
      .Expr (.Call (.Attribute (.Name y3 _) m p) [e3] [] q) _, .Return (some (.Call (.Name t _) [.Name y4 _] [] _)) _] =>
    isSet N sc 1 x0 && isSet N sc 1 x1 && isSet N sc 1 x2 && isVar N sc 1 y1 && isVar N sc 1 y2 && isVar N sc 1 y3 && isVar N sc 1 y4 && decide (m = "append") && (p.endLine == q.line) && isBlt sc "tuple" t &&
      chkIsis N sc 0 d.g0 e0 && chkIsis N sc 0 d.g1 e1 && chkIsis N sc 0 d.g2 e2 && chkIsi N sc 0 d.c3 e3
  | _ => false
def chkScope (N P : List Str) (sc : Scope) : Bool := decide (sc.kind = .function) && !sc.isCoroutine && !sc.isGenerator && decide N.Nodup && decide (N.take P.length = P) && (P.all fun x => decide (sc.names.lookup x = some .local) || decide (sc.names.lookup x = some .cell)) &&
  sc.names.all fun y => decide (y.2 ≠ .free)
def chkKd (d : Kd) (st : Stmt) : Bool := chkKd0 d.N (L2.defScope st) d (L2.defBody st) && chkScope d.N [Str.ofString d.p] (L2.defScope st)
/-- a def's text is that of a core def -/
def chkF (F : Fn) (st : Stmt) : Bool := chkSs (F.ns.map Str.ofString) (L2.defScope st) F.body (L2.defBody st)
end Pv

/-! How core data stands in the model's heap. -/
namespace Pv
open PySem PySem.Spec PyProof.Rows L2

abbrev Frag := PySem.W.Frag
/-- a list that is shut -/
def FzL (K : Frag) (H : Hp) (a : Addr) (vs : List V) : Prop :=
  (∃ o, H a = some (.frz o (.lst vs))) ∨
    ∃ (o : Obj) (its : Array Value) (n : Nat), K.lookup a = some o ∧ o.cls = .type "list" ∧ o.dict = none ∧ o.data = .seq its n ∧ its.size ≤ sizeLine ∧ Vals vs its.toList
theorem FzL.sq {K : Frag} {H : Hp} {a : Addr} {vs : List V} (h : FzL K H a vs) : SqL K H a vs := by
  rcases h with ⟨o, h⟩ | h
  · exact .inl (.inr ⟨o, h⟩)
  · exact .inr h
mutual
inductive RepD (K : Frag) (H : Hp) : D → V → Prop
  | non : RepD K H .non .non
  | bl (b : Bool) : RepD K H (.bl b) (.bl b)
  | int (i : Int) : RepD K H (.int i) (.int i)
  | str (x : Tx) : RepD K H (.str x) (.str (txt x))
  | tup {a : Addr} {ds : List D} {vs : List V} : SqT K H a vs → RepDs K H ds vs → RepD K H (.tup ds) (.ref a)
  | lst {a : Addr} {ds : List D} {vs : List V} : FzL K H a vs → RepDs K H ds vs → RepD K H (.lst ds) (.ref a)
inductive RepDs (K : Frag) (H : Hp) : List D → List V → Prop
  | nil : RepDs K H [] []
  | cons {d : D} {v : V} {ds : List D} {vs : List V} : RepD K H d v → RepDs K H ds vs → RepDs K H (d :: ds) (v :: vs)
end
/-- what never changes stands -/
structure Stab (H H' : Hp) : Prop where
  tup : ∀ a vs, H a = some (.tup vs) → H' a = some (.tup vs)
  frz : ∀ a o u, H a = some (.frz o u) → H' a = some (.frz o u)
theorem Stab.refl (H : Hp) : Stab H H := ⟨fun _ _ h => h, fun _ _ _ h => h⟩
theorem Stab.trans {H H1 H2 : Hp} (a : Stab H H1) (b : Stab H1 H2) : Stab H H2 := ⟨fun c vs h => b.tup c vs (a.tup c vs h), fun c o u h => b.frz c o u (a.frz c o u h)⟩
theorem Stab.sqT {K : Frag} {H H' : Hp} (s : Stab H H') {a : Addr} {vs : List V} (h : SqT K H a vs) : SqT K H' a vs := by
  rcases h with (h | ⟨o, h⟩) | h
  · exact .inl (.inl (s.tup _ _ h))
  · exact .inl (.inr ⟨o, s.frz _ _ _ h⟩)
  · exact .inr h
theorem Stab.fzL {K : Frag} {H H' : Hp} (s : Stab H H') {a : Addr} {vs : List V} (h : FzL K H a vs) : FzL K H' a vs := by
  rcases h with ⟨o, h⟩ | h
  · exact .inl ⟨o, s.frz _ _ _ h⟩
  · exact .inr h
mutual
theorem RepD.mono {K : Frag} {H H' : Hp} (s : Stab H H') : ∀ {d : D} {v : V}, RepD K H d v → RepD K H' d v
  | _, _, .non => .non
  | _, _, .bl b => .bl b
  | _, _, .int i => .int i
  | _, _, .str x => .str x
  | _, _, .tup h r => .tup (s.sqT h) (RepDs.mono s r)
  | _, _, .lst h r => .lst (s.fzL h) (RepDs.mono s r)
theorem RepDs.mono {K : Frag} {H H' : Hp} (s : Stab H H') : ∀ {ds : List D} {vs : List V}, RepDs K H ds vs → RepDs K H' ds vs
  | _, _, .nil => .nil
  | _, _, .cons h r => .cons (RepD.mono s h) (RepDs.mono s r)
end
section
variable {K : Frag} {H H' : Hp}
theorem RepDs.length : ∀ {ds : List D} {vs : List V}, RepDs K H ds vs → ds.length = vs.length
  | _, _, .nil => rfl
  | _, _, .cons _ r => congrArg (· + 1) r.length
theorem RepDs.get : ∀ {ds : List D} {vs : List V} {i : Nat} {d : D}, RepDs K H ds vs → ds[i]? = some d → ∃ v, vs[i]? = some v ∧ RepD K H d v
  | _, _, 0, _, .cons h _, e => ⟨_, rfl, by cases e; exact h⟩
  | _, _, i + 1, _, .cons _ r, e => by
    obtain ⟨v, h1, h2⟩ := RepDs.get (i := i) r (by simpa using e)
    exact ⟨v, by simpa using h1, h2⟩
  | _, _, _, _, .nil, e => by simp at e
theorem RepDs.append : ∀ {ds es : List D} {vs us : List V}, RepDs K H ds vs → RepDs K H es us → RepDs K H (ds ++ es) (vs ++ us)
  | _, _, _, _, .nil, s => s
  | _, _, _, _, .cons r t, s => .cons r (RepDs.append t s)
theorem RepDs.set {d : D} {v : V} (r : RepD K H d v) : ∀ {ds : List D} {vs : List V} (i : Nat), RepDs K H ds vs → RepDs K H (ds.set i d) (vs.set i v)
  | _, _, _, .nil => .nil
  | _, _, 0, .cons _ t => .cons r t
  | _, _, i + 1, .cons q t => .cons q (RepDs.set r i t)
theorem RepDs.take : ∀ {ds : List D} {vs : List V} (n : Nat), RepDs K H ds vs → RepDs K H (ds.take n) (vs.take n)
  | _, _, 0, _ => by rw [List.take_zero, List.take_zero]; exact .nil
  | _, _, _ + 1, .nil => .nil
  | _, _, n + 1, .cons r t => .cons r (RepDs.take n t)
theorem RepDs.drop : ∀ {ds : List D} {vs : List V} (n : Nat), RepDs K H ds vs → RepDs K H (ds.drop n) (vs.drop n)
  | _, _, 0, r => r
  | _, _, _ + 1, .nil => .nil
  | _, _, n + 1, .cons _ t => RepDs.drop n t
theorem RepDs.eraseIdx : ∀ {ds : List D} {vs : List V} (n : Nat), RepDs K H ds vs → RepDs K H (ds.eraseIdx n) (vs.eraseIdx n)
  | _, _, _, .nil => .nil
  | _, _, 0, .cons _ t => t
  | _, _, n + 1, .cons r t => .cons r (RepDs.eraseIdx n t)
theorem RepDs.dropLast {ds : List D} {vs : List V} (r : RepDs K H ds vs) : RepDs K H ds.dropLast vs.dropLast := by
  rw [List.dropLast_eq_take, List.dropLast_eq_take, r.length]
  exact r.take _
theorem RepDs.reverse {ds : List D} {vs : List V} (r : RepDs K H ds vs) : RepDs K H ds.reverse vs.reverse := by
  induction ds generalizing vs with
  | nil => cases r; exact .nil
  | cons d ds ih =>
    cases r with
    | cons h t =>
      rw [List.reverse_cons, List.reverse_cons]
      exact (ih t).append (.cons h .nil)
theorem RepDs.rep {ds : List D} {vs : List V} (r : RepDs K H ds vs) : ∀ k : Nat, RepDs K H (List.replicate k ds).flatten (List.replicate k vs).flatten
  | 0 => .nil
  | k + 1 => by
    rw [List.replicate_succ, List.replicate_succ, List.flatten_cons, List.flatten_cons]
    exact r.append (r.rep k)
theorem RepDs.last {ds : List D} {vs : List V} {d : D} (r : RepDs K H ds vs) (e : ds.getLast? = some d) : ∃ v, vs[vs.length - 1]? = some v ∧ RepD K H d v := by
  rw [List.getLast?_eq_getElem?, r.length] at e
  exact r.get e
mutual
/-- what is read as data of the model -/
theorem RepD.dp : ∀ {d : D} {v : V}, RepD K H d v → Dp K H v (toPy d)
  | _, _, .non => .non
  | _, _, .bl b => .bl b
  | _, _, .int i => .int i
  | _, _, .str x => .str _
  | _, _, .tup h r => .tup h (RepDs.dp r)
  | _, _, .lst h r => .lst h.sq (RepDs.dp r)
theorem RepDs.dp : ∀ {ds : List D} {vs : List V}, RepDs K H ds vs → DpAll K H vs (toPys ds)
  | _, _, .nil => .nil
  | _, _, .cons h r => .cons (RepD.dp h) (RepDs.dp r)
end
theorem RepDs.txts : ∀ {ds : List D} {vs : List V} {ts : List Tx}, RepDs K H ds vs → allM txOf ds = some ts → vs = (ts.map txt).map V.str
  | _, _, ts, .nil, e => by cases e; rfl
  | _, _, ts, .cons (d := d) (ds := ds) h r, e => by
    unfold allM at e
    cases h with
    | str x =>
      simp only [txOf] at e
      cases q : allM txOf ds with
      | none => rw [q] at e; cases e
      | some as => rw [q] at e; cases e; rw [RepDs.txts r q]; rfl
    | _ => simp [txOf] at e
theorem RepDs.ints : ∀ {ds : List D} {vs : List V} {ts : List Int}, RepDs K H ds vs → allM intOf ds = some ts → vs = ts.map V.int
  | _, _, ts, .nil, e => by cases e; rfl
  | _, _, ts, .cons (d := d) (ds := ds) h r, e => by
    unfold allM at e
    cases h with
    | int x =>
      simp only [intOf] at e
      cases q : allM intOf ds with
      | none => rw [q] at e; cases e
      | some as => rw [q] at e; cases e; rw [RepDs.ints r q]; rfl
    | _ => simp [intOf] at e
theorem RepDs.bls : ∀ {ds : List D} {vs : List V} {ts : List Bool}, RepDs K H ds vs → allM blOf ds = some ts → vs = ts.map V.bl
  | _, _, ts, .nil, e => by cases e; rfl
  | _, _, ts, .cons (d := d) (ds := ds) h r, e => by
    unfold allM at e
    cases h with
    | bl x =>
      simp only [blOf] at e
      cases q : allM blOf ds with
      | none => rw [q] at e; cases e
      | some as => rw [q] at e; cases e; rw [RepDs.bls r q]; rfl
    | _ => simp [blOf] at e
theorem repStrs : ∀ ts : List Tx, RepDs K H (ts.map D.str) ((ts.map txt).map V.str)
  | [] => .nil
  | x :: xs => .cons (.str x) (repStrs xs)
theorem repInts : ∀ ts : List Int, RepDs K H (ts.map D.int) (ts.map V.int)
  | [] => .nil
  | x :: xs => .cons (.int x) (repInts xs)
end

/-! ### cells, values, frames -/
def RepC (K : Frag) (H : Hp) (a : Addr) : Cell → Prop
  | .lst ds => ∃ vs, H a = some (.lst vs) ∧ RepDs K H ds vs
  | .flst ds => ∃ o vs, H a = some (.frz o (.lst vs)) ∧ RepDs K H ds vs
/-- the cells' addresses; what is kept safe besides -/
structure Al where
  c : List Addr
  p : Addr → Prop
def Al.out (α : Al) (a : Addr) : Prop := a ∉ α.c ∧ ¬ α.p a
def Al.push (α : Al) (a : Addr) : Al := ⟨α.c ++ [a], α.p⟩
def Al.take (α : Al) (n : Nat) : Al := ⟨α.c.take n, α.p⟩
/-- the cells stand at the addresses α -/
structure Rel (K : Frag) (α : Al) (H : Hp) (st : Store) : Prop where
  len : α.c.length = st.length
  nd : α.c.Nodup
  cell : ∀ (i : Nat) (c : Cell) (a : Addr), st[i]? = some c → α.c[i]? = some a → RepC K H a c
  prot : ∀ a, α.p a → H a ≠ none ∧ a ∉ α.c
def RepV (K : Frag) (α : Al) (H : Hp) : Val → V → Prop
  | .d d, v => RepD K H d v
  | .ref i, v => ∃ a, α.c[i]? = some a ∧ v = .ref a
  | .new ds, v => ∃ a vs, v = .ref a ∧ H a = some (.lst vs) ∧ α.out a ∧ RepDs K H ds vs
/-- .. as it is held while other things are reckoned: a new list may be shut meanwhile -/
def RepW (K : Frag) (α : Al) (H : Hp) : Val → V → Prop
  | .d d, v => RepD K H d v
  | .ref i, v => ∃ a, α.c[i]? = some a ∧ v = .ref a
  | .new ds, v => ∃ a vs, v = .ref a ∧ Rd H a (.lst vs) ∧ α.out a ∧ RepDs K H ds vs
theorem RepV.weak {K : Frag} {α : Al} {H : Hp} {v : Val} {u : V} (h : RepV K α H v u) : RepW K α H v u := by
  cases v with
  | d d => exact h
  | ref i => exact h
  | new ds =>
    obtain ⟨a, vs, e, h, n, r⟩ := h
    exact ⟨a, vs, e, .inl h, n, r⟩
inductive RepVs (K : Frag) (α : Al) (H : Hp) : List Val → List V → Prop
  | nil : RepVs K α H [] []
  | cons {x : Val} {v : V} {xs : List Val} {vs : List V} : RepW K α H x v → RepVs K α H xs vs → RepVs K α H (x :: xs) (v :: vs)
def isNew : Val → Bool
  | .new _ => true
  | _ => false
structure EnvR (K : Frag) (α : Al) (H : Hp) (env : Env) (σ : L2.St) : Prop where
  len : env.length = σ.length
  get : ∀ (i : Nat) (v : Val), env[i]? = some (some v) → isNew v = false ∧ ∃ u, σ[i]? = some (some u) ∧ RepW K α H v u
/-- from one heap to a later one -/
structure Ext (α : Al) (H : Hp) (α' : Al) (H' : Hp) : Prop where
  pre : ∃ β, α'.c = α.c ++ β
  pp : α'.p = α.p
  fresh : ∀ a, a ∈ α'.c → a ∉ α.c → H a = none
  prt : ∀ a u, α.p a → a ∉ α.c → H a = some u → H' a = some u
  oth : ∀ a u, α.out a → H a = some u → H' a = some u ∨ ∃ vs o, u = .lst vs ∧ H' a = some (.frz o (.lst vs))
  stab : Stab H H'
theorem Ext.refl (α : Al) (H : Hp) : Ext α H α H := ⟨⟨[], by simp⟩, rfl, fun _ h n => absurd h n, fun _ _ _ _ h => h, fun _ _ _ h => .inl h, Stab.refl H⟩
theorem Ext.has1 {α β : Al} {H H1 : Hp} (a : Ext α H β H1) {c : Addr} {u : HO} (n : c ∉ α.c) (h : H c = some u) : H1 c = some u ∨ ∃ vs o, u = .lst vs ∧ H1 c = some (.frz o (.lst vs)) := by
  by_cases p : α.p c
  · exact .inl (a.prt c u p n h)
  · exact a.oth c u ⟨n, p⟩ h
/-- an address that stands is no new cell's -/
theorem Ext.notc {α β : Al} {H H1 : Hp} (a : Ext α H β H1) {c : Addr} {u : HO} (hn : c ∉ α.c) (h : H c = some u) : c ∉ β.c := fun hx => by
  have := a.fresh c hx hn
  rw [h] at this
  cases this
theorem Ext.out {α β : Al} {H H1 : Hp} (a : Ext α H β H1) {c : Addr} {u : HO} (hn : α.out c) (h : H c = some u) : β.out c := ⟨a.notc hn.1 h, by rw [a.pp]; exact hn.2⟩
theorem Ext.trans {α β γ : Al} {H H1 H2 : Hp} (a : Ext α H β H1) (b : Ext β H1 γ H2) : Ext α H γ H2 := by
  obtain ⟨x, ex⟩ := a.pre
  obtain ⟨y, ey⟩ := b.pre
  refine ⟨⟨x ++ y, by rw [ey, ex, List.append_assoc]⟩, b.pp.trans a.pp, fun c hc hn => ?_, fun c u hp hn h => ?_, fun c u hn h => ?_, a.stab.trans b.stab⟩
  · by_cases hx : c ∈ β.c
    · exact a.fresh c hx hn
    · cases q : H c with
      | none => rfl
      | some u =>
        have := b.fresh c hc hx
        rcases a.has1 hn q with z | ⟨vs, o, _, z⟩ <;> rw [z] at this <;> cases this
  · exact b.prt c u (by rw [a.pp]; exact hp) (a.notc hn h) (a.prt c u hp hn h)
  · rcases a.oth c u hn h with h1 | ⟨vs, o, e, h1⟩
    · exact b.oth c u (a.out hn h) h1
    · exact .inr ⟨vs, o, e, b.stab.frz _ _ _ h1⟩
section
variable {K : Frag} {α α' : Al} {H H' : Hp} {st : Store} {env : Env} {σ : L2.St}
theorem RepW.mono {v : Val} {u : V} (x : Ext α H α' H') (h : RepW K α H v u) : RepW K α' H' v u := by
  cases v with
  | d d => exact RepD.mono x.stab h
  | ref i =>
    obtain ⟨a, e, r⟩ := h
    obtain ⟨β, ex⟩ := x.pre
    refine ⟨a, ?_, r⟩
    have hl : i < α.c.length := by
      rcases Nat.lt_or_ge i α.c.length with q | q
      · exact q
      · rw [List.getElem?_eq_none q] at e; cases e
    rw [ex, List.getElem?_append_left hl]
    exact e
  | new ds =>
    obtain ⟨a, vs, e, h, n, r⟩ := h
    have rd : Rd H' a (.lst vs) := by
      rcases h with h | ⟨o, h⟩
      · rcases x.oth a _ n h with z | ⟨ws, o, e, z⟩
        · exact .inl z
        · cases e; exact .inr ⟨o, z⟩
      · exact .inr ⟨o, x.stab.frz _ _ _ h⟩
    have hn : α'.out a := by
      rcases h with h | ⟨o, h⟩ <;> exact x.out n h
    exact ⟨a, vs, e, rd, hn, RepDs.mono x.stab r⟩
theorem RepVs.mono (x : Ext α H α' H') : ∀ {vs : List Val} {us : List V}, RepVs K α H vs us → RepVs K α' H' vs us
  | _, _, .nil => .nil
  | _, _, .cons h r => .cons (h.mono x) (RepVs.mono x r)
theorem RepVs.length : ∀ {vs : List Val} {us : List V}, RepVs K α H vs us → vs.length = us.length
  | _, _, .nil => rfl
  | _, _, .cons _ r => congrArg (· + 1) r.length
theorem RepVs.get : ∀ {vs : List Val} {us : List V} {i : Nat} {v : Val}, RepVs K α H vs us → vs[i]? = some v → ∃ u, us[i]? = some u ∧ RepW K α H v u
  | _, _, 0, _, .cons h _, e => ⟨_, rfl, by cases e; exact h⟩
  | _, _, i + 1, _, .cons _ r, e => by
    obtain ⟨v, h1, h2⟩ := RepVs.get (i := i) r (by simpa using e)
    exact ⟨v, by simpa using h1, h2⟩
  | _, _, _, _, .nil, e => by simp at e
theorem EnvR.mono (x : Ext α H α' H') (h : EnvR K α H env σ) : EnvR K α' H' env σ :=
  ⟨h.len, fun i v e => let ⟨n, u, h1, h2⟩ := h.get i v e; ⟨n, u, h1, h2.mono x⟩⟩
theorem EnvR.set {v : Val} {u : V} (h : EnvR K α H env σ) (n : isNew v = false) (r : RepW K α H v u) (i : Nat) : EnvR K α H (env.set i (some v)) (σ.set i (some u)) := by
  refine ⟨by rw [List.length_set, List.length_set]; exact h.len, fun j w e => ?_⟩
  by_cases hj : i = j
  · subst hj
    have hl : i < env.length := by
      rcases Nat.lt_or_ge i env.length with q | q
      · exact q
      · rw [List.getElem?_eq_none (by rw [List.length_set]; exact q)] at e; cases e
    rw [List.getElem?_set_self hl] at e
    cases e
    exact ⟨n, u, List.getElem?_set_self (by rw [← h.len]; exact hl), r⟩
  · rw [List.getElem?_set_ne hj] at e
    obtain ⟨n', u', h1, h2⟩ := h.get j w e
    exact ⟨n', u', by rw [List.getElem?_set_ne hj]; exact h1, h2⟩
/-- fewer names known -/
theorem EnvR.sub {env' : Env} (h : EnvR K α H env σ) (hl : env'.length = env.length) (hs : ∀ (i : Nat) (v : Val), env'[i]? = some (some v) → env[i]? = some (some v)) : EnvR K α H env' σ :=
  ⟨hl.trans h.len, fun i v e => h.get i v (hs i v e)⟩
theorem Rel.at (r : Rel K α H st) {i : Nat} {c : Cell} (h : st[i]? = some c) : ∃ a, α.c[i]? = some a ∧ RepC K H a c := by
  have hl : i < st.length := by
    rcases Nat.lt_or_ge i st.length with q | q
    · exact q
    · rw [List.getElem?_eq_none q] at h; cases h
  have hl' : i < α.c.length := by rw [r.len]; exact hl
  exact ⟨α.c[i], List.getElem?_eq_getElem hl', r.cell i c _ h (List.getElem?_eq_getElem hl')⟩
theorem RepC.mono {a : Addr} {c : Cell} (s : Stab H H') (e : H' a = H a) (h : RepC K H a c) : RepC K H' a c := by
  cases c with
  | lst ds =>
    obtain ⟨vs, h, r⟩ := h
    exact ⟨vs, by rw [e]; exact h, r.mono s⟩
  | flst ds =>
    obtain ⟨o, vs, h, r⟩ := h
    exact ⟨o, vs, by rw [e]; exact h, r.mono s⟩
theorem RepC.items {a : Addr} {c : Cell} (h : RepC K H a c) : ∃ vs, SqL K H a vs ∧ RepDs K H c.items vs := by
  cases c with
  | lst ds =>
    obtain ⟨vs, h, r⟩ := h
    exact ⟨vs, .inl (.inl h), r⟩
  | flst ds =>
    obtain ⟨o, vs, h, r⟩ := h
    exact ⟨vs, .inl (.inr ⟨o, h⟩), r⟩
theorem nodup_get {l : List Addr} (n : l.Nodup) {i j : Nat} {a : Addr} (h1 : l[i]? = some a) (h2 : l[j]? = some a) : i = j := by
  induction l generalizing i j with
  | nil => simp at h1
  | cons x xs ih =>
    obtain ⟨n1, n2⟩ := List.nodup_cons.mp n
    cases i with
    | zero =>
      cases j with
      | zero => rfl
      | succ j =>
        simp at h1 h2
        subst h1
        exact absurd (List.mem_of_getElem? h2) n1
    | succ i =>
      cases j with
      | zero =>
        simp at h1 h2
        subst h2
        exact absurd (List.mem_of_getElem? h1) n1
      | succ j =>
        simp at h1 h2
        rw [ih n2 h1 h2]
/-- a cell is changed (a list at a) -/
theorem Rel.upd (r : Rel K α H st) {i : Nat} {a : Addr} {c : Cell} {o : HO} (ha : α.c[i]? = some a) (s : Stab H (upd H a o)) (hc : RepC K (upd H a o) a c) : Rel K α (upd H a o) (st.set i c) := by
  refine ⟨by rw [List.length_set]; exact r.len, r.nd, fun j d b h1 h2 => ?_, fun b hb => ⟨?_, (r.prot b hb).2⟩⟩
  rotate_left
  · by_cases e : b = a
    · rw [e, upd_same]; exact fun z => by cases z
    · rw [upd_ne e]; exact (r.prot b hb).1
  by_cases hj : i = j
  · subst hj
    rw [ha] at h2
    cases h2
    have hl : i < st.length := by
      rcases Nat.lt_or_ge i st.length with q | q
      · exact q
      · rw [List.getElem?_eq_none (by rw [List.length_set]; exact q)] at h1; cases h1
    rw [List.getElem?_set_self hl] at h1
    cases h1
    exact hc
  · rw [List.getElem?_set_ne hj] at h1
    have hb : b ≠ a := fun e => by subst e; exact hj (nodup_get r.nd ha h2)
    exact (r.cell j d b h1 h2).mono s (upd_ne hb)
theorem stab_upd {a : Addr} {vs : List V} {o : HO} (h : H a = some (.lst vs)) : Stab H (upd H a o) := by
  refine ⟨fun b us e => ?_, fun b p u e => ?_⟩
  · rw [upd_ne (fun z => by subst z; rw [h] at e; cases e)]; exact e
  · rw [upd_ne (fun z => by subst z; rw [h] at e; cases e)]; exact e
theorem stab_new {a : Addr} {o : HO} (h : H a = none) : Stab H (upd H a o) := by
  refine ⟨fun b us e => ?_, fun b p u e => ?_⟩
  · rw [upd_ne (ne_of_none e h)]; exact e
  · rw [upd_ne (ne_of_none e h)]; exact e
theorem ext_new {a : Addr} {o : HO} (h : H a = none) : Ext α H α (upd H a o) :=
  ⟨⟨[], by simp⟩, rfl, fun _ h n => absurd h n, fun b u _ _ e => by rw [upd_ne (ne_of_none e h)]; exact e, fun b u _ e => .inl (by rw [upd_ne (ne_of_none e h)]; exact e), stab_new h⟩
theorem ext_cell {a : Addr} {vs : List V} {o : HO} (ha : a ∈ α.c) (h : H a = some (.lst vs)) : Ext α H α (upd H a o) :=
  ⟨⟨[], by simp⟩, rfl, fun _ h n => absurd h n, fun b u _ n e => by rw [upd_ne (fun z => n (by rw [z]; exact ha))]; exact e, fun b u n e => .inl (by rw [upd_ne (fun z => n.1 (by rw [z]; exact ha))]; exact e), stab_upd h⟩
/-- a new list is shut -/
theorem ext_other {a : Addr} {vs : List V} {o : Obj} (n : α.out a) (h : H a = some (.lst vs)) : Ext α H α (upd H a (.frz o (.lst vs))) :=
  ⟨⟨[], by simp⟩, rfl, fun _ h n => absurd h n, fun b u hp _ e => by rw [upd_ne (fun z => n.2 (by rw [← z]; exact hp))]; exact e, fun b u n e => by
    by_cases hb : b = a
    · subst hb
      rw [h] at e
      cases e
      exact .inr ⟨vs, o, rfl, upd_same⟩
    · exact .inl (by rw [upd_ne hb]; exact e), stab_upd h⟩
theorem upd_some {a b : Addr} {o : HO} (h : H b ≠ none) : L2.upd H a o b ≠ none := by
  by_cases e : b = a
  · rw [e, upd_same]; exact fun z => by cases z
  · rw [upd_ne e]; exact h
theorem Rel.ext_new (r : Rel K α H st) {a : Addr} {o : HO} (h : H a = none) : Rel K α (L2.upd H a o) st := by
  refine ⟨r.len, r.nd, fun j d b h1 h2 => (r.cell j d b h1 h2).mono (stab_new h) ?_, fun b hb => ⟨upd_some (r.prot b hb).1, (r.prot b hb).2⟩⟩
  refine upd_ne fun e => ?_
  subst e
  have := r.cell j d b h1 h2
  cases d with
  | lst ds => obtain ⟨vs, e, _⟩ := this; rw [h] at e; cases e
  | flst ds => obtain ⟨o, vs, e, _⟩ := this; rw [h] at e; cases e
theorem Rel.has (r : Rel K α H st) {a : Addr} (hm : a ∈ α.c) : H a ≠ none := fun h => by
  obtain ⟨j, hj⟩ := List.getElem?_of_mem hm
  have hl : j < st.length := by
    rw [← r.len]
    rcases Nat.lt_or_ge j α.c.length with q | q
    · exact q
    · rw [List.getElem?_eq_none q] at hj; cases hj
  have := r.cell j _ a (List.getElem?_eq_getElem hl) hj
  cases c : st[j] with
  | lst ds => rw [c] at this; obtain ⟨vs, e, _⟩ := this; rw [h] at e; cases e
  | flst ds => rw [c] at this; obtain ⟨o, vs, e, _⟩ := this; rw [h] at e; cases e
theorem Rel.notIn (r : Rel K α H st) {a : Addr} (h : H a = none) : α.out a := ⟨fun hm => r.has hm h, fun hp => (r.prot a hp).1 h⟩
/-- some other address, that is no cell, is changed -/
theorem Rel.other (r : Rel K α H st) {a : Addr} {o : HO} (n : α.out a) (s : Stab H (L2.upd H a o)) : Rel K α (L2.upd H a o) st :=
  ⟨r.len, r.nd, fun j d b h1 h2 => (r.cell j d b h1 h2).mono s (upd_ne fun e => n.1 (by rw [← e]; exact List.mem_of_getElem? h2)), fun b hb => ⟨upd_some (r.prot b hb).1, (r.prot b hb).2⟩⟩
/-- a new cell -/
theorem Rel.push (r : Rel K α H st) {a : Addr} {c : Cell} (n : α.out a) (hc : RepC K H a c) : Rel K (α.push a) H (st ++ [c]) := by
  refine ⟨by show (α.c ++ [a]).length = _; rw [List.length_append, List.length_append, r.len]; rfl, ?_, fun j d b h1 h2 => ?_, fun b hb => ⟨(r.prot b hb).1, fun hm => ?_⟩⟩
  · show (α.c ++ [a]).Nodup
    rw [List.nodup_append]
    refine ⟨r.nd, List.nodup_cons.mpr ⟨by simp, List.nodup_nil⟩, fun x hx y hy e => ?_⟩
    have : y = a := by simpa using hy
    subst this
    subst e
    exact n.1 hx
  · have h2 : (α.c ++ [a])[j]? = some b := h2
    by_cases hj : j < st.length
    · rw [List.getElem?_append_left hj] at h1
      rw [List.getElem?_append_left (by rw [r.len]; exact hj)] at h2
      exact r.cell j d b h1 h2
    · have hj' : st.length ≤ j := by omega
      rw [List.getElem?_append_right hj'] at h1
      rw [List.getElem?_append_right (by rw [r.len]; exact hj'), r.len] at h2
      cases q : j - st.length with
      | zero =>
        rw [q] at h1 h2
        simp at h1 h2
        subst h1 h2
        exact hc
      | succ k =>
        rw [q] at h1
        simp at h1
  · have hm : b ∈ α.c ++ [a] := hm
    rcases List.mem_append.mp hm with q | q
    · exact (r.prot b hb).2 q
    · have : b = a := by simpa using q
      subst this
      exact n.2 hb
theorem Rel.take (r : Rel K α H st) (n : Nat) : Rel K (α.take n) H (st.take n) := by
  refine ⟨by show (α.c.take n).length = _; rw [List.length_take, List.length_take, r.len], r.nd.sublist (List.take_sublist n α.c), fun j d b h1 h2 => ?_, fun b hb => ⟨(r.prot b hb).1, fun hm => (r.prot b hb).2 (List.mem_of_mem_take hm)⟩⟩
  have h2 : (α.c.take n)[j]? = some b := h2
  rw [List.getElem?_take] at h1 h2
  split at h1
  · rename_i hj
    rw [if_pos hj] at h2
    exact r.cell j d b h1 h2
  · cases h1
/-- other things are kept safe -/
theorem Rel.keep (r : Rel K α H st) {p : Addr → Prop} (h : ∀ a, p a → H a ≠ none ∧ a ∉ α.c) : Rel K ⟨α.c, p⟩ H st := ⟨r.len, r.nd, r.cell, h⟩
theorem EnvR.keep (h : EnvR K α H env σ) (p : Addr → Prop) : EnvR K ⟨α.c, p⟩ H env σ := by
  refine ⟨h.len, fun i v e => ?_⟩
  obtain ⟨n, u, h1, h2⟩ := h.get i v e
  refine ⟨n, u, h1, ?_⟩
  cases v with
  | d d => exact h2
  | ref i => exact h2
  | new ds => cases n
end
end Pv

/-! The judgements, and the operators' soundness. -/
namespace Pv
open PySem PySem.Spec PyProof.Rows L2

/-! ### the weakest readings -/
section
variable (X : Cx)
def SE (e : Expr) : TE := fun σ H Q => ∃ t, PE X e t ∧ t σ H Q
def SA (es : List Expr) : TA := fun σ H Q => ∃ t, PA X es t ∧ t σ H Q
def ST (e : Expr) : TT := fun σ H Q => ∃ t, PT X e t ∧ t σ H Q
def SW (e : Expr) : TT := fun σ H Q => ∃ t, PW X e t ∧ t σ H Q
def SC (es : List Expr) : TT := fun σ H Q => ∃ t, PTs X es t ∧ t σ H Q
def SS (s : Stmt) : TS := fun D σ H => ∃ t, PS X s t ∧ t D σ H
def SSs (s : List Stmt) : TS := fun D σ H => ∃ t, PSs X s t ∧ t D σ H
def SG (e : Expr) : TG := fun v σ H Q => ∃ t, PG X e t ∧ t v σ H Q
def SGs (es : List Expr) : TGs := fun v σ H Q => ∃ t, PGs X es t ∧ t v σ H Q
def SI (tg e : Expr) : TI := fun σ H R => ∃ t, PI X tg e t ∧ t σ H R
end
section
variable {X : Cx}
theorem pe_SE {e : Expr} : PE X e (SE X e) := ⟨fun pins s σ H Q I ⟨_, p, h⟩ => p.run pins s σ H Q I h⟩
theorem pa_SA {es : List Expr} : PA X es (SA X es) := ⟨fun pos pins s σ H Q I ⟨_, p, h⟩ => p.run pos pins s σ H Q I h⟩
theorem pt_ST {e : Expr} : PT X e (ST X e) := ⟨fun pins s σ H Q I ⟨_, p, h⟩ => p.run pins s σ H Q I h⟩
theorem pw_SW {e : Expr} : PW X e (SW X e) := ⟨fun wh pins s σ H Q I ⟨_, p, h⟩ => p.run wh pins s σ H Q I h⟩
theorem pts_SC {es : List Expr} : PTs X es (SC X es) := ⟨fun pins s σ H Q I ⟨_, p, h⟩ => p.run pins s σ H Q I h⟩
theorem ps_SS {s : Stmt} : PS X s (SS X s) := ⟨fun pins st σ H D I ⟨_, p, h⟩ => p.run pins st σ H D I h⟩
theorem pss_SSs {s : List Stmt} : PSs X s (SSs X s) := ⟨fun pins st σ H D I ⟨_, p, h⟩ => p.run pins st σ H D I h⟩
theorem pg_SG {e : Expr} : PG X e (SG X e) := ⟨fun pins s σ H v u Q I r ⟨_, p, h⟩ => p.run pins s σ H v u Q I r h⟩
theorem pgs_SGs {es : List Expr} : PGs X es (SGs X es) := ⟨fun pins s σ H vs us Q I r ⟨_, p, h⟩ => p.run pins s σ H vs us Q I r h⟩
theorem pi_SI {tg e : Expr} : PI X tg e (SI X tg e) := ⟨fun pins s σ H R I ⟨_, p, h⟩ => p.run pins s σ H R I h⟩
end

/-! ### what is wanted of a result -/
def PostR {α : Type} (K : Frag) (mg : Str → Option Value) (al : Al) (H : Hp) (Ex : Value → Hp → Prop) (P : α → Store → Hp → Prop) : R α → Prop
  | .ok v s => ∀ H', Rel K al H' s → Ext al H al H' → P v s H'
  | .exc c s => ∀ H' C, Rel K al H' s → Ext al H al H' → mg (Str.ofString c) = some C → Ex C H'
  | .err => False
section
variable {α β : Type} {K : Frag} {mg : Str → Option Value} {al : Al} {H H1 : Hp} {Ex : Value → Hp → Prop}
theorem PostR.bind {P : β → Store → Hp → Prop} {r : R α} {f : α → Store → R β} (h : PostR K mg al H Ex P (r.bind f)) : PostR K mg al H Ex (fun v s H1 => PostR K mg al H1 Ex P (f v s)) r := by
  cases r with
  | ok v s =>
    intro H1 r1 x1
    have h : PostR K mg al H Ex P (f v s) := h
    show PostR K mg al H1 Ex P (f v s)
    cases e : f v s with
    | ok w s2 => rw [e] at h; exact fun H2 r2 x2 => h H2 r2 (x1.trans x2)
    | exc c s2 => rw [e] at h; exact fun H2 C r2 x2 m => h H2 C r2 (x1.trans x2) m
    | err => rw [e] at h; exact h
  | exc c s => exact h
  | err => exact h
theorem PostR.imp {P P' : α → Store → Hp → Prop} {r : R α} (h : PostR K mg al H Ex P r) (f : ∀ v s H', Rel K al H' s → Ext al H al H' → P v s H' → P' v s H') : PostR K mg al H Ex P' r := by
  cases r with
  | ok v s => exact fun H' r x => f v s H' r x (h H' r x)
  | exc c s => exact h
  | err => exact h
theorem PostR.ext {P : α → Store → Hp → Prop} {r : R α} (x1 : Ext al H al H1) (h : PostR K mg al H Ex P r) : PostR K mg al H1 Ex P r := by
  cases r with
  | ok v s => exact fun H2 r2 x2 => h H2 r2 (x1.trans x2)
  | exc c s => exact fun H2 C r2 x2 m => h H2 C r2 (x1.trans x2) m
  | err => exact h
end

/-! ### the context -/
def bltNames : List Str := ["len", "tuple", "list", "sorted", "max", "min", "sum", "abs", "int", "ord", "str", "any", "all", "isinstance", "bool", "range", "enumerate", "zip", "set", "dict"]
/-- a body's (or a block's) context stands -/
structure Good (N : List Str) (sc : Scope) (k : Nat) (X : Cx) : Prop where
  n : X.N = N
  nd : N.Nodup
  calm : X.calm = true
  room : Room k X.A
  vis : ∀ x, vis sc x = true → Vis X.env.scope x
  loc : ∀ x, locl sc x = true → Loc X.env.scope x ∧ (X.fn x = true ∨ X.env.scope.names.lookup x = some .local)
  lcl : ∀ x, sc.names.lookup x = some .local → X.env.scope.names.lookup x = some .local
  cel : ∀ x, sc.names.lookup x = some .cell → X.env.scope.names.lookup x = some .cell
  gl : ∀ x, gl sc x = true → Gl X x
  fre : ∀ x, (sc.names.lookup x = some .cell ∨ sc.names.lookup x = some .free) → X.env.scope.names.lookup x = some .cell ∨ X.env.scope.names.lookup x = some .free
  knd : X.env.scope.kind = .function
/-- a def's promise: the core's call -/
def spOf (K : Frag) (mg : Str → Option Value) (call : String → List Val → Store → R Val) (f : String) : Sp := fun vs H Q E =>
  ∃ (al : Al) (args : List Val) (st : Store), Rel K al H st ∧ RepVs K al H args vs ∧ (∀ a ∈ args, isNew a = false) ∧
    PostR K mg al H (fun C H' => E C none H') (fun v _ H' => ∀ u, RepV K al H' v u → Q u H') (call f args st)
/-- the class that a name stands for -/
inductive ClsV (mg : Str → Option Value) (x : Str) : V → Value → Prop
  | own (C : Addr) : mg x = some (.ref C) → ClsV mg x (.ref C) (.ref C)
  | blt (T : String) : mg x = none → bootBuiltins x = some (.type T) → x ≠ "__name__" → ClsV mg x (.ty T) (.type T)
/-- what the program's top has left -/
structure Tab (cx : Cxt) (k : Nat) (P : Program) (w : World) (K : Frag) (mg : Str → Option Value) (base : Heap) : Prop where
  fn : ∀ f, cx.has f = true → ∃ fa fd ps, mg (Str.ofString f) = some (.ref fa) ∧ PySem.W.keepIn K (.ref fa) = true ∧ Binds K fd ps [] ∧ FnOk P w K mg base (L2.CX P w) k fa fd ps (spOf K mg cx.call f)
  glob : ∀ g d, cx.glob g = some d → ∃ v u, mg (Str.ofString g) = some u ∧ RelV v u ∧ ∀ H, RepD K H d v
  blt : ∀ n ∈ bltNames, mg n = none
  isx : ∀ c, cx.isx c = true → ∃ C, mg (Str.ofString c) = some (.ref C) ∧ PySem.W.excIn K C [.type "ValueError", .type "Exception", .type "BaseException", .type "object"] "ValueError.__new__" = true ∧ PySem.W.keepIn K (.ref C) = true ∧ PySem.W.subIn K (.ref C) (.type "BaseException") = some true ∧ PySem.W.typeIn K (.ref C) = some (.type "type")
  sub : ∀ c t b, cx.sub c t = some b → ∃ C v u, mg (Str.ofString c) = some (.ref C) ∧ ExcC K C ∧ ClsV mg (Str.ofString t) v u ∧ PySem.W.kitOne K (.ref C) u = some b
  hnd : ∀ c t b, cx.hnd c t = some b → ∃ C D, mg (Str.ofString c) = some (.ref C) ∧ mg (Str.ofString t) = some (.ref D) ∧ PySem.W.exmOne K (.ref C) (.ref D) = some b
  knd : ∀ f cs, cx.knd f = some cs → ∃ (d : Kd) (fa : Addr) (fd : FuncData) (qual : Str) (st : Stmt), cs = d.cs ∧ mg (Str.ofString f) = some (.ref fa) ∧ Fun K (Str.ofString f) qual st fa fd ∧ chkKd d st = true ∧ Binds K fd [Str.ofString d.p] []

section
variable {N : List Str} {sc : Scope} {k : Nat} {X : Cx}
theorem plain1 {x : Str} (h : plainName x = true) : (x == ("__debug__" : Str)) = false ∧ (x == ("__classdict__" : Str)) = false ∧ x ≠ "__name__" := by
  unfold plainName at h
  simp only [Bool.and_eq_true, Bool.not_eq_true'] at h
  exact ⟨h.1.1, h.1.2, fun e => by have := h.2; rw [e] at this; simp at this⟩
theorem Good.var (g : Good N sc k X) {i : Nat} {x : Str} {p : Pos} (h : isVar N sc i x = true) : PE X (.Name x p) (tVar i) := by
  unfold isVar at h
  simp only [Bool.and_eq_true, decide_eq_true_eq] at h
  obtain ⟨h1, h2, _⟩ := plain1 h.2
  exact pe_var (by rw [g.n]; exact h.1.1) (g.vis x h.1.2) h1 h2
end

/-! ### values from values -/
section
variable {K : Frag} {al : Al} {H : Hp} {st : Store}
/-- a list, as it is read -/
theorem lst_sq (r : Rel K al H st) {v : Val} {u : V} {xs : List D} (h : RepW K al H v u) (e : lstOf v st = some xs) : ∃ a vs, u = .ref a ∧ SqL K H a vs ∧ RepDs K H xs vs := by
  cases v with
  | d d =>
    cases d with
    | lst ys =>
      cases e
      cases h with
      | lst h1 h2 => exact ⟨_, _, rfl, h1.sq, h2⟩
    | _ => cases e
  | ref i =>
    unfold lstOf at e
    cases q : st[i]? with
    | none => simp only [q] at e; cases e
    | some c =>
      simp only [q] at e
      cases e
      obtain ⟨a, ha, rfl⟩ := h
      obtain ⟨vs, h1, h2⟩ := (r.cell i c a q ha).items
      exact ⟨a, vs, rfl, h1, h2⟩
  | new ys =>
    cases e
    obtain ⟨a, vs, rfl, h1, _, h2⟩ := h
    exact ⟨a, vs, rfl, .inl h1, h2⟩
theorem seq_sq (r : Rel K al H st) {v : Val} {u : V} {xs : List D} (h : RepW K al H v u) (e : seqOf v st = some xs) : ∃ a vs, u = .ref a ∧ (SqL K H a vs ∨ SqT K H a vs) ∧ RepDs K H xs vs := by
  by_cases c : ∃ ys, v = .d (.tup ys)
  · obtain ⟨ys, rfl⟩ := c
    cases e
    cases h with
    | tup h1 h2 => exact ⟨_, _, rfl, .inr h1, h2⟩
  · have e' : lstOf v st = some xs := by
      rw [← e]
      unfold seqOf
      split
      · rename_i zs
        exact absurd ⟨zs, rfl⟩ c
      · rfl
    obtain ⟨a, vs, h1, h2, h3⟩ := lst_sq r h e'
    exact ⟨a, vs, h1, .inl h2, h3⟩
theorem peek_dp (r : Rel K al H st) {v : Val} {u : V} {d : D} (h : RepW K al H v u) (e : peek v st = some d) : Dp K H u (toPy d) := by
  cases v with
  | d d' => cases e; exact RepD.dp h
  | ref i =>
    unfold peek at e
    cases q : st[i]? with
    | none => simp only [q] at e; cases e
    | some c =>
      simp only [q] at e
      cases e
      obtain ⟨a, ha, rfl⟩ := h
      obtain ⟨vs, h1, h2⟩ := (r.cell i c a q ha).items
      exact .lst h1 h2.dp
  | new ys =>
    cases e
    obtain ⟨a, vs, rfl, h1, _, h2⟩ := h
    exact .lst (.inl h1) h2.dp
/-- a scalar -/
theorem peek_flat {v : Val} {u : V} {d : D} (h : RepW K al H v u) (e : peek v st = some d) (f : flatD d = true) : v = .d d := by
  cases v with
  | d d' => cases e; rfl
  | ref i =>
    unfold peek at e
    cases q : st[i]? with
    | none => simp only [q] at e; cases e
    | some c => simp only [q] at e; cases e; cases f
  | new ys => cases e; cases f
theorem scal_flat {a b : D} (h : scalD a b = true) : flatD a = true ∧ flatD b = true := by
  cases a <;> cases b <;> first | exact ⟨rfl, rfl⟩ | cases h
theorem scal_rep {a b : D} {u w : V} (h : scalD a b = true) (ra : RepD K H a u) (rb : RepD K H b w) : scal u w = true ∧ decide (u = w) = decide (a = b) := by
  have inj : ∀ x y : Tx, txt x = txt y → x = y := fun x y e => by
    have e : x.toArray = y.toArray := congrArg Str.cps e
    simpa using e
  cases ra <;> cases rb <;> first
    | (simp [scalD] at h; done)
    | (refine ⟨rfl, ?_⟩; simp; done)
    | (refine ⟨rfl, ?_⟩
       rename_i x y
       by_cases e : x = y
       · subst e; simp
       · have e' : ¬ txt x = txt y := fun q => e (inj _ _ q)
         simp [e, e'])
/-- the shutting of a cell: the model's heap stands, the abstract one says that it is shut -/
theorem shut_ok {X : Cx} {pins : List (Addr × Obj)} {σ : L2.St} {H : Hp} {s : Shared} {a : Addr} {vs : List V} (I : Inv X pins σ H s) (h : H a = some (.lst vs)) :
    ∃ o, Inv X pins σ (upd H a (.frz o (.lst vs))) s := by
  obtain ⟨hz, its, n, r, e⟩ := (show ObjOk X.prog X.w H s.heap a (.lst vs) from I.hok a _ h)
  refine ⟨{ cls := .type "list", data := .seq its.toArray n }, ?_⟩
  have ne : ∀ b u, H b = some u → (∀ ys, u ≠ .lst ys) → b ≠ a := fun b u q n z => by subst z; rw [h] at q; exact n vs (Option.some.inj q).symm
  have hok : HOk X.prog X.w (upd H a (.frz { cls := .type "list", data := .seq its.toArray n } (.lst vs))) s.heap := fun b u q => by
    by_cases hb : b = a
    · subst hb
      rw [upd_same] at q
      cases q
      exact ⟨e, hz, its, n, r, e⟩
    · rw [upd_ne hb] at q
      refine (I.hok b u q).stay (fun _ _ _ z => z) (fun c z => ?_) (fun c xs z => ?_)
      · rw [upd_ne (ne c _ z (fun ys w => by cases w))]; exact z
      · rw [upd_ne (ne c _ z (fun ys w => by cases w))]; exact z
  have un : Un X.fs [] H (upd H a (.frz { cls := .type "list", data := .seq its.toArray n } (.lst vs))) s.heap s.heap := by
    refine ⟨fun b o q _ _ _ => q, fun b o q _ _ _ => ⟨o.slots, q⟩, fun b o q n _ => ?_, fun b o q _ => ⟨o, q⟩, fun b xs q => ?_, fun b o u q => ?_, fun b ps q => ⟨#[], ?_⟩⟩
    · rw [upd_ne (fun z => by subst z; rw [h] at n; cases n)]; exact n
    · rw [upd_ne (ne b _ q (fun ys w => by cases w))]; exact q
    · rw [upd_ne (ne b _ q (fun ys w => by cases w))]; exact q
    · rw [upd_ne (ne b _ q (fun ys w => by cases w)), q]; simp
  exact I.un (t' := s.toks) un hok
end
end Pv

/-! Operators, comparisons, subscripts, built-ins, methods: by the values. -/
namespace Pv
open PySem PySem.Spec PyProof.Rows L2 TL

section
variable (X : Cx)
def SO (f : Value → Value → Sem Value) : R2 := fun x y H Q => ∃ r, OpR X f r ∧ r x y H Q
def SX : R2 := fun x y H Q => ∃ r, IxR X r ∧ r x y H Q
def SCl (f : Value) : List V → Hp → VK → Prop := fun xs H Q => ∃ r, CallR X f r ∧ r xs H Q
end
section
variable {X : Cx}
theorem op_SO {f : Value → Value → Sem Value} : OpR X f (SO X f) := fun pins s σ H x y v u Q I rx ry ⟨_, h, q⟩ => h pins s σ H x y v u Q I rx ry q
theorem ix_SX : IxR X (SX X) := fun value slice pins s σ H x y v u Q I rx ry ⟨_, h, q⟩ hs => h value slice pins s σ H x y v u Q I rx ry q hs
theorem cl_SC {f : Value} : CallR X f (SCl X f) := fun pins s σ H xs us Q I r ⟨_, h, q⟩ => h pins s σ H xs us Q I r q

theorem op_catL : OpR X (binaryOp .Add) (fun x y H Q => ∃ l b xs zs, x = .ref l ∧ y = .ref b ∧ SqL X.K H l xs ∧ SqL X.K H b zs ∧ xs.length + zs.length ≤ sizeLine ∧ ∀ p, H p = none → Q (.ref p) (upd H p (.lst (xs ++ zs)))) := by
  intro pins s σ H x y v u Q I rx ry h
  obtain ⟨l, b, xs, zs, rfl, rfl, hH, hB, hz, q⟩ := h
  cases rx
  cases ry
  obtain ⟨vs, r, pl, _⟩ := I.list hH
  obtain ⟨ws, r2, pb, _⟩ := I.list hB
  obtain ⟨⟨cls, dd, data, sl⟩, ho, hc, n, hd⟩ := pl.isList
  obtain ⟨⟨cls2, dd2, data2, sl2⟩, ho2, hc2, n2, hd2⟩ := pb.isList
  simp only at hc hd hc2 hd2
  subst hc hd hc2 hd2
  have e : vs.toArray ++ ws.toArray = (vs ++ ws).toArray := by simp
  have l1 := r.length
  have l2 := r2.length
  refine concat_meets ⟨_, ho, rfl⟩ ⟨_, ho2, rfl⟩ noFill_list_add seq_list_add PySem.F.slot_list_add PySem.F.entry_list_add (PySem.F.args_list_add_2 _ _) (list_addW l b vs.toArray ws.toArray n n2 dd dd2 sl sl2 (by simp only [List.size_toArray]; omega)) ⟨ho, ho2, ?_⟩
  rw [e]
  exact ⟨.ref _, _, I.lnew (t' := s.toks) (r.append r2) (by rw [List.length_append]; omega), rfl, q _ I.fresh⟩
theorem op_repR : OpR X (binaryOp .Mult) (fun x y H Q => ∃ l k xs, x = .ref l ∧ y = .int k ∧ Rd H l (.lst xs) ∧ -(2 ^ 63) ≤ k ∧ k < 2 ^ 63 ∧ xs.length * k.toNat ≤ sizeLine ∧
    ∀ p, H p = none → Q (.ref p) (upd H p (.lst (List.replicate k.toNat xs).flatten))) := by
  intro pins s σ H x y v u Q I rx ry h
  obtain ⟨l, k, xs, rfl, rfl, hH, h1, h2, hz, q⟩ := h
  cases rx
  obtain ⟨t, rfl⟩ := ry
  obtain ⟨z, its, n, r, e⟩ := (show ObjOk X.prog X.w H s.heap l (.lst xs) from hH.ok I.hok)
  have hl := r.length
  have hlen : its.toArray.size * k.toNat ≤ sizeLine := by rw [List.size_toArray, ← hl]; exact hz
  have hcap : ¬ its.toArray.size * k.toNat > (2 ^ 63 - 1) / 8 := by
    have : (sizeLine : Nat) ≤ (2 ^ 63 - 1) / 8 := by decide
    omega
  have hfit : ¬ (!Builtin.List.listFitsIndex k) = true := by
    rw [fitsIndex_both h1 h2]
    exact Bool.false_ne_true
  have hlong : ¬ Builtin.List.listTooLong (its.toArray.size * k.toNat) = true := by
    rw [notLongL hlen]
    exact Bool.false_ne_true
  have hnew : List.foldl (fun x1 x2 => x1 ++ x2) #[] (List.replicate (if its.toArray.isEmpty = true then 0 else k.toNat) its.toArray) = (List.replicate k.toNat its).flatten.toArray := by
    have f0 : ∀ m : Nat, List.foldl (fun x1 x2 => x1 ++ x2) #[] (List.replicate m its.toArray) = (List.replicate m its).flatten.toArray := fun m => by
      have := foldl_rep its m []
      rw [List.nil_append] at this
      exact this
    rw [f0]
    cases its with
    | nil => simp
    | cons a r' => rw [if_neg (by simp)]
  refine wpAny_binaryOp_repeat_ref (T := "list") (U := "int") (by decide) ⟨_, e, rfl⟩ (fun s' => typeIs_int s' k t) noFill_list_mul F.fills_int_mul F.slot_int_rmul repeat_list F.slot_int_index.lookup
    (call_meets F.slot_int_rmul (typeIs_int s k t) F.entry_int_rmul (F.args_int_rmul_2 _ _) (int___rmul___int_list k t l its.toArray n)
      ⟨e, rfl, ⟨_, e, rfl⟩, call_meets F.slot_list_mul ⟨_, e, rfl⟩ F.entry_list_mul (F.args_list_mul_2 _ _) (AutoListH.list___mul___list_int_3 l its.toArray n k t hfit hcap hlong) ⟨e, ?_⟩⟩)
  rw [hnew]
  exact ⟨.ref _, _, I.lnew (t' := s.toks) (r.rep k.toNat) (by rw [PyProof.Rows.lm_len_rep_flat, Nat.mul_comm]; exact hz), rfl, q _ I.fresh⟩
end

section
variable {X : Cx}
theorem rep_cps (a : Tx) : ∀ k : Nat, (List.replicate k (txt a).cps).foldl (· ++ ·) #[] = (List.replicate k a).flatten.toArray := fun k => by
  have f0 : ∀ (m : Nat) (acc : Tx), List.foldl (· ++ ·) acc.toArray (List.replicate m (txt a).cps) = (acc ++ (List.replicate m a).flatten).toArray := fun m => by
    induction m with
    | zero => intro acc; simp
    | succ m ih =>
      intro acc
      rw [List.replicate_succ, List.replicate_succ, List.foldl_cons, List.flatten_cons]
      have e : acc.toArray ++ (txt a).cps = (acc ++ a).toArray := by
        show acc.toArray ++ a.toArray = _
        simp
      rw [e, ih, List.append_assoc]
  have := f0 k []
  rw [List.nil_append] at this
  exact this
theorem rep_len (a : Tx) : ∀ k : Nat, (List.replicate k a).flatten.length = k * a.length
  | 0 => by simp
  | k + 1 => by rw [List.replicate_succ, List.flatten_cons, List.length_append, rep_len a k, Nat.succ_mul, Nat.add_comm]
theorem op_mulS : OpR X (binaryOp .Mult) (fun x y H Q => ∃ (a : Tx) (k : Int), x = .str (txt a) ∧ y = .int k ∧ a.length * k.toNat ≤ sizeLine ∧ k < 9223372036854775808 ∧ -9223372036854775808 ≤ k ∧ Q (.str (txt (List.replicate k.toNat a).flatten)) H) := by
  intro pins s σ H x y v u Q I rx ry h
  obtain ⟨a, k, rfl, rfl, h1, h2, h3, q⟩ := h
  obtain ⟨t, rfl⟩ := rx
  obtain ⟨tu, rfl⟩ := ry
  have e63 : (2 : Int) ^ 63 = 9223372036854775808 := by decide
  have ln : (txt a).length = a.length := rfl
  have sl : sizeLine = 16777216 := by rw [sizeLine_eq]
  have done : ∀ (z : Tx) (tk : Nat) (t' : Tok), z = (List.replicate k.toNat a).flatten → EP X pins σ Q (.str (txt z) t') { s with toks := tk } := fun z tk t' e => by
    subst e
    exact ⟨.str _, H, I.tok tk, ⟨t', rfl⟩, q⟩
  refine PySem.P.mul_str ?_ ?_ ?_ ?_
  · rw [decide_eq_false (by omega), decide_eq_false (by omega)]
    rfl
  · intro c1 c2 c3
    simp only [Bool.or_eq_false_iff, beq_eq_false_iff_ne, ne_eq] at c2
    have kp : 1 ≤ k.toNat := by omega
    have h5 : a.length ≤ 16777216 := Nat.le_trans (Nat.le_trans (Nat.le_of_eq (Nat.mul_one _).symm) (Nat.mul_le_mul_left _ kp)) (by rw [← sl]; exact h1)
    have h6 : a.length * k.toNat ≤ 16777216 := by rw [← sl]; exact h1
    rw [ln] at c2 c3
    have h7 : 1 ≤ a.length := by omega
    have h8 : k.toNat ≤ 16777216 := Nat.le_trans (Nat.le_trans (Nat.le_of_eq (Nat.one_mul _).symm) (Nat.mul_le_mul_right _ h7)) h6
    have h9 : ((a.length * k.toNat : Nat) : Int) ≤ 2 ^ 63 - 1 := by omega
    have h10 : (a.length : Int) ≤ (2 ^ 63 - 1) / k := by
      rw [Int.le_ediv_iff_mul_le (by omega)]
      have : ((a.length * k.toNat : Nat) : Int) = (a.length : Int) * k := by
        rw [Int.natCast_mul, Int.toNat_of_nonneg (by omega)]
      omega
    omega
  · intro c1 c2
    show decide (_ > _) = false
    rw [ln]
    exact decide_eq_false (by omega)
  · by_cases c : k < 1
    · rw [if_pos c]
      have e : k.toNat = 0 := by omega
      exact ⟨by decide, done [] _ _ (by rw [e]; rfl)⟩
    · rw [if_neg c]
      by_cases c2 : (k == 1 || (txt a).length == 0) = true
      · rw [if_pos c2]
        have e : a = (List.replicate k.toNat a).flatten := by
          simp only [Bool.or_eq_true, beq_iff_eq] at c2
          rcases c2 with c2 | c2
          · subst c2
            simp
          · rw [ln] at c2
            have : a = [] := List.eq_nil_of_length_eq_zero c2
            subst this
            simp
        exact done a s.toks t e
      · rw [if_neg c2, rep_cps]
        refine ⟨?_, done _ _ _ rfl⟩
        show (List.replicate k.toNat a).flatten.toArray.size ≤ _
        rw [List.size_toArray, rep_len, Nat.mul_comm]
        exact h1
end
theorem line_eq : line = sizeLine := by rw [sizeLine_eq]; rfl
theorem txt_len (x : Tx) : (txt x).length = x.length := by
  show x.toArray.size = x.length
  rw [List.size_toArray]
theorem txt_app (x y : Tx) : txt x ++ txt y = txt (x ++ y) := ext_tl (by rw [tl_append]; rfl)
theorem txt_tl (x : Tx) : (txt x).cps.toList = x := rfl
theorem txt1 (c : Nat) : (⟨#[c]⟩ : Str) = txt [c] := rfl

section
variable {X : Cx} {mg : Str → Option Value} {al : Al} {H : Hp} {st : Store} {Ex : Value → Hp → Prop} {Q : VK}
/-- an end that lays nothing -/
theorem fin0 {α : Type} {P : α → Store → Hp → Prop} {v : α} (r : Rel X.K al H st) (h : PostR X.K mg al H Ex P (.ok v st)) : P v st H := h H r (Ext.refl _ _)
/-- .. a new list -/
theorem finL {xs : List D} {vs : List V} (r : Rel X.K al H st) (h : PostR X.K mg al H Ex (fun v _ H' => ∀ u, RepV X.K al H' v u → Q u H') (.ok (.new xs) st)) (rd : RepDs X.K H xs vs) : ∀ p, H p = none → Q (.ref p) (upd H p (.lst vs)) := fun p hp =>
  h _ (r.ext_new hp) (ext_new hp) _ ⟨p, vs, rfl, upd_same, r.notIn hp, rd.mono (stab_new hp)⟩
/-- .. a new tuple -/
theorem finT {xs : List D} {vs : List V} (r : Rel X.K al H st) (h : PostR X.K mg al H Ex (fun v _ H' => ∀ u, RepV X.K al H' v u → Q u H') (.ok (.d (.tup xs)) st)) (rd : RepDs X.K H xs vs) : ∀ p, H p = none → Q (.ref p) (upd H p (.tup vs)) := fun p hp =>
  h _ (r.ext_new hp) (ext_new hp) _ (RepD.tup (.inl (.inl upd_same)) (rd.mono (stab_new hp)))

theorem okMul_ok {i j : Int} (h : okMul i j = true) : CMul i j ∨ CMulW i j := by
  unfold okMul at h
  simp only [Bool.or_eq_true, Bool.and_eq_true, decide_eq_true_eq] at h
  unfold CMul CMulW
  rcases h with (h | h) | h
  · exact .inl (.inl ⟨by omega, by omega⟩)
  · exact .inl (.inr ⟨by omega, by omega⟩)
  · exact .inr h
def CShl (i j : Int) : Prop := 0 ≤ j ∧ j ≤ 1000000 ∧ i.natAbs.log2 < 1000000
theorem op_shlW : OpR X (binaryOp .LShift) (rI CShl fun i j => .int (i * 2 ^ j.toNat)) := opI fun i j _ _ _ _ _ hc q => by
  obtain ⟨h1, h2, h3⟩ := hc
  have b : Builtin.Int.intBits i ≤ i.natAbs.log2 + 1 := by
    unfold Builtin.Int.intBits
    split <;> omega
  have e : (2 : Int) ^ 27 = 134217728 := by decide
  exact lshift_int h1 (by rw [e]; omega) q
theorem okShl_ok {i j : Int} (h : okShl i j = true) : CShl i j := by
  unfold okShl at h
  simp only [Bool.and_eq_true, decide_eq_true_eq] at h
  exact ⟨h.1.1, h.1.2, h.2⟩
theorem okDiv_ok {i j : Int} (h : okDiv j = true) : CDivW i j := by
  unfold okDiv at h
  simp only [Bool.and_eq_true, decide_eq_true_eq] at h
  exact h
theorem okPow_ok {i j : Int} (h : okPow i j = true) : CPow i j := by
  unfold okPow at h
  simp only [Bool.and_eq_true, decide_eq_true_eq] at h
  exact ⟨h.1.1.1, h.1.1.2, by omega⟩
theorem binI_ok {o : Bop} {p : Operator} (hp : isBop o p = true) {i j k : Int} (e : binI o i j = some k) (q : Q (.int k) H) : SO X (binaryOp p) (.int i) (.int j) H Q := by
  cases o <;> cases p <;> first
    | (cases hp; done)
    | skip
  all_goals (simp only [binI] at e)
  · cases e; exact ⟨_, op_add, _, _, rfl, rfl, q⟩
  · cases e; exact ⟨_, op_sub, _, _, rfl, rfl, q⟩
  · split at e
    · rename_i c; cases e; rcases okMul_ok c with c | c
      · exact ⟨_, op_mul, _, _, rfl, rfl, c, q⟩
      · exact ⟨_, op_mulW, _, _, rfl, rfl, c, q⟩
    · cases e
  · split at e
    · rename_i c; cases e; exact ⟨_, op_fdivW, _, _, rfl, rfl, okDiv_ok c, q⟩
    · cases e
  · split at e
    · rename_i c; cases e; exact ⟨_, op_mod, _, _, rfl, rfl, c, q⟩
    · cases e
  · split at e
    · rename_i c; cases e; exact ⟨_, op_pow, _, _, rfl, rfl, okPow_ok c, q⟩
    · cases e
  · split at e
    · rename_i c; cases e; exact ⟨_, op_shlW, _, _, rfl, rfl, okShl_ok c, q⟩
    · cases e
  · split at e
    · rename_i c; cases e; exact ⟨_, op_shr, _, _, rfl, rfl, c, q⟩
    · cases e
  · cases e; exact ⟨_, op_and, _, _, rfl, rfl, q⟩
  · cases e; exact ⟨_, op_or, _, _, rfl, rfl, q⟩
  · cases e; exact ⟨_, op_xor, _, _, rfl, rfl, q⟩
theorem bin_ok {o : Bop} {p : Operator} (hp : isBop o p = true) (r : Rel X.K al H st) {x y : Val} {u w : V} (rx : RepW X.K al H x u) (ry : RepW X.K al H y w)
    (h : PostR X.K mg al H Ex (fun v _ H' => ∀ u, RepV X.K al H' v u → Q u H') (binV o x y st)) : SO X (binaryOp p) u w H Q := by
  unfold binV at h
  split at h
  · rename_i i j
    cases rx
    cases ry
    split at h
    · rename_i k e
      exact binI_ok hp e (fin0 r h _ (.int k))
    · exact h.elim
  · rename_i a b
    cases rx
    cases ry
    split at h
    · split at h
      · rename_i c
        cases p <;> first | (cases hp; done) | skip
        have q := fin0 r h _ (.str _)
        rw [← txt_app] at q
        exact ⟨_, op_add_str, _, _, rfl, rfl, by rw [txt_len, txt_len, ← line_eq]; exact c, q⟩
      · exact h.elim
    · exact h.elim
  · rename_i a b
    cases rx with
    | tup a1 a2 =>
      cases ry with
      | tup b1 b2 =>
        split at h
        · split at h
          · rename_i c
            cases p <;> first | (cases hp; done) | skip
            have la := a2.length
            have lb := b2.length
            refine ⟨_, op_catA, _, _, _, _, rfl, rfl, a1, b1, by rw [← la, ← lb, ← line_eq]; exact c, fun e => ?_, fun _ e => ?_, fun _ _ => finT r h (a2.append b2)⟩
            · subst e
              cases a2
              exact fin0 r h _ (.tup b1 b2)
            · subst e
              cases b2
              have q := fin0 r h
              rw [List.append_nil] at q
              exact q _ (.tup a1 a2)
          · exact h.elim
        · exact h.elim
  · split at h
    · split at h
      · rename_i a b ea eb
        split at h
        · rename_i c
          obtain ⟨_, va, rfl, h1, d1⟩ := lst_sq r rx ea
          obtain ⟨_, vb, rfl, h2, d2⟩ := lst_sq r ry eb
          cases p <;> first | (cases hp; done) | skip
          refine ⟨_, op_catL, _, _, _, _, rfl, rfl, h1, h2, by rw [← d1.length, ← d2.length, ← line_eq]; exact c, finL r h (d1.append d2)⟩
        · exact h.elim
      · exact h.elim
    · split at h
      · split at h
        · rename_i c
          obtain ⟨a, vs, rfl, ha, _, rd⟩ := rx
          cases ry
          cases p <;> first | (cases hp; done) | skip
          obtain ⟨c1, c2, c3⟩ := c
          exact ⟨_, op_repR, _, _, _, rfl, rfl, ha, c3, c2, by rw [← rd.length, ← line_eq]; exact c1, finL r h (rd.rep _)⟩
        · exact h.elim
      · split at h
        · rename_i c
          cases rx
          cases ry
          cases p <;> first | (cases hp; done) | skip
          obtain ⟨c1, c2, c3⟩ := c
          exact ⟨_, op_mulS, _, _, rfl, rfl, by rw [← line_eq]; exact c1, c2, c3, fin0 r h _ (.str _)⟩
        · exact h.elim
      · exact h.elim
    · exact h.elim
end
end Pv

/-! Comparisons, subscripts, slices, built-ins, methods: by the values. -/
namespace Pv
open PySem PySem.Spec PyProof.Rows L2 TL

theorem ltCps_eq : ∀ x y : Tx, ltCps x y = ltT x y
  | [], [] => by simp [ltCps, ltT]
  | [], _ :: _ => by simp [ltCps, ltT]
  | _ :: _, [] => by simp [ltCps, ltT]
  | a :: r, b :: t => by
    unfold ltCps
    rw [ltCps_eq r t]
    unfold ltT
    by_cases h : a < b
    · have : a :: r < b :: t := List.cons_lt_cons_iff.mpr (.inl h)
      simp [h, this]
    · by_cases e : a = b
      · subst e
        have q : (a :: r < a :: t) ↔ r < t := by rw [List.cons_lt_cons_iff]; simp
        simp [q]
      · have : ¬ a :: r < b :: t := fun q => by
          rcases List.cons_lt_cons_iff.mp q with z | z
          · exact h z
          · exact e z.1
        simp [h, e, this]
theorem rising_pw : ∀ (l : List Tx) (p : Tx), risingS (txt p) (l.map txt) = true → (p :: l).Pairwise (leG ltT)
  | [], p, _ => List.pairwise_singleton _ _
  | x :: r, p, h => by
    rw [List.map_cons] at h
    unfold risingS at h
    simp only [Bool.and_eq_true, Bool.not_eq_true'] at h
    have h1 : leG ltT p x := by
      have q := h.1
      rw [txt_tl, txt_tl, ltCps_eq] at q
      exact q
    have h2 := rising_pw r x h.2
    refine List.pairwise_cons.mpr ⟨fun z hz => ?_, h2⟩
    rcases List.mem_cons.mp hz with e | e
    · rw [e]; exact h1
    · exact ltT_tr _ _ _ h1 ((List.pairwise_cons.mp h2).1 z e)
theorem txt_inj {x y : Tx} (e : txt x = txt y) : x = y := by
  have e : x.toArray = y.toArray := congrArg Str.cps e
  simpa using e
theorem map_txt_tl : ∀ l : List Str, (l.map tl).map txt = l
  | [] => rfl
  | x :: xs => by rw [List.map_cons, List.map_cons, map_txt_tl xs]; rfl
theorem perm_tl {l : List Str} {m : List Tx} (h : l.Perm (m.map txt)) : (l.map tl).Perm m := by
  have := h.map tl
  rw [List.map_map] at this
  have e : (tl ∘ txt) = (id : Tx → Tx) := rfl
  rw [e, List.map_id] at this
  exact this
theorem sortedS_eq {l : List Str} {m : List Tx} (p : l.Perm (m.map txt)) (h : sortedS l = true) : l = (sortT m).map txt := by
  have p' := perm_tl p
  have w : (l.map tl).Pairwise (leG ltT) := by
    cases l with
    | nil => exact .nil
    | cons x r =>
      refine rising_pw (r.map tl) (tl x) ?_
      rw [map_txt_tl]
      exact h
  rw [← sortT_uniq p' w, map_txt_tl]

section
variable {X : Cx} {mg : Str → Option Value} {al : Al} {H : Hp} {st : Store} {Ex : Value → Hp → Prop} {Q : VK}

theorem flat_rep {d : D} {v : V} (r : RepD X.K H d v) (f : flatD d = true) : flatV v = true := by
  cases r <;> first | rfl | cases f
theorem eqF_rep {a b : D} {u w : V} (ra : RepD X.K H a u) (rb : RepD X.K H b w) (fa : flatD a = true) (fb : flatD b = true) : eqV u w = eqF a b := by
  cases ra <;> cases rb <;> first
    | (cases fa; done)
    | (cases fb; done)
    | rfl
    | (rename_i x y
       show (txt x == txt y) = (x == y)
       by_cases e : x = y
       · subst e; simp
       · have e' : ¬ txt x = txt y := fun q => e (txt_inj q)
         rw [beq_eq_false_iff_ne.mpr e, beq_eq_false_iff_ne.mpr e'])
theorem flats_rep : ∀ {ds : List D} {vs : List V}, RepDs X.K H ds vs → ds.all flatD = true → vs.all flatV = true
  | _, _, .nil, _ => rfl
  | _, _, .cons h r, f => by
    rw [List.all_cons, Bool.and_eq_true] at f
    rw [List.all_cons, flat_rep h f.1, flats_rep r f.2]
    rfl
theorem inD_rep {x : D} {u : V} (rx : RepD X.K H x u) (fx : flatD x = true) : ∀ {ds : List D} {vs : List V}, RepDs X.K H ds vs → ds.all flatD = true → inV u vs = inD x ds
  | _, _, .nil, _ => rfl
  | _, _, .cons h r, f => by
    rw [List.all_cons, Bool.and_eq_true] at f
    show (eqV _ u || inV u _) = (eqF _ x || inD x _)
    rw [eqF_rep h rx f.1 fx, inD_rep rx fx r f.2]
theorem mem_ok (r : Rel X.K al H st) {x y : Val} {u w : V} (rx : RepW X.K al H x u) (ry : RepW X.K al H y w) {k : Bool} (e : memV x y st = some k) (neg : Bool) (q : Q (.bl (if neg then !k else k)) H) : SO X (compareOp (if neg then .NotIn else .In)) u w H Q := by
  unfold memV at e
  split at e
  · rename_i c z
    cases e
    cases rx
    cases ry
    cases neg with
    | false => exact ⟨_, op_in_sign, c, txt z, rfl, rfl, q⟩
    | true => exact ⟨_, op_notIn_sign, c, txt z, rfl, rfl, q⟩
  · rename_i y' x' _
    split at e
    · rename_i xs es
      split at e
      · rename_i c
        simp only [Bool.and_eq_true] at c
        cases e
        obtain ⟨a, vs, rfl, hs, rd⟩ := seq_sq r ry es
        have rx : RepD X.K H x' u := rx
        have q' := q
        rw [← inD_rep rx c.1 rd c.2] at q'
        cases neg with
        | false => exact ⟨_, op_in_seq, a, vs, rfl, hs, flat_rep rx c.1, flats_rep rd c.2, q'⟩
        | true => exact ⟨_, op_notIn_seq, a, vs, rfl, hs, flat_rep rx c.1, flats_rep rd c.2, q'⟩
      · cases e
    · cases e
  · cases e
theorem non_iff {x : Val} {u : V} (rx : RepW X.K al H x u) : decide (u = .non) = (match x with | .d .non => true | _ => false) := by
  cases x with
  | d d =>
    cases d with
    | non => cases rx; rfl
    | _ => cases rx; rfl
  | ref i => obtain ⟨a, _, rfl⟩ := rx; rfl
  | new xs => obtain ⟨a, vs, rfl, _⟩ := rx; rfl
theorem cmp_ok {o : Cop} {p : CmpOp} (hp : isCop o p = true) (hu : X.A.units + 64 < cLine) (r : Rel X.K al H st) {x y : Val} {u w : V} (rx : RepW X.K al H x u) (ry : RepW X.K al H y w) {k : Bool} (e : cmpV o x y st = some k)
    (q : Q (.bl k) H) : SO X (compareOp p) u w H Q := by
  cases o <;> cases p <;> first
    | (cases hp; done)
    | skip
  all_goals (simp only [cmpV] at e)
  · split at e
    · rename_i a b ea eb
      split at e
      · rename_i c
        cases e
        obtain ⟨fa, fb⟩ := scal_flat c
        have e1 := peek_flat rx ea fa
        have e2 := peek_flat ry eb fb
        subst e1 e2
        obtain ⟨s1, s2⟩ := scal_rep c rx ry
        exact ⟨_, op_eq, s1, by rw [s2]; exact q⟩
      · split at e
        · rename_i c
          simp only [Bool.and_eq_true] at c
          cases e
          exact ⟨_, op_eqD hu, _, _, peek_dp r rx ea, peek_dp r ry eb, c.1, c.2, q⟩
        · cases e
    · cases e
  · split at e
    · rename_i a b ea eb
      split at e
      · rename_i c
        cases e
        obtain ⟨fa, fb⟩ := scal_flat c
        have e1 := peek_flat rx ea fa
        have e2 := peek_flat ry eb fb
        subst e1 e2
        obtain ⟨s1, s2⟩ := scal_rep c rx ry
        exact ⟨_, op_ne, s1, by rw [s2]; exact q⟩
      · split at e
        · rename_i c
          simp only [Bool.and_eq_true] at c
          cases e
          exact ⟨_, op_neD hu, _, _, peek_dp r rx ea, peek_dp r ry eb, c.1, c.2, q⟩
        · cases e
    · cases e
  · split at e
    · cases e; cases rx; cases ry; exact ⟨_, op_lt, _, _, rfl, rfl, q⟩
    · cases e; cases rx; cases ry; exact ⟨_, op_lt_str, _, _, rfl, rfl, q⟩
    · cases e
  · split at e
    · cases e; cases rx; cases ry; exact ⟨_, op_le, _, _, rfl, rfl, q⟩
    · cases e
  · split at e
    · cases e; cases rx; cases ry; exact ⟨_, op_gt, _, _, rfl, rfl, q⟩
    · cases e
  · split at e
    · cases e; cases rx; cases ry; exact ⟨_, op_ge, _, _, rfl, rfl, q⟩
    · cases e
  · have en := non_iff rx
    split at e
    · cases e; cases ry; exact ⟨_, op_isN, rfl, by rw [en]; exact q⟩
    · rename_i hx
      cases e
      cases ry
      refine ⟨_, op_isN, rfl, ?_⟩
      rw [en]
      split
      · exact (hx rfl).elim
      · exact q
    · cases e
  · have en := non_iff rx
    split at e
    · cases e; cases ry; exact ⟨_, op_notN, rfl, by rw [en]; exact q⟩
    · rename_i hx
      cases e
      cases ry
      refine ⟨_, op_notN, rfl, ?_⟩
      rw [en]
      split
      · exact (hx rfl).elim
      · exact q
    · cases e
  · exact mem_ok r rx ry e false q
  · cases em : memV x y st with
    | none => rw [em] at e; cases e
    | some b =>
      rw [em] at e
      cases e
      exact mem_ok r rx ry em true q
/-- truth of a value -/
theorem tru_val {v : Val} {u : V} (rv : RepW X.K al H v u) {k : Bool} (e : truV v st = some k) : TruV X.K u H k := by
  unfold truV at e
  split at e
  · cases e; cases rv; rfl
  · cases e; cases rv; rfl
  · cases e
theorem atI_map {α β : Type} {xs : List α} {ys : List β} (h : xs.length = ys.length) {i : Int} {d : α} (e : atI xs i = some d) (f : ∀ j : Nat, xs[j]? = some d → ∃ v : β, ys[j]? = some v) : ∃ (j : Nat) (v : β), xs[j]? = some d ∧ ys[j]? = some v ∧ atI ys i = some v := by
  unfold atI at e
  cases q : ixN xs.length i with
  | none => rw [q] at e; cases e
  | some j =>
    rw [q] at e
    have e : xs[j]? = some d := e
    obtain ⟨v, hv⟩ := f j e
    refine ⟨j, v, e, hv, ?_⟩
    unfold atI
    rw [← h, q]
    exact hv
theorem ixv_ok (r : Rel X.K al H st) {x y : Val} {u w : V} (rx : RepW X.K al H x u) (ry : RepW X.K al H y w)
    (h : PostR X.K mg al H Ex (fun v _ H' => ∀ u, RepV X.K al H' v u → Q u H') (ixV x y st)) : SX X u w H Q := by
  unfold ixV at h
  split at h
  · rename_i i
    cases ry
    split at h
    · rename_i z
      cases rx
      split at h
      · rename_i c
        split at h
        · rename_i d e
          exact ⟨_, ix_str, _, _, d, rfl, rfl, by rw [txt_len, ← line_eq]; exact c, e, fin0 r h _ (.str [d])⟩
        · exact h.elim
      · exact h.elim
    · split at h
      · rename_i xs es
        split at h
        · rename_i d e
          obtain ⟨a, vs, rfl, hs, rd⟩ := seq_sq r rx es
          obtain ⟨j, v, h1, h2, h3⟩ := atI_map rd.length e fun j hj => let ⟨v, hv, _⟩ := rd.get hj; ⟨v, hv⟩
          obtain ⟨v', h4, h5⟩ := rd.get h1
          rw [h2] at h4
          cases h4
          have q := fin0 r h _ h5
          rcases hs with hs | hs
          · exact ⟨_, ix_list, a, vs, _, v, rfl, rfl, hs, h3, q⟩
          · exact ⟨_, ix_tup, a, vs, _, v, rfl, rfl, hs, h3, q⟩
        · exact h.elim
      · exact h.elim
  · exact h.elim
end
end Pv

/-! sorted(text). -/
namespace Pv
open PySem PySem.Spec PyProof.Rows L2

theorem obj_there {P : Program} {w : World} {H : Hp} {h : Heap} {a : Addr} {o : HO} (x : ObjOk P w H h a o) : ∃ ob, h.get? a = some ob := by
  cases o with
  | lst xs => obtain ⟨_, _, _, _, e⟩ := x; exact ⟨_, e⟩
  | tup xs => obtain ⟨_, _, _, o, e, _⟩ := x; exact ⟨_, e⟩
  | dK kvs => obtain ⟨_, _, _, _, o, _, _, e, _⟩ := x; exact ⟨_, e⟩
  | dT kvs => obtain ⟨_, _, _, _, o, _, _, e, _⟩ := x; exact ⟨_, e⟩
  | set S n => obtain ⟨o, _, _, _, e, _⟩ := x; exact ⟨_, e⟩
  | ins C dx fs => obtain ⟨_, _, _, e, _⟩ := x; exact ⟨_, e⟩
  | own y => exact x
  | xd fs => obtain ⟨_, ⟨_, _, _, e, _⟩, _⟩ := x; exact ⟨_, e⟩
  | rng lo hi => obtain ⟨_, _, _, e⟩ := x; exact ⟨_, e⟩
  | frz ob u => obtain ⟨e, _⟩ := x; exact ⟨_, e⟩
  | tbl ps => exact ⟨_, (show h.get? a = some _ from x)⟩
  | met f y => exact ⟨_, (show h.get? a = some _ from x)⟩
  | ext φ => obtain ⟨_, e, _⟩ := x; exact e
theorem strs_of : ∀ (a : List Value) (z : List Nat), a.length = z.length → (∀ (j : Nat) (v : Value), a[j]? = some v → ∃ c u, z[j]? = some c ∧ v = Value.str ⟨#[c]⟩ u) → StrsAre a (z.map fun c => (⟨#[c]⟩ : PySem.Str))
  | [], [], _, _ => .nil
  | v :: a, c :: z, hs, hi => by
    obtain ⟨c', u, h1, rfl⟩ := hi 0 v rfl
    cases h1
    exact .cons _ _ (strs_of a z (by simpa using hs) fun j v e => hi (j + 1) v (by simpa using e))
theorem signs_strs {x : PySem.Str} {acc : Array Value} (h : ItemsOf (SignAt x) acc x.cps.size) : StrsAre acc.toList (x.cps.toList.map fun c => (⟨#[c]⟩ : PySem.Str)) := by
  obtain ⟨hs, hi⟩ := h
  obtain ⟨a⟩ := acc
  obtain ⟨⟨z⟩⟩ := x
  simp only [List.size_toArray] at hs
  have hi : ∀ j v, a[j]? = some v → ∃ c u, z[j]? = some c ∧ v = Value.str ⟨#[c]⟩ u := fun j v e => by
    obtain ⟨c, u, h1, h2⟩ := hi j v (by simpa using e)
    exact ⟨c, u, by simpa using h1, h2⟩
  exact strs_of a z (by simpa using hs) hi
section
variable {X : Cx}
theorem sorted_text {P : Program} {w : World} {A : Around} {E : Value → Shared → Prop} {s : Shared} {x : PySem.Str} {t : Tok} {Q : Value → Shared → Prop} (hh : A.handled = none) (h64 : x.cps.size < 64)
    (hQ : ∀ s' p (out : Array Value) (c : Nat) (ss : List PySem.Str), (∀ b o, s.heap.get? b = some o → s'.heap.get? b = some o) → s'.gens = s.gens → s'.os = s.os → s.heap.get? p = none →
      s'.heap.get? p = some (seqObj "list" out c) → StrsAre out.toList ss → ss.Perm (x.cps.toList.map fun c => (⟨#[c]⟩ : PySem.Str)) → sortedS ss = true → Q (.ref p) s') :
    wpAny (model P w) A (call (.builtin "sorted") [.str x t]) Q E s := by
  refine Calls.call_function_entry kind_sorted plain_sorted entry_sorted (args_sorted1 _) ?_
  unfold Builtin.«sorted»
  refine wpAny_bind (m := checkCount "sorted" 1 1 _) (wpAny_pure ?_)
  refine wpAny_bind (wpAny_collect_str (A := A.in1) hh x t (fun s1 acc k1 g1 d1 o1 hi => ?_) (by rw [sizeLine_eq]; omega))
  have hS := signs_strs hi
  have hvl : acc.toList.length < 64 := by rw [Array.length_toList, hi.1]; exact h64
  refine wpAny_bind (wpAny_newList ?_ (by rw [sizeLine_eq]; omega))
  have hoL : (s1.heap.push (seqObj "list" acc.toList.toArray 0)).get? s1.heap.objs.size = some (seqObj "list" acc.toList.toArray 0) := Heap.get?_push_size _ rfl
  refine wpAny_bind (wpAny_holding (wpAny_call_entry slot_list_sort ⟨_, hoL, rfl⟩ entry_list_sort (list_sort_treeK strKind_oneLt hoL hS.keysOf (fun v₁ v₂ rest e => keyKind_strs (by rw [← e]; exact hS)) hvl fun st' hp hs => ⟨_, rfl, ?_⟩) (args_list_sort _)))
  obtain ⟨ss', a1, a2, a3⟩ := sorted_out_str hS hp hs
  obtain ⟨c, hc⟩ := sortedHeap_at (vs := acc.toList) (out := (arrOf st').map (·.2)) hoL
  have hz : s.heap.get? s1.heap.objs.size = none := by
    cases q : s.heap.get? s1.heap.objs.size with
    | none => rfl
    | some o => exact absurd (Heap.lt_size (k1 _ _ q)) (Nat.lt_irrefl _)
  refine wpAny_pure ⟨_, rfl, hQ _ s1.heap.objs.size _ c ss' (fun b u e => ?_) g1 o1 hz hc a1 a2 a3⟩
  have q := k1 b u e
  have hlt := Heap.lt_size q
  show (sortedHeap (s1.heap.push (seqObj "list" acc.toList.toArray 0)) s1.heap.objs.size acc.toList _).get? b = some u
  rw [sortedHeap_old (Nat.ne_of_lt hlt) (by rw [size_push']; exact Nat.lt_succ_of_lt hlt)]
  exact Heap.get?_push_of_some _ q
/-- sorted(text), fewer than 64 signs -/
def rSortedT : List V → Hp → VK → Prop := fun vs H Q => ∃ z : PySem.Str, vs = [V.str z] ∧ z.cps.size < 64 ∧ ∀ (ss : List PySem.Str) (p : Addr), ss.Perm (z.cps.toList.map fun c => (⟨#[c]⟩ : PySem.Str)) → sortedS ss = true → H p = none → Q (.ref p) (upd H p (.lst (ss.map V.str)))
theorem cr_sortedText (hc : X.calm = true) : CallR X (.builtin "sorted") rSortedT := by
  intro pins s σ H vs us Q I r h
  obtain ⟨z, rfl, h64, q⟩ := h
  obtain ⟨u, rfl, ru⟩ := vals1 r
  obtain ⟨t, rfl⟩ := ru
  refine sorted_text (I.ok.hd hc) h64 fun s' p out c ss k g o hp hg hi pm hs => ?_
  have hlen : (ss.map V.str).length ≤ sizeLine := by rw [List.length_map, pm.length_eq, List.length_map, Array.length_toList, sizeLine_eq]; omega
  have hn : H p = none := by
    cases e : H p with
    | none => rfl
    | some u =>
      obtain ⟨ob, e2⟩ := obj_there (I.hok p u e)
      rw [hp] at e2
      cases e2
  have J : Inv X pins σ (upd H p (.lst (ss.map V.str))) { s with heap := s'.heap, gens := s'.gens, drawn := s'.drawn, toks := s'.toks } :=
    I.call (ch := []) (Un.laidN k hp hn) (I.hok.laidN k hn ⟨hlen, out.toList, c, vals_of_strs hi, hg⟩) (by rw [g]; exact I.bare) (fun _ z => nomatch z)
  have e : s' = { s with heap := s'.heap, gens := s'.gens, drawn := s'.drawn, toks := s'.toks } := by
    cases s'
    cases s
    cases o
    rfl
  rw [e]
  exact ⟨.ref p, _, J, rfl, q ss p pm hs hn⟩
end
end Pv

/-! sep.join(text). -/
namespace Pv
open PySem PySem.Spec PyProof.Rows L2
open PySem.Builtin PySem.Builtin.Str

theorem join_tree_text (sep : PySem.Str) (t : Tok) (x : PySem.Str) (u : Tok) : Builtin.«str.join» ⟨[.str sep t, .str x u], []⟩ = (do
    let ty ← typeOf (.str x u)
    if (ty == .type "list" || ty == .type "tuple") = true then (do
      match ← seqItems? (.str x u) with
      | some xs => joinTail sep xs.toList
      | none => unsupported "internal:str.join")
    else (do
      let it ← (pyIter (.str x u)).tryCatch fun e => do
        if ← isInstance e (.type "TypeError") then rule "str.join.not-iterable"; raiseError "TypeError" "can only join an iterable" else throw e
      let items ← collect it
      joinTail sep items)) := rfl
section
variable {prog : Program} {w : World} {A : Around} {E : Value → Shared → Prop} {s : Shared}
theorem join_text {sep : PySem.Str} {t : Tok} {x : PySem.Str} {u : Tok} {Q : Value → Shared → Prop} (hh : A.handled = none) (hok : ((x.cps.toList.map fun c => (⟨#[c]⟩ : PySem.Str)).map (·.length)).sum + (x.cps.toList.map fun c => (⟨#[c]⟩ : PySem.Str)).length * sep.length ≤ 16777216)
    (hsz : x.cps.size ≤ sizeLine)
    (hQ : ∀ s' : Shared, (∀ b o, s.heap.get? b = some o → s'.heap.get? b = some o) → s'.gens = s.gens → s'.drawn = s.drawn → s'.os = s.os → ∀ t' k, Q (.str (Txt.join sep (x.cps.toList.map fun c => (⟨#[c]⟩ : PySem.Str))) t') { s' with toks := k }) :
    wpAny (model prog w) A (call (.builtin "str.join") [.str sep t, .str x u]) Q E s := by
  refine wpAny_call (codeAny_call_builtin F.slot_str_join.plain F.entry_str_join (F.slot_str_join.check _ _ _ _ _ _ _ _ (typeIs_str _ _ _) (F.args_str_join_2 _ _) ?_))
  rw [join_tree_text]
  refine wpAny_bind (wpAny_typeOf (T := "str") (v := .str x u) rfl ?_)
  show wpAny _ A.in1 ((pyIter (.str x u)).tryCatch _ >>= fun it => collect it >>= fun items => joinTail sep items) _ _ s
  refine wpAny_bind (wpAny_tryCatch (wpAny_pyIter_strU ?_))
  have hT0 : ((s.heap.push { cls := .type (strIterType x), data := .fields #[.str x u, .int 0 0] }).get? s.heap.objs.size) = some { cls := .type (strIterType x), data := .fields #[.str x u, .int 0 0] } := Heap.get?_push_size _ rfl
  cases ha : x.cps.all (· < 128)
  · have e : strIterType x = "str_iterator" := by simp [strIterType, ha]
    rw [e] at hT0 ⊢
    refine wpAny_bind (wpAny_collect_iter (T := "str_iterator") (.inr (.inl rfl)) (Walks.strWide (A := A.in1.in1) hh s.heap.objs.size x u).toS (fun i s2 st => st.typeIs) ⟨_, hT0, rfl, rfl⟩ (fun b hb => ?_) List.mem_cons_self (fun s' acc hm hacc => ?_) hsz)
    · rw [List.mem_singleton.mp hb]
      exact Heap.lt_size hT0
    · obtain ⟨l, hl, ht⟩ := strsAre_values (signs_strs hacc)
      rw [← ht] at hok hQ
      rw [hl]
      have hok' := joinOk_of hok
      unfold JoinOk at hok'
      rw [Bool.not_eq_true'] at hok'
      have g : Gives (joinTail sep (strValues l)) (joinMade sep l) := by
        have g0 := gives_joinTail sep l hok'
        cases l with
        | nil => exact g0
        | cons p r => cases r with
          | nil => exact g0
          | cons q r' => exact g0
      refine g prog w A (wants Q E) s' (post_join l ⟨joinFit_length hok', hQ s' (fun b o e => hm.heap b o (fun hb => ?_) (Heap.get?_push_of_some _ e)) hm.gens hm.drawn hm.os⟩)
      have hlt := Heap.lt_size e
      rw [List.mem_singleton.mp hb] at hlt
      exact absurd hlt (Nat.lt_irrefl _)
  · have e : strIterType x = "str_ascii_iterator" := by simp [strIterType, ha]
    rw [e] at hT0 ⊢
    refine wpAny_bind (wpAny_collect_iter (T := "str_ascii_iterator") (.inl rfl) (Walks.strAscii (A := A.in1.in1) hh s.heap.objs.size x u).toS (fun i s2 st => st.typeIs) ⟨_, hT0, rfl, rfl⟩ (fun b hb => ?_) List.mem_cons_self (fun s' acc hm hacc => ?_) hsz)
    · rw [List.mem_singleton.mp hb]
      exact Heap.lt_size hT0
    · obtain ⟨l, hl, ht⟩ := strsAre_values (signs_strs hacc)
      rw [← ht] at hok hQ
      rw [hl]
      have hok' := joinOk_of hok
      unfold JoinOk at hok'
      rw [Bool.not_eq_true'] at hok'
      have g : Gives (joinTail sep (strValues l)) (joinMade sep l) := by
        have g0 := gives_joinTail sep l hok'
        cases l with
        | nil => exact g0
        | cons p r => cases r with
          | nil => exact g0
          | cons q r' => exact g0
      refine g prog w A (wants Q E) s' (post_join l ⟨joinFit_length hok', hQ s' (fun b o e => hm.heap b o (fun hb => ?_) (Heap.get?_push_of_some _ e)) hm.gens hm.drawn hm.os⟩)
      have hlt := Heap.lt_size e
      rw [List.mem_singleton.mp hb] at hlt
      exact absurd hlt (Nat.lt_irrefl _)
end
section
variable {X : Cx}
/-- sep.join(text) -/
theorem mt_joinT (hc : X.calm = true) : MtR X "str.join" (fun x xs H Q => ∃ a z, x = .str a ∧ xs = [.str z] ∧
    ((z.cps.toList.map fun c => (⟨#[c]⟩ : PySem.Str)).map (·.length)).sum + (z.cps.toList.map fun c => (⟨#[c]⟩ : PySem.Str)).length * a.length ≤ 16777216 ∧ z.cps.size ≤ sizeLine ∧
    Q (.str (Txt.join a (z.cps.toList.map fun c => (⟨#[c]⟩ : PySem.Str)))) H) := by
  intro pins s σ H x xs v us Q I rx rs h
  obtain ⟨a, z, rfl, rfl, hz, hsz, h⟩ := h
  obtain ⟨t, rfl⟩ := rx
  obtain ⟨u, rfl, ru⟩ := vals1 rs
  obtain ⟨t2, rfl⟩ := ru
  refine join_text (I.ok.hd hc) hz hsz fun s' k g d o t' tk => ?_
  have J : Inv X pins σ H { s with heap := s'.heap, gens := s'.gens, drawn := s'.drawn, toks := tk } :=
    I.call (ch := []) (Un.kept k) (I.hok.kept k) (by rw [g]; exact I.bare) (fun _ z => nomatch z)
  have e : { s' with toks := tk } = { s with heap := s'.heap, gens := s'.gens, drawn := s'.drawn, toks := tk } := by
    cases s'
    cases s
    cases o
    rfl
  rw [e]
  exact ⟨.str _, H, J, ⟨t', rfl⟩, h⟩
end
end Pv

/-! Slices, built-ins, methods: by the values. -/
namespace Pv
open PySem PySem.Spec PyProof.Rows L2 TL

def SSl (X : Cx) : V → Option Int → Option Int → Hp → VK → Prop := fun x lo hi H Q => ∃ r, SlR X r ∧ r x lo hi H Q
theorem sl_SS {X : Cx} : SlR X (SSl X) := fun pins s σ H x v vl vu lo hi sl Q I rx hs pl pu ⟨_, h, q⟩ => h pins s σ H x v vl vu lo hi sl Q I rx hs pl pu q
def SM (X : Cx) (id : String) : V → List V → Hp → VK → Prop := fun x xs H Q => ∃ r, MtR X id r ∧ r x xs H Q
theorem mt_SM {X : Cx} {id : String} : MtR X id (SM X id) := fun pins s σ H x xs v us Q I rx rs ⟨_, h, q⟩ => h pins s σ H x xs v us Q I rx rs q
theorem cutS_txt (z : Tx) (lo hi : Option Int) : cutS (txt z) lo hi = txt (cutL z lo hi) := by
  unfold cutS cutL
  rw [txt_len]
  rfl
theorem cut_rep {K : Frag} {H : Hp} {ds : List D} {vs : List V} (r : RepDs K H ds vs) (lo hi : Option Int) : RepDs K H (cutL ds lo hi) (cutV vs lo hi) := by
  unfold cutL cutV
  rw [r.length]
  exact (r.drop _).take _

section
variable {X : Cx} {mg : Str → Option Value} {al : Al} {H : Hp} {st : Store} {Ex : Value → Hp → Prop} {Q : VK}
theorem sl_ok (r : Rel X.K al H st) {x : Val} {u : V} (rx : RepW X.K al H x u) {lo hi : Option Int}
    (h : PostR X.K mg al H Ex (fun v _ H' => ∀ u, RepV X.K al H' v u → Q u H') (sliceV x lo hi st)) : SSl X u lo hi H Q := by
  unfold sliceV at h
  split at h
  · rename_i z
    cases rx
    split at h
    · rename_i c
      refine ⟨_, sl_str, _, rfl, by rw [txt_len, ← line_eq]; exact c, ?_⟩
      rw [cutS_txt]
      exact fin0 r h _ (.str _)
    · exact h.elim
  · rename_i z
    cases rx with
    | @tup a _ vs a1 a2 =>
      refine ⟨_, sl_tupA, a, vs, rfl, a1, fun w => ?_, fun w => finT r h (cut_rep a2 lo hi)⟩
      have e : cutL z lo hi = z := by
        unfold cutL
        rw [a2.length, w.1, w.2, ← a2.length]
        simp
      rw [e] at h
      exact fin0 r h _ (.tup a1 a2)
  · split at h
    · rename_i z e
      obtain ⟨a, vs, rfl, hs, rd⟩ := lst_sq r rx e
      exact ⟨_, sl_list, a, vs, rfl, hs, finL r h (cut_rep rd lo hi)⟩
    · exact h.elim

/-! ### built-ins -/
def tyOfD : D → String
  | .non => "NoneType" | .bl _ => "bool" | .int _ => "int" | .str _ => "str" | .tup _ => "tuple" | .lst _ => "list"
theorem tyx_rep {d : D} {v : V} (r : RepD X.K H d v) : TyX X.K H v (.type (tyOfD d)) := by
  cases r with
  | non => exact .base .non
  | bl b => exact .base (.bl b)
  | int i => exact .base (.int i)
  | str x => exact .base (.str _)
  | tup h _ =>
    rcases h with (h | ⟨o, h⟩) | ⟨o, _, _, e, c, _⟩
    · exact .base (.tup h)
    · exact .fTuple h
    · exact .kTuple e c
  | lst h _ =>
    rcases h with ⟨o, h⟩ | ⟨o, _, _, e, c, _⟩
    · exact .base (.frz h)
    · exact .kList e c
def tyStr : Ty → String
  | .tup => "tuple" | .bool => "bool" | .int => "int" | .str => "str"
theorem kit_all (d : D) (t : Ty) : kitB (tyOfD d) (tyStr t) = some (tyIs t (.d d)) := by
  cases d <;> cases t <;> simp only [tyOfD, tyStr, tyIs] <;> decide +kernel
theorem isi_ok {t : Ty} {v : Val} {u : V} {b : Bool} (rv : RepW X.K al H v u) (e : isiV t v = some b) (q : Q (.bl b) H) : rIsi X.K [u, .ty (tyStr t)] H Q := by
  unfold isiV at e
  split at e
  · rename_i d
    cases e
    exact ⟨u, _, _, _, _, rfl, .ty _, tyx_rep rv, kit_ty (kit_all d t), q⟩
  · cases e
/-- a built-in's own value -/
def bltVal : Blt → Value
  | .tuple => .type "tuple" | .list => .type "list" | .int => .type "int" | .str => .type "str"
  | .len => .builtin "len" | .sorted => .builtin "sorted" | .max => .builtin "max" | .min => .builtin "min" | .sum => .builtin "sum" | .abs => .builtin "abs"
  | .ord => .builtin "ord" | .any => .builtin "any" | .all => .builtin "all" | .sset => .builtin "sorted"
theorem vs1 {v : Val} {us : List V} (h : RepVs X.K al H [v] us) : ∃ u, us = [u] ∧ RepW X.K al H v u := by
  cases h with
  | cons a b => cases b; exact ⟨_, rfl, a⟩
theorem vs2 {v w : Val} {us : List V} (h : RepVs X.K al H [v, w] us) : ∃ u1 u2, us = [u1, u2] ∧ RepW X.K al H v u1 ∧ RepW X.K al H w u2 := by
  cases h with
  | cons a b =>
    cases b with
    | cons b c => cases c; exact ⟨_, _, rfl, a, b⟩
theorem intsAll {xs : List D} {vs : List V} {ns : List Int} (rd : RepDs X.K H xs vs) (e : allM intOf xs = some ns) : vs = ns.map V.int := rd.ints e
theorem sortI_pw {ns ns' : List Int} (p : ns'.Perm ns) (w : ns'.Pairwise (· ≤ ·)) : ns' = sortI ns := by
  refine sortI_uniq p (w.imp fun {a b} h => ?_)
  unfold leG ltI
  rw [decide_eq_false_iff_not]
  omega
theorem digit_int {c : Nat} (h1 : 48 ≤ c) (h2 : c < 58) : PySem.intText? (txt [c]) = some ((c : Int) - 48) := by
  have : c = 48 ∨ c = 49 ∨ c = 50 ∨ c = 51 ∨ c = 52 ∨ c = 53 ∨ c = 54 ∨ c = 55 ∨ c = 56 ∨ c = 57 := by omega
  rcases this with rfl | rfl | rfl | rfl | rfl | rfl | rfl | rfl | rfl | rfl <;> decide +kernel
theorem digit_str {i : Int} (h1 : 0 ≤ i) (h2 : i < 10) : (toString i : Str) = txt [48 + i.toNat] := by
  have : i = 0 ∨ i = 1 ∨ i = 2 ∨ i = 3 ∨ i = 4 ∨ i = 5 ∨ i = 6 ∨ i = 7 ∨ i = 8 ∨ i = 9 := by omega
  rcases this with rfl | rfl | rfl | rfl | rfl | rfl | rfl | rfl | rfl | rfl <;> decide +kernel
theorem blt_ok (hc : X.calm = true) (r : Rel X.K al H st) {f : Blt} {vs : List Val} {us : List V} (rv : RepVs X.K al H vs us)
    (h : PostR X.K mg al H Ex (fun v _ H' => ∀ u, RepV X.K al H' v u → Q u H') (bltV f vs st)) : SCl X (bltVal f) us H Q := by
  unfold bltV at h
  split at h
  · -- len of a text
    rename_i z
    obtain ⟨u, rfl, a⟩ := vs1 rv
    cases a
    split at h
    · rename_i c
      refine ⟨_, call_len_str, _, rfl, by rw [txt_len, ← line_eq]; exact c, ?_⟩
      rw [txt_len]
      exact fin0 r h _ (.int _)
    · exact h.elim
  · -- len
    rename_i v _
    obtain ⟨u, rfl, a⟩ := vs1 rv
    split at h
    · rename_i xs e
      obtain ⟨p, ws, rfl, hs, rd⟩ := seq_sq r a e
      refine ⟨_, call_len_seq, p, ws, rfl, hs, ?_⟩
      rw [← rd.length]
      exact fin0 r h _ (.int _)
    · exact h.elim
  · rename_i xs
    obtain ⟨u, rfl, a⟩ := vs1 rv
    cases a with
    | @tup p _ ws h1 h2 => exact ⟨_, call_tuple_of, p, ws, rfl, .inr ⟨h1, fin0 r h _ (.tup h1 h2)⟩⟩
  · rename_i v _
    obtain ⟨u, rfl, a⟩ := vs1 rv
    split at h
    · rename_i xs e
      obtain ⟨p, ws, rfl, hs, rd⟩ := lst_sq r a e
      exact ⟨_, call_tuple_of, p, ws, rfl, .inl ⟨hs, finT r h rd⟩⟩
    · exact h.elim
  · rename_i v
    obtain ⟨u, rfl, a⟩ := vs1 rv
    split at h
    · rename_i xs e
      obtain ⟨p, ws, rfl, hs, rd⟩ := seq_sq r a e
      exact ⟨_, call_list_of, p, ws, rfl, hs, finL r h rd⟩
    · exact h.elim
  · rename_i z
    obtain ⟨u, rfl, a⟩ := vs1 rv
    cases a
    split at h
    · rename_i c
      refine ⟨_, cr_sortedText hc, txt z, rfl, by show z.toArray.size < 64; rw [List.size_toArray]; exact c, fun ys q pm so hq => ?_⟩
      have pm' : ys.Perm ((z.map fun c => ([c] : Tx)).map txt) := by
        rw [List.map_map]
        exact pm
      rw [sortedS_eq pm' so]
      exact finL r h (repStrs _) q hq
    · exact h.elim
  · rename_i v _
    obtain ⟨u, rfl, a⟩ := vs1 rv
    split at h
    · rename_i xs e
      obtain ⟨p, ws, rfl, hs, rd⟩ := lst_sq r a e
      split at h
      · rename_i c
        split at h
        · rename_i ts et
          have ew := rd.txts et
          subst ew
          have hl : ts.length < 64 := by
            have := rd.length
            simp only [List.length_map] at this
            omega
          refine ⟨_, cr_sortedS, p, ts.map txt, rfl, hs, by rw [List.length_map]; exact hl, fun ys q pm so hq => ?_⟩
          rw [sortedS_eq pm so]
          exact finL r h (repStrs _) q hq
        · split at h
          · rename_i ns en
            have ew := rd.ints en
            subst ew
            have hl : ns.length < 64 := by
              have := rd.length
              simp only [List.length_map] at this
              omega
            refine ⟨_, cr_sorted, p, ns, rfl, hs, hl, fun ys q pm so hq => ?_⟩
            rw [sortI_pw pm so]
            exact finL r h (repInts _) q hq
          · exact h.elim
      · exact h.elim
    · exact h.elim
  · rename_i i j
    obtain ⟨u, w, rfl, a, b⟩ := vs2 rv
    cases a
    cases b
    exact ⟨_, call_max2 hc, i, j, rfl, fin0 r h _ (.int _)⟩
  · rename_i i j
    obtain ⟨u, w, rfl, a, b⟩ := vs2 rv
    cases a
    cases b
    exact ⟨_, call_min2 hc, i, j, rfl, fin0 r h _ (.int _)⟩
  · rename_i i
    obtain ⟨u, rfl, a⟩ := vs1 rv
    cases a
    exact ⟨_, call_abs, i, rfl, fin0 r h _ (.int _)⟩
  · rename_i v
    obtain ⟨u, rfl, a⟩ := vs1 rv
    split at h
    · rename_i xs e
      obtain ⟨p, ws, rfl, hs, rd⟩ := lst_sq r a e
      split at h
      · rename_i ns en
        have ew := rd.ints en
        subst ew
        exact ⟨_, cr_sum hc, p, ns, rfl, hs, fin0 r h _ (.int _)⟩
      · exact h.elim
    · exact h.elim
  · rename_i i
    obtain ⟨u, rfl, a⟩ := vs1 rv
    cases a
    exact ⟨_, call_int1, .inl ⟨i, rfl, fin0 r h _ (.int _)⟩⟩
  · rename_i i
    obtain ⟨u, rfl, a⟩ := vs1 rv
    cases a
    exact ⟨_, call_int1, .inr ⟨i, rfl, fin0 r h _ (.int _)⟩⟩
  · rename_i c
    obtain ⟨u, rfl, a⟩ := vs1 rv
    cases a
    split at h
    · rename_i q
      refine ⟨_, call_int_str, txt [c], (c : Int) - 48, rfl, digit_int q.1 q.2, (by show 1 ≤ 640; omega), fin0 r h _ (.int _)⟩
    · exact h.elim
  · rename_i i
    obtain ⟨u, rfl, a⟩ := vs1 rv
    cases a
    split at h
    · rename_i q
      refine ⟨_, call_str_int, i, rfl, (by have : i.natAbs < 16 := by omega
                                           have := Nat.log2_lt (n := i.natAbs) (k := 4)
                                           by_cases z : i.natAbs = 0
                                           · rw [z]; decide
                                           · have := (this z).mpr (by omega); omega), ?_⟩
      rw [digit_str q.1 q.2]
      exact fin0 r h _ (.str _)
    · exact h.elim
  · rename_i c
    obtain ⟨u, rfl, a⟩ := vs1 rv
    cases a
    exact ⟨_, call_ord, txt [c], rfl, rfl, fin0 r h _ (.int _)⟩
  · rename_i v
    obtain ⟨u, rfl, a⟩ := vs1 rv
    split at h
    · rename_i xs e
      obtain ⟨p, ws, rfl, hs, rd⟩ := lst_sq r a e
      split at h
      · rename_i bs eb
        have ew := rd.bls eb
        subst ew
        exact ⟨_, cr_any hc, p, bs, rfl, hs, fin0 r h _ (.bl _)⟩
      · exact h.elim
    · exact h.elim
  · rename_i v
    obtain ⟨u, rfl, a⟩ := vs1 rv
    split at h
    · rename_i xs e
      obtain ⟨p, ws, rfl, hs, rd⟩ := lst_sq r a e
      split at h
      · rename_i bs eb
        have ew := rd.bls eb
        subst ew
        exact ⟨_, cr_all hc, p, bs, rfl, hs, fin0 r h _ (.bl _)⟩
      · exact h.elim
    · exact h.elim
  · exact h.elim

end
end Pv

/-! Shapes of checked texts; the shutting of cells; targets; walks; contexts of blocks. -/
namespace Pv
open PySem PySem.Spec PyProof.Rows L2 TL

/-! ### shapes -/
def okShape : Expr → Bool
  | .Starred .. => false
  | .Slice .. => false
  | .Set .. => false
  | _ => true
theorem chk_shape {N : List Str} {sc : Scope} : ∀ (e : E) (ex : Expr), chkE N sc e ex = true → okShape ex = true
  | .frz a, ex, h => chk_shape a ex (by unfold chkE at h; exact h)
  | .var _, ex, h => by cases ex <;> first | rfl | (unfold chkE at h; cases h)
  | .int _, ex, h => by cases ex <;> first | rfl | (unfold chkE at h; cases h)
  | .str _, ex, h => by cases ex <;> first | rfl | (unfold chkE at h; cases h)
  | .bl _, ex, h => by cases ex <;> first | rfl | (unfold chkE at h; cases h)
  | .non, ex, h => by cases ex <;> first | rfl | (unfold chkE at h; cases h)
  | .glob _, ex, h => by cases ex <;> first | rfl | (unfold chkE at h; cases h)
  | .bin _ _ _, ex, h => by cases ex <;> first | rfl | (unfold chkE at h; cases h)
  | .neg _, ex, h => by cases ex <;> first | rfl | (unfold chkE at h; cases h)
  | .inv _, ex, h => by cases ex <;> first | rfl | (unfold chkE at h; cases h)
  | .not _, ex, h => by cases ex <;> first | rfl | (unfold chkE at h; cases h)
  | .cmp _ _ _, ex, h => by cases ex <;> first | rfl | (unfold chkE at h; cases h)
  | .chain _ _ _ _ _, ex, h => by cases ex <;> first | rfl | (unfold chkE at h; cases h)
  | .and _, ex, h => by cases ex <;> first | rfl | (unfold chkE at h; cases h)
  | .or _, ex, h => by cases ex <;> first | rfl | (unfold chkE at h; cases h)
  | .ite _ _ _, ex, h => by cases ex <;> first | rfl | (unfold chkE at h; cases h)
  | .tup _, ex, h => by cases ex <;> first | rfl | (unfold chkE at h; cases h)
  | .list _, ex, h => by cases ex <;> first | rfl | (unfold chkE at h; cases h)
  | .ix _ _, ex, h => by cases ex <;> first | rfl | (unfold chkE at h; cases h)
  | .slice _ _ _, ex, h => by cases ex <;> first | rfl | (unfold chkE at h; cases h)
  | .slice0 _ _, ex, h => by cases ex <;> first | rfl | (unfold chkE at h; cases h)
  | .slice1 _ _, ex, h => by cases ex <;> first | rfl | (unfold chkE at h; cases h)
  | .rev _, ex, h => by cases ex <;> first | rfl | (unfold chkE at h; cases h)
  | .call _ _, ex, h => by cases ex <;> first | rfl | (unfold chkE at h; cases h)
  | .blt _ _, ex, h => by cases ex <;> first | rfl | (unfold chkE at h; cases h)
  | .meth _ _ _, ex, h => by cases ex <;> first | rfl | (unfold chkE at h; cases h)
  | .isi _ _, ex, h => by cases ex <;> first | rfl | (unfold chkE at h; cases h)
  | .lc _ _ _ _, ex, h => by cases ex <;> first | rfl | (unfold chkE at h; cases h)
theorem shape_star {ex : Expr} (h : okShape ex = true) (es : List Expr) (env : PySem.Env) : starEach (ex :: es) env = (false, eval ex env) :: starEach es env := by
  cases ex <;> first | rfl | cases h
theorem shape_plain {ex : Expr} (h : okShape ex = true) : PlainIx ex := by
  intro o i
  cases ex <;> first | rfl | cases h
theorem shape_mark {ex : Expr} (h : okShape ex = true) (op : CmpOp) : behindInMarks op ex = false := by
  cases ex <;> first | rfl | cases h
theorem shape_fold {ex : Expr} (h : okShape ex = true) (env : PySem.Env) (x : Value) : foldedSetIterable ex env x = pure x := by
  cases ex <;> first | rfl | cases h
theorem shape_swap {ex : Expr} (h : isLC ex = false) (hs : okShape ex = true) (t : Option Expr) (l : Nat) (env : PySem.Env) : True := trivial
theorem chks_shape {N : List Str} {sc : Scope} : ∀ (es : Es) (xs : List Expr), chkEs N sc es xs = true → ∀ x ∈ xs, okShape x = true
  | .nil, xs, h => by
    unfold chkEs at h
    split at h
    · intro x hx; cases hx
    · cases h
  | .cons e es, xs, h => by
    unfold chkEs at h
    split at h
    · simp only [Bool.and_eq_true] at h
      intro x hx
      rcases List.mem_cons.mp hx with q | q
      · rw [q]; exact chk_shape e _ h.1
      · exact chks_shape es _ h.2 x q
    · cases h
theorem shapes_plain {xs : List Expr} (h : ∀ x ∈ xs, okShape x = true) (pos : Pos) (env : PySem.Env) : (backTo pos (starEach xs env)).any (·.1) = false := by
  have e : starEach xs env = xs.map fun x => (false, eval x env) := by
    induction xs with
    | nil => rfl
    | cons x xs ih =>
      rw [shape_star (h x List.mem_cons_self), ih fun y hy => h y (List.mem_cons_of_mem _ hy)]
      rfl
  rw [e]
  cases xs with
  | nil => first | rfl | simp [backTo]
  | cons x r =>
    have : ∀ l : List Expr, (l.map fun x => (false, eval x env)).any (·.1) = false := fun l => by
      rw [List.any_map, List.any_eq_false]
      intro y _
      simp
    first
      | exact this _
      | (simp [backTo, this])

/-! ### the shutting of cells -/
/-- Q holds of the heap as it may be told -/
def Gh (X : Cx) (H : Hp) (Q : Hp → Prop) : Prop := ∀ (pins : List (Addr × Obj)) (σ : L2.St) (s : Shared), Inv X pins σ H s → ∃ H', Inv X pins σ H' s ∧ Q H'
section
variable {X : Cx} {H : Hp}
theorem Gh.here {Q : Hp → Prop} (h : Q H) : Gh X H Q := fun _ _ _ I => ⟨H, I, h⟩
theorem Gh.join {Q : Hp → Prop} (h : Gh X H fun H1 => Gh X H1 Q) : Gh X H Q := fun pins σ s I => by
  obtain ⟨H1, I1, g⟩ := h pins σ s I
  exact g pins σ s I1
theorem Gh.imp {Q Q' : Hp → Prop} (h : Gh X H Q) (f : ∀ H', Q H' → Q' H') : Gh X H Q' := fun pins σ s I => by
  obtain ⟨H1, I1, g⟩ := h pins σ s I
  exact ⟨H1, I1, f _ g⟩
theorem Gh.shut {Q : Hp → Prop} {a : Addr} {vs : List V} (h : H a = some (.lst vs)) (q : ∀ o, Q (upd H a (.frz o (.lst vs)))) : Gh X H Q := fun pins σ s I => by
  obtain ⟨o, J⟩ := shut_ok I h
  exact ⟨_, J, q o⟩
theorem SE.gh {e : Expr} {σ : L2.St} {Q : VK} (h : SE X e σ H fun v H1 => Gh X H1 fun H2 => Q v H2) : SE X e σ H Q := by
  obtain ⟨t, p, q⟩ := h
  refine ⟨fun σ' H' Q' => t σ' H' fun v H1 => Gh X H1 fun H2 => Q' v H2, ⟨fun pins s σ' H' Q' I h' => ?_⟩, q⟩
  refine thn (p.run pins s σ' H' _ I h') fun u s1 ⟨v, H1, I1, r1, g⟩ => ?_
  obtain ⟨H2, I2, q2⟩ := g pins σ' s1 I1
  exact ⟨v, H2, I2, r1, q2⟩
theorem SA.gh {es : List Expr} {σ : L2.St} {Q : List V → Hp → Prop} (h : SA X es σ H fun v H1 => Gh X H1 fun H2 => Q v H2) : SA X es σ H Q := by
  obtain ⟨t, p, q⟩ := h
  refine ⟨fun σ' H' Q' => t σ' H' fun v H1 => Gh X H1 fun H2 => Q' v H2, ⟨fun pos pins s σ' H' Q' I h' => ?_⟩, q⟩
  refine thn (p.run pos pins s σ' H' _ I h') fun u s1 ⟨v, H1, I1, r1, g⟩ => ?_
  obtain ⟨H2, I2, q2⟩ := g pins σ' s1 I1
  exact ⟨v, H2, I2, r1, q2⟩
variable {al : Al} {st st' : Store}
/-- a value made data -/
theorem toD_gh {v : Val} {u : V} {d : D} {Q : Hp → Prop} (r : Rel X.K al H st) (rv : RepW X.K al H v u) (e : toD v st = some (d, st')) (q : ∀ H', Rel X.K al H' st' → Ext al H al H' → RepD X.K H' d u → Q H') : Gh X H Q := by
  cases v with
  | d d' =>
    cases e
    exact .here (q H r (Ext.refl _ _) rv)
  | new xs =>
    cases e
    obtain ⟨a, vs, rfl, ha | ⟨o, ha⟩, hn, rd⟩ := rv
    · exact .shut ha fun o => q _ (r.other hn (stab_upd ha)) (ext_other hn ha) (.lst (.inl ⟨o, upd_same⟩) (rd.mono (stab_upd ha)))
    · exact .here (q H r (Ext.refl _ _) (.lst (.inl ⟨o, ha⟩) rd))
  | ref i =>
    obtain ⟨a, ha, rfl⟩ := rv
    unfold toD at e
    split at e
    · rename_i v' j q1
      cases q1
    · rename_i v' j q1
      cases q1
    · rename_i v' j q1
      cases q1
      split at e
      · rename_i xs hx
        cases e
        obtain ⟨vs, h1, h2⟩ := r.cell i _ a hx ha
        exact .shut h1 fun o => q _ (r.upd ha (stab_upd h1) ⟨o, vs, upd_same, h2.mono (stab_upd h1)⟩) (ext_cell (List.mem_of_getElem? ha) h1) (.lst (.inl ⟨o, upd_same⟩) (h2.mono (stab_upd h1)))
      · rename_i xs hx
        cases e
        obtain ⟨o, vs, h1, h2⟩ := r.cell i _ a hx ha
        exact .here (q H r (Ext.refl _ _) (.lst (.inl ⟨o, h1⟩) h2))
      · cases e
/-- values made data, one after another -/
theorem toDs_gh : ∀ {vs : List Val} {us : List V} {ds : List D} {st st' : Store} {H : Hp} {Q : Hp → Prop}, Rel X.K al H st → RepVs X.K al H vs us → toDs vs st = some (ds, st') →
    (∀ H', Rel X.K al H' st' → Ext al H al H' → RepDs X.K H' ds us → Q H') → Gh X H Q
  | [], _, _, _, _, H, _, r, .nil, e, q => by
    cases e
    exact .here (q H r (Ext.refl _ _) .nil)
  | v :: vs, _, ds, st, st', H, Q, r, .cons h t, e, q => by
    unfold toDs at e
    split at e
    · cases e
    · rename_i d s1 e1
      split at e
      · cases e
      · rename_i ds2 s2 e2
        cases e
        refine .join (toD_gh r h e1 fun H1 r1 x1 rd => ?_)
        refine toDs_gh r1 (RepVs.mono x1 t) e2 fun H2 r2 x2 rds => ?_
        exact q H2 r2 (x1.trans x2) (.cons (rd.mono x2.stab) rds)
/-- what a call hands on: new lists are shut -/
theorem args_gh : ∀ {vs : List Val} {us : List V} {st : Store} {H : Hp} {Q : Hp → Prop}, Rel X.K al H st → RepVs X.K al H vs us →
    (∀ H', Rel X.K al H' st → Ext al H al H' → RepVs X.K al H' (vs.map argV) us → Q H') → Gh X H Q
  | [], _, _, H, _, r, .nil, q => .here (q H r (Ext.refl _ _) .nil)
  | v :: vs, _, st, H, Q, r, .cons h t, q => by
    have e : ∃ d st', (v = .d d ∨ (∃ i, v = .ref i) ∨ ∃ xs, v = .new xs ∧ d = .lst xs ∧ toD v st = some (d, st') ∧ st' = st) := by
      cases v with
      | d d => exact ⟨d, st, .inl rfl⟩
      | ref i => exact ⟨.non, st, .inr (.inl ⟨i, rfl⟩)⟩
      | new xs => exact ⟨_, st, .inr (.inr ⟨xs, rfl, rfl, rfl, rfl⟩)⟩
    obtain ⟨d, st', rfl | ⟨i, rfl⟩ | ⟨xs, rfl, rfl, e1, rfl⟩⟩ := e
    · exact args_gh r t fun H1 r1 x1 rs => q H1 r1 x1 (.cons (RepW.mono x1 h) rs)
    · exact args_gh r t fun H1 r1 x1 rs => q H1 r1 x1 (.cons (RepW.mono x1 h) rs)
    · refine .join (toD_gh r h e1 fun H1 r1 x1 rd => ?_)
      exact args_gh r1 (RepVs.mono x1 t) fun H2 r2 x2 rs => q H2 r2 (x1.trans x2) (.cons (RepD.mono x2.stab rd) rs)
theorem argV_new (vs : List Val) : ∀ a ∈ vs.map argV, isNew a = false := by
  intro a ha
  obtain ⟨v, _, rfl⟩ := List.mem_map.mp ha
  cases v <;> rfl
end

/-! ### targets -/
section
variable {N : List Str} {sc : Scope} {k : Nat} {X : Cx} {al : Al} {H : Hp}
theorem wipe_set {σ : L2.St} {v : Option V} : ∀ {is : List Nat} {i : Nat}, i ∈ is → wipe (σ.set i v) is = wipe σ is
  | j :: is, i, h => by
    unfold wipe
    by_cases e : i = j
    · subst e
      by_cases hm : i ∈ is
      · rw [wipe_set hm]
      · have comm : ∀ (l : List Nat), i ∉ l → wipe (σ.set i v) l = (wipe σ l).set i v := by
          intro l hl
          induction l with
          | nil => rfl
          | cons a l ih =>
            unfold wipe
            rw [ih (fun z => hl (List.mem_cons_of_mem _ z)), List.set_comm _ _ (fun z => hl (by rw [z]; exact List.mem_cons_self))]
        rw [comm is hm, List.set_set]
    · have hm : i ∈ is := by
        rcases List.mem_cons.mp h with q | q
        · exact absurd q e
        · exact q
      rw [wipe_set hm]
def slotsLen : Tgs → Nat
  | .nil => 0
  | .cons _ ts => slotsLen ts + 1
def SndG (N : List Str) (t : Tg) : Prop := ∀ ⦃sc : Scope⦄ ⦃k : Nat⦄ ⦃X : Cx⦄ ⦃al : Al⦄ ⦃H : Hp⦄ ⦃ex : Expr⦄ ⦃d : D⦄ ⦃v : V⦄ ⦃env env1 : Env⦄ ⦃σ : L2.St⦄ ⦃Q : L2.St → Hp → Prop⦄, Good N sc k X → chkG N sc t ex = true →
  EnvR X.K al H env σ → RepD X.K H d v → bindT t d env = some env1 → (∀ σ1, EnvR X.K al H env1 σ1 → (∀ is, (∀ i ∈ slotsT t, i ∈ is) → wipe σ1 is = wipe σ is) → Q σ1 H) → SG X ex v σ H Q
def SndGs (N : List Str) (t : Tgs) : Prop := ∀ ⦃sc : Scope⦄ ⦃k : Nat⦄ ⦃X : Cx⦄ ⦃al : Al⦄ ⦃H : Hp⦄ ⦃exs : List Expr⦄ ⦃ds : List D⦄ ⦃vs : List V⦄ ⦃env env1 : Env⦄ ⦃σ : L2.St⦄ ⦃Q : L2.St → Hp → Prop⦄, Good N sc k X → chkGs N sc t exs = true →
  EnvR X.K al H env σ → RepDs X.K H ds vs → bindTs t ds env = some env1 → (∀ σ1, EnvR X.K al H env1 σ1 → (∀ is, (∀ i ∈ slotsTs t, i ∈ is) → wipe σ1 is = wipe σ is) → Q σ1 H) → SGs X exs vs σ H Q
theorem chkGs_len : ∀ (t : Tgs) (exs : List Expr), chkGs N sc t exs = true → exs.length = (slotsLen t)
  | .nil, [], _ => rfl
  | .cons t ts, [], h => by unfold chkGs at h; cases h
  | .nil, _ :: _, h => by unfold chkGs at h; cases h
  | .cons t ts, x :: xs, h => by
    unfold chkGs at h
    simp only [Bool.and_eq_true] at h
    exact congrArg (· + 1) (chkGs_len ts xs h.2)
theorem bindTs_len : ∀ (t : Tgs) (ds : List D) (env env1 : Env), bindTs t ds env = some env1 → ds.length = slotsLen t
  | .nil, [], _, _, _ => rfl
  | .cons t ts, [], _, _, h => by unfold bindTs at h; cases h
  | .nil, _ :: _, _, _, h => by unfold bindTs at h; cases h
  | .cons t ts, x :: xs, env, env1, h => by
    unfold bindTs at h
    split at h
    · exact congrArg (· + 1) (bindTs_len ts xs _ _ h)
    · cases h
theorem chkGs_star : ∀ {t : Tgs} {exs : List Expr} (env : PySem.Env), chkGs N sc t exs = true → (assignEach exs env).map (·.2) = exs.map (fun e => assign e env) ∧ (assignEach exs env).findIdx? (·.1) = none ∧ (assignEach exs env).length = exs.length
  | .nil, [], _, _ => ⟨rfl, rfl, rfl⟩
  | .cons t ts, [], _, h => by unfold chkGs at h; cases h
  | .nil, _ :: _, _, h => by unfold chkGs at h; cases h
  | .cons t ts, x :: xs, env, h => by
    unfold chkGs at h
    simp only [Bool.and_eq_true] at h
    obtain ⟨h1, h2, h3⟩ := chkGs_star env h.2
    have e : assignEach (x :: xs) env = (false, assign x env) :: assignEach xs env := by
      cases t <;> cases x <;> first | rfl | (have := h.1; unfold chkG at this; cases this)
    refine ⟨by rw [e, List.map_cons, h1]; rfl, ?_, by rw [e, List.length_cons, h3]; rfl⟩
    rw [e, List.findIdx?_cons]
    simp [h2]
mutual
theorem snd_G : ∀ t : Tg, SndG N t
  | .name i => by
    intro sc k X al H ex d v env env1 σ Q g hc hE hd hb q
    unfold chkG at hc
    split at hc
    · rename_i j x p heq
      cases heq
      unfold isSet at hc
      simp only [Bool.and_eq_true, decide_eq_true_eq] at hc
      cases hb
      obtain ⟨l1, l2⟩ := g.loc x hc.1.2
      refine ⟨_, pg_name (by rw [g.n]; exact g.nd) (by rw [g.n]; exact hc.1.1) l1 l2, ?_⟩
      refine q _ (hE.set (v := .d d) rfl hd i) fun is his => wipe_set (his i ?_)
      unfold slotsT
      simp
    · rename_i heq; cases heq
    · cases hc
  | .tup ts => by
    intro sc k X al H ex d v env env1 σ Q g hc hE hd hb q
    unfold chkG at hc
    split at hc
    · rename_i heq; cases heq
    · rename_i ts' xs kk pp heq
      cases heq
      unfold bindT at hb
      split at hb
      · rename_i dxs
        cases hd with
        | @tup a _ vs h1 h2 =>
          obtain ⟨s1, s2, s3⟩ := chkGs_star X.env hc
          refine ⟨_, pg_tup g.calm pgs_SGs (hn := s3) (hst := s2), a, vs, rfl, h1, ?_, ?_⟩
          · have l1 := bindTs_len ts dxs env env1 hb
            have l2 := chkGs_len ts xs hc
            have l3 := h2.length
            omega
          · refine snd_Gs ts g hc hE h2 hb fun σ1 e1 w1 => q σ1 e1 fun is his => w1 is fun i hi => his i ?_
            unfold slotsT
            exact hi
      · cases hb
    · cases hc
theorem snd_Gs : ∀ t : Tgs, SndGs N t
  | .nil => by
    intro sc k X al H exs ds vs env env1 σ Q g hc hE hd hb q
    cases exs with
    | nil =>
      cases ds with
      | nil =>
        cases hd
        cases hb
        exact ⟨_, pgs_nil, rfl, q _ hE fun _ _ => rfl⟩
      | cons _ _ => unfold bindTs at hb; cases hb
    | cons _ _ => unfold chkGs at hc; cases hc
  | .cons t ts => by
    intro sc k X al H exs ds vs env env1 σ Q g hc hE hd hb q
    cases exs with
    | nil => unfold chkGs at hc; cases hc
    | cons x xs =>
      cases ds with
      | nil => unfold bindTs at hb; cases hb
      | cons d ds =>
        cases hd with
        | cons hd1 hd2 =>
          unfold bindTs at hb
          split at hb
          · rename_i e1 hb1
            obtain ⟨s1, _, _⟩ := chkGs_star X.env hc
            unfold chkGs at hc
            simp only [Bool.and_eq_true] at hc
            obtain ⟨s2, _, _⟩ := chkGs_star X.env hc.2
            refine ⟨_, pgs_cons (pg_SG (e := x)) (pgs_SGs (es := xs)) (hs := by rw [s1, s2]; rfl), _, _, rfl, ?_⟩
            refine snd_G t g hc.1 hE hd1 hb1 fun σ1 e1 w1 => ?_
            refine snd_Gs ts g hc.2 e1 hd2 hb fun σ2 e2 w2 => q σ2 e2 fun is his => ?_
            rw [w2 is fun i hi => his i (by unfold slotsTs; exact List.mem_append_right _ hi), w1 is fun i hi => his i (by unfold slotsTs; exact List.mem_append_left _ hi)]
          · cases hb
end
end

/-! ### blocks of comprehensions -/
theorem look_fwd {sc : Scope} : ∀ {names : List (Str × NameKind)} {x : Str} {k : NameKind}, names.lookup x = some k →
    ∃ k', (names.map fun (n, k) => if (k == NameKind.free && sc.kind == .function && sc.names.lookup n == some .cell) then (n, NameKind.cell) else (n, k)).lookup x = some k' ∧ (k' = k ∨ (k = .free ∧ k' = .cell))
  | [], _, _, h => by simp at h
  | (n, k₀) :: r, x, k, h => by
    have ih := @look_fwd sc r x k
    show ∃ k', List.lookup x ((if (k₀ == NameKind.free && sc.kind == .function && sc.names.lookup n == some .cell) = true then (n, NameKind.cell) else (n, k₀)) :: (r.map _)) = some k' ∧ _
    cases hx : x == n with
    | true =>
      simp only [List.lookup_cons, hx] at h
      obtain rfl : k₀ = k := Option.some.inj h
      by_cases hc : (k₀ == NameKind.free && sc.kind == .function && sc.names.lookup n == some .cell) = true
      · rw [if_pos hc]
        simp only [List.lookup_cons, hx]
        simp only [Bool.and_eq_true, beq_iff_eq] at hc
        exact ⟨_, rfl, .inr ⟨hc.1.1, rfl⟩⟩
      · rw [if_neg hc]
        simp only [List.lookup_cons, hx]
        exact ⟨_, rfl, .inl rfl⟩
    | false =>
      simp only [List.lookup_cons, hx] at h
      have : List.lookup x ((if (k₀ == NameKind.free && sc.kind == .function && sc.names.lookup n == some .cell) = true then (n, NameKind.cell) else (n, k₀)) :: (r.map fun (n, k) => if (k == NameKind.free && sc.kind == .function && sc.names.lookup n == some .cell) then (n, NameKind.cell) else (n, k)))
          = List.lookup x (r.map fun (n, k) => if (k == NameKind.free && sc.kind == .function && sc.names.lookup n == some .cell) then (n, NameKind.cell) else (n, k)) := by
        split <;> simp only [List.lookup_cons, hx]
      rw [this]
      exact ih h
section
variable {N : List Str} {sc : Scope} {k : Nat} {X : Cx}
theorem Good.blk (g : Good N sc k X) (scope : Scope) (hk : scope.kind = .function) (s : Shared) (H : Hp) (C : Addr) (cl : List (Str × Addr)) (fp : List Addr) : Good N scope k (X.blk s H scope (compEnvC scope cl C X.env) fp) := by
  have fwd : ∀ {x : Str} {kd : NameKind}, scope.names.lookup x = some kd → ∃ k', (compEnvC scope cl C X.env).scope.names.lookup x = some k' ∧ (k' = kd ∨ (kd = .free ∧ k' = .cell)) := fun {x kd} h => look_fwd (sc := X.env.scope) h
  refine ⟨g.n, g.nd, g.calm, g.room, fun x h => ?_, fun x h => ?_, fun x h => ?_, fun x h => ?_, fun x h => ?_, fun x h => ?_, hk⟩
  · unfold Pv.vis at h
    split at h
    · rename_i e
      obtain ⟨k', h1, rfl | ⟨h2, _⟩⟩ := fwd e
      · exact .inl h1
      · cases h2
    · rename_i e
      obtain ⟨k', h1, rfl | ⟨h2, _⟩⟩ := fwd e
      · exact .inr (.inl h1)
      · cases h2
    · rename_i e
      obtain ⟨k', h1, rfl | ⟨_, rfl⟩⟩ := fwd e
      · exact .inr (.inr h1)
      · exact .inr (.inl h1)
    · cases h
  · unfold Pv.locl at h
    split at h
    · rename_i e
      obtain ⟨k', h1, rfl | ⟨h2, _⟩⟩ := fwd e
      · exact ⟨.inl h1, .inr h1⟩
      · cases h2
    · rename_i e
      obtain ⟨k', h1, rfl | ⟨h2, _⟩⟩ := fwd e
      · exact ⟨.inr h1, .inl (by show (scope.names.lookup x == some .cell) = true; rw [e]; rfl)⟩
      · cases h2
    · cases h
  · obtain ⟨k', h1, rfl | ⟨h2, _⟩⟩ := fwd h
    · exact h1
    · cases h2
  · obtain ⟨k', h1, rfl | ⟨h2, _⟩⟩ := fwd h
    · exact h1
    · cases h2
  · unfold Pv.gl at h
    split at h
    · rename_i e
      obtain ⟨k', h1, rfl | ⟨h2, _⟩⟩ := fwd e
      · exact h1
      · cases h2
    · cases h
  · rcases h with h | h
    · obtain ⟨k', h1, rfl | ⟨h2, _⟩⟩ := fwd h
      · exact .inl h1
      · cases h2
    · obtain ⟨k', h1, rfl | ⟨_, rfl⟩⟩ := fwd h
      · exact .inr h1
      · exact .inl h1
theorem Good.blkOk (g : Good N sc k X) {scope : Scope} {own : List (Str × Nat)} (h : L2.blkC N sc scope own = true) : BlkOk X.N X.env.scope scope own := by
  have b := blkOk_by h
  refine ⟨b.kind, b.uniq, by rw [g.n]; exact b.ix, fun y hy e => g.fre _ (b.free y hy e), by rw [g.n]; exact b.own⟩
end

/-! ### what is walked -/
/-- J walks the items of w -/
def Wk (K : Frag) (al : Al) (H0 : Hp) (w : Walk) (J : L2.It) : Prop :=
  ∀ (al' : Al) H st, Ext al H0 ⟨al'.c, al.p⟩ H → Rel K al' H st → w.ok st = true →
    (∀ (i : Nat) (d : D), w.items[i]? = some d → J.go i H ∧ ∀ x H', J.yld i H x H' → Rel K al' H' st ∧ Ext al' H al' H' ∧ RepD K H' d x) ∧ ∀ i, w.items.length ≤ i → J.stop i H
theorem pi_any {X : Cx} {tg e : Expr} {te : TE} (he : PE X e te) : PI X tg e (fun σ H R => te σ H fun x H1 =>
    (∃ a, x = .ref a ∧ (∃ xs, SqL X.K H1 a xs) ∧ R (Itl X.K a) H1) ∨ (∃ a, x = .ref a ∧ (∃ xs, SqT X.K H1 a xs) ∧ R (Itt X.K a) H1) ∨ (∃ z, x = .str z ∧ R (Its z) H1)) := by
  refine ⟨fun pins s σ H R I h => ?_⟩
  refine thn (he.run pins s σ H _ I h) fun v s1 ⟨x, H1, I1, r1, q1⟩ => ?_
  rcases q1 with ⟨a, e, ⟨xs, hq⟩, q⟩ | ⟨a, e, ⟨xs, hq⟩, q⟩ | ⟨z, e, q⟩
  · subst e
    cases r1
    obtain ⟨its, rv, p, hz⟩ := I1.list hq
    refine wpAny_pyIter_list p.isList ?_
    refine ⟨s1.heap.objs.size, [s1.heap.objs.size], _, _, H1, rfl, I1.kept (t' := s1.toks) fun b o e => Heap.get?_push_of_some _ e, turn_list a _, ⟨_, Heap.get?_push_size _ rfl, rfl, rfl⟩, fun b hb => ?_, q⟩
    have e : b = s1.heap.objs.size := by simpa using hb
    subst e
    exact I1.fpOk (Nat.le_refl _) (I1.hok.fresh (Nat.le_refl _))
  · subst e
    cases r1
    obtain ⟨its, rv, p, hz⟩ := I1.tuple hq
    refine wpAny_pyIter_tuple (show s1.heap.IsTuple a its.toArray from p) ?_
    refine ⟨s1.heap.objs.size, [s1.heap.objs.size], _, _, H1, rfl, I1.kept (t' := s1.toks) fun b o e => Heap.get?_push_of_some _ e, turn_tuple a _, ⟨_, Heap.get?_push_size _ rfl, rfl, rfl⟩, fun b hb => ?_, q⟩
    have e : b = s1.heap.objs.size := by simpa using hb
    subst e
    exact I1.fpOk (Nat.le_refl _) (I1.hok.fresh (Nat.le_refl _))
  · subst e
    obtain ⟨t, rfl⟩ := r1
    cases ha : z.cps.all (· < 128)
    · exact wpAny_pyIter_wide ha (pi_one (tk := s1.toks) I1 _ (turn_str _ z t "str_iterator" (.inr rfl)) ⟨_, Heap.get?_push_size _ rfl, rfl, rfl⟩ q)
    · exact wpAny_pyIter_ascii ha (pi_one (tk := s1.toks) I1 _ (turn_str _ z t "str_ascii_iterator" (.inl rfl)) ⟨_, Heap.get?_push_size _ rfl, rfl, rfl⟩ q)
section
variable {K : Frag} {al : Al} {H : Hp}
/-- a list that stands -/
theorem wk_list {a : Addr} {xs : List D} {g : Option (Nat × List D)} (h : ∀ (al' : Al) H' st, Ext al H ⟨al'.c, al.p⟩ H' → Rel K al' H' st → Walk.ok ⟨xs, g⟩ st = true → ∃ vs, SqL K H' a vs ∧ RepDs K H' xs vs)
    (inj : ∀ H' vs ws, SqL K H' a vs → SqL K H' a ws → True) : Wk K al H ⟨xs, g⟩ (Itl K a) := by
  intro al' H' st x r ok
  obtain ⟨vs, hs, rd⟩ := h al' H' st x r ok
  refine ⟨fun i d hd => ?_, fun i hi => ⟨vs, hs, by rw [← rd.length]; exact hi⟩⟩
  obtain ⟨v, hv, rv⟩ := rd.get hd
  refine ⟨⟨vs, v, hs, hv⟩, fun y H2 hy => ?_⟩
  obtain ⟨e, hy⟩ := hy
  subst e
  have e2 := hy vs hs
  rw [hv] at e2
  cases e2
  exact ⟨r, Ext.refl _ _, rv⟩
theorem wk_tup {a : Addr} {xs : List D} {g : Option (Nat × List D)} (h : ∀ (al' : Al) H' st, Ext al H ⟨al'.c, al.p⟩ H' → Rel K al' H' st → Walk.ok ⟨xs, g⟩ st = true → ∃ vs, SqT K H' a vs ∧ RepDs K H' xs vs) : Wk K al H ⟨xs, g⟩ (Itt K a) := by
  intro al' H' st x r ok
  obtain ⟨vs, hs, rd⟩ := h al' H' st x r ok
  refine ⟨fun i d hd => ?_, fun i hi => ⟨vs, hs, by rw [← rd.length]; exact hi⟩⟩
  obtain ⟨v, hv, rv⟩ := rd.get hd
  refine ⟨⟨vs, v, hs, hv⟩, fun y H2 hy => ?_⟩
  obtain ⟨e, hy⟩ := hy
  subst e
  have e2 := hy vs hs
  rw [hv] at e2
  cases e2
  exact ⟨r, Ext.refl _ _, rv⟩
theorem wk_str {z : Tx} : Wk K al H ⟨z.map fun c => D.str [c], none⟩ (Its (txt z)) := by
  intro al' H' st x r ok
  refine ⟨fun i d hd => ?_, fun i hi => ?_⟩
  · rw [List.getElem?_map] at hd
    cases q : z[i]? with
    | none => rw [q] at hd; cases hd
    | some c =>
      rw [q] at hd
      cases hd
      refine ⟨?_, fun y H2 hy => ?_⟩
      · show i < z.toArray.size
        rw [List.size_toArray]
        rcases Nat.lt_or_ge i z.length with w | w
        · exact w
        · rw [List.getElem?_eq_none w] at q; cases q
      · obtain ⟨e, c', hc', e2⟩ := hy
        subst e e2
        have hc' : z.toArray[i]? = some c' := hc'
        rw [List.getElem?_toArray, q] at hc'
        cases hc'
        exact ⟨r, Ext.refl _ _, .str [c]⟩
  · show z.toArray.size ≤ i
    rw [List.size_toArray]
    rw [List.length_map] at hi
    exact hi
theorem wk_rng {lo : Int} {n : Nat} : Wk K al H ⟨rangeL lo n, none⟩ (Itr lo n) := by
  intro al' H' st x r ok
  unfold rangeL
  refine ⟨fun i d hd => ?_, fun i hi => (by simpa using hi : n ≤ i)⟩
  rw [List.getElem?_map] at hd
  cases q : (List.range n)[i]? with
  | none => rw [q] at hd; cases hd
  | some c =>
    rw [q] at hd
    cases hd
    obtain ⟨h1, h2⟩ := List.getElem?_eq_some_iff.mp q
    have hl : i < n := by simpa using h1
    have hc : c = i := by rw [← h2]; simp
    subst hc
    refine ⟨hl, fun y H2 hy => ?_⟩
    obtain ⟨e, e2⟩ := hy
    subst e e2
    exact ⟨r, Ext.refl _ _, .int _⟩
theorem wk_rngD {lo c : Int} {n : Nat} : Wk K al H ⟨rangeD lo c n, none⟩ (Itc lo c n) := by
  intro al' H' st x r ok
  unfold rangeD
  refine ⟨fun i d hd => ?_, fun i hi => (by simpa using hi : n ≤ i)⟩
  rw [List.getElem?_map] at hd
  cases q : (List.range n)[i]? with
  | none => rw [q] at hd; cases hd
  | some m =>
    rw [q] at hd
    cases hd
    obtain ⟨h1, h2⟩ := List.getElem?_eq_some_iff.mp q
    have hl : i < n := by simpa using h1
    have hc : m = i := by rw [← h2]; simp
    subst hc
    refine ⟨hl, fun y H2 hy => ?_⟩
    obtain ⟨e, e2⟩ := hy
    subst e e2
    exact ⟨r, Ext.refl _ _, .int _⟩
/-- what a value's walk is -/
theorem walk_ok {X : Cx} {mg : Str → Option Value} {st : Store} {Ex : Value → Hp → Prop} {R : L2.It → Hp → Prop} {v : Val} {u : V} (r : Rel X.K al H st) (rv : RepV X.K al H v u)
    (h : PostR X.K mg al H Ex (fun w st' H' => ∀ J, Wk X.K al H' w J → R J H') (walkV v st)) :
    (∃ a, u = .ref a ∧ (∃ xs, SqL X.K H a xs) ∧ R (Itl X.K a) H) ∨ (∃ a, u = .ref a ∧ (∃ xs, SqT X.K H a xs) ∧ R (Itt X.K a) H) ∨ (∃ z, u = .str z ∧ R (Its z) H) := by
  unfold walkV at h
  split at h
  · rename_i z
    cases rv
    exact .inr (.inr ⟨_, rfl, fin0 r h _ wk_str⟩)
  · rename_i xs
    cases rv with
    | @tup a _ vs h1 h2 => exact .inr (.inl ⟨a, rfl, ⟨vs, h1⟩, fin0 r h _ (wk_tup fun al' H' st' x _ _ => ⟨vs, x.stab.sqT h1, h2.mono x.stab⟩)⟩)
  · rename_i xs
    cases rv with
    | @lst a _ vs h1 h2 => exact .inl ⟨a, rfl, ⟨vs, h1.sq⟩, fin0 r h _ (wk_list (fun al' H' st' x _ _ => ⟨vs, (x.stab.fzL h1).sq, h2.mono x.stab⟩) fun _ _ _ _ _ => trivial)⟩
  · rename_i xs
    obtain ⟨a, vs, rfl, ha, hn, rd⟩ := rv
    refine .inl ⟨a, rfl, ⟨vs, .inl (.inl ha)⟩, fin0 r h _ (wk_list (fun al' H' st' x _ _ => ⟨vs, ?_, rd.mono x.stab⟩) fun _ _ _ _ _ => trivial)⟩
    rcases x.oth a _ hn ha with z | ⟨ws, o, e, z⟩
    · exact .inl (.inl z)
    · cases e; exact .inl (.inr ⟨o, z⟩)
  · rename_i i
    obtain ⟨a, ha, rfl⟩ := rv
    split at h
    · rename_i c hc
      obtain ⟨vs, hs, rd⟩ := (r.cell i c a hc ha).items
      refine .inl ⟨a, rfl, ⟨vs, hs⟩, fin0 r h _ (wk_list (fun al' H' st' x r' ok => ?_) fun _ _ _ _ _ => trivial)⟩
      unfold Walk.ok at ok
      simp only at ok
      split at ok
      · rename_i c' hc'
        have e : c'.items = c.items := of_decide_eq_true ok
        obtain ⟨β, ex⟩ := x.pre
        have hl : i < al.c.length := by
          rcases Nat.lt_or_ge i al.c.length with q | q
          · exact q
          · rw [List.getElem?_eq_none q] at ha; cases ha
        obtain ⟨vs', hs', rd'⟩ := (r'.cell i c' a hc' (by rw [ex, List.getElem?_append_left hl]; exact ha)).items
        exact ⟨vs', hs', by rw [← e]; exact rd'⟩
      · cases ok
    · exact h.elim
  · exact h.elim
end
end Pv

/-! Expressions: the evaluator's answers are the model's. -/
namespace Pv
open PySem PySem.Spec PyProof.Rows L2 TL

abbrev PostE (X : Cx) (al : Al) (H : Hp) (σ : L2.St) (W : WX) (Q : VK) : R Val → Prop :=
  PostR X.K X.mg al H (fun C H' => W C none σ H') (fun v _ H' => ∀ u, RepV X.K al H' v u → Q u H')
abbrev PostB (X : Cx) (al : Al) (H : Hp) (σ : L2.St) (W : WX) (Q : Bool → Hp → Prop) : R Bool → Prop :=
  PostR X.K X.mg al H (fun C H' => W C none σ H') (fun v _ H' => Q v H')
abbrev PostA (X : Cx) (al : Al) (H : Hp) (σ : L2.St) (W : WX) (Q : List V → Hp → Prop) : R (List Val) → Prop :=
  PostR X.K X.mg al H (fun C H' => W C none σ H') (fun v _ H' => ∀ us, RepVs X.K al H' v us → Q us H')
abbrev PostI (X : Cx) (al : Al) (H : Hp) (σ : L2.St) (W : WX) (R' : L2.It → Hp → Prop) : R Walk → Prop :=
  PostR X.K X.mg al H (fun C H' => W C none σ H') (fun w _ H' => ∀ J, Wk X.K al H' w J → R' J H')

section
variable {cx : Cxt} {N : List Str}
def SndE (cx : Cxt) (N : List Str) (e : E) : Prop := ∀ ⦃X : Cx⦄ ⦃k : Nat⦄ ⦃sc : Scope⦄ ⦃ex : Expr⦄ ⦃al : Al⦄ ⦃H : Hp⦄ ⦃σ : L2.St⦄ ⦃env : Env⦄ ⦃st : Store⦄ ⦃W : WX⦄ ⦃Q : VK⦄,
  Good N sc k X → Tab cx k X.prog X.w X.K X.mg X.base → chkE N sc e ex = true → Rel X.K al H st → EnvR X.K al H env σ → Takes X W → PostE X al H σ W Q (evE cx e env st) → SE X ex σ H Q
def SndEs (cx : Cxt) (N : List Str) (es : Es) : Prop := ∀ ⦃X : Cx⦄ ⦃k : Nat⦄ ⦃sc : Scope⦄ ⦃exs : List Expr⦄ ⦃al : Al⦄ ⦃H : Hp⦄ ⦃σ : L2.St⦄ ⦃env : Env⦄ ⦃st : Store⦄ ⦃W : WX⦄ ⦃Q : List V → Hp → Prop⦄,
  Good N sc k X → Tab cx k X.prog X.w X.K X.mg X.base → chkEs N sc es exs = true → Rel X.K al H st → EnvR X.K al H env σ → Takes X W → PostA X al H σ W Q (evEs cx es env st) → SA X exs σ H Q
def SndAnd (cx : Cxt) (N : List Str) (es : Es) : Prop := ∀ ⦃X : Cx⦄ ⦃k : Nat⦄ ⦃sc : Scope⦄ ⦃exs : List Expr⦄ ⦃pos : Pos⦄ ⦃al : Al⦄ ⦃H : Hp⦄ ⦃σ : L2.St⦄ ⦃env : Env⦄ ⦃st : Store⦄ ⦃W : WX⦄ ⦃Q : VK⦄,
  Good N sc k X → Tab cx k X.prog X.w X.K X.mg X.base → chkEs N sc es exs = true → Rel X.K al H st → EnvR X.K al H env σ → Takes X W → PostE X al H σ W Q (evAnd cx es env st) → SE X (.BoolOp .And exs pos) σ H Q
def SndOr (cx : Cxt) (N : List Str) (es : Es) : Prop := ∀ ⦃X : Cx⦄ ⦃k : Nat⦄ ⦃sc : Scope⦄ ⦃exs : List Expr⦄ ⦃pos : Pos⦄ ⦃al : Al⦄ ⦃H : Hp⦄ ⦃σ : L2.St⦄ ⦃env : Env⦄ ⦃st : Store⦄ ⦃W : WX⦄ ⦃Q : VK⦄,
  Good N sc k X → Tab cx k X.prog X.w X.K X.mg X.base → chkEs N sc es exs = true → Rel X.K al H st → EnvR X.K al H env σ → Takes X W → PostE X al H σ W Q (evOr cx es env st) → SE X (.BoolOp .Or exs pos) σ H Q
def SndT (cx : Cxt) (N : List Str) (e : E) : Prop := ∀ ⦃X : Cx⦄ ⦃k : Nat⦄ ⦃sc : Scope⦄ ⦃ex : Expr⦄ ⦃al : Al⦄ ⦃H : Hp⦄ ⦃σ : L2.St⦄ ⦃env : Env⦄ ⦃st : Store⦄ ⦃W : WX⦄ ⦃Q : Bool → Hp → Prop⦄,
  Good N sc k X → Tab cx k X.prog X.w X.K X.mg X.base → chkE N sc e ex = true → Rel X.K al H st → EnvR X.K al H env σ → Takes X W → PostB X al H σ W Q (evT cx e env st) → ST X ex σ H Q
def SndTA (cx : Cxt) (N : List Str) (es : Es) : Prop := ∀ ⦃X : Cx⦄ ⦃k : Nat⦄ ⦃sc : Scope⦄ ⦃exs : List Expr⦄ ⦃pos : Pos⦄ ⦃al : Al⦄ ⦃H : Hp⦄ ⦃σ : L2.St⦄ ⦃env : Env⦄ ⦃st : Store⦄ ⦃W : WX⦄ ⦃Q : Bool → Hp → Prop⦄,
  Good N sc k X → Tab cx k X.prog X.w X.K X.mg X.base → chkEs N sc es exs = true → exs ≠ [] → Rel X.K al H st → EnvR X.K al H env σ → Takes X W → PostB X al H σ W Q (evTA cx es env st) → SW X (.BoolOp .And exs pos) σ H Q
def SndTO (cx : Cxt) (N : List Str) (es : Es) : Prop := ∀ ⦃X : Cx⦄ ⦃k : Nat⦄ ⦃sc : Scope⦄ ⦃exs : List Expr⦄ ⦃pos : Pos⦄ ⦃al : Al⦄ ⦃H : Hp⦄ ⦃σ : L2.St⦄ ⦃env : Env⦄ ⦃st : Store⦄ ⦃W : WX⦄ ⦃Q : Bool → Hp → Prop⦄,
  Good N sc k X → Tab cx k X.prog X.w X.K X.mg X.base → chkEs N sc es exs = true → exs ≠ [] → Rel X.K al H st → EnvR X.K al H env σ → Takes X W → PostB X al H σ W Q (evTO cx es env st) → SW X (.BoolOp .Or exs pos) σ H Q
def SndC (cx : Cxt) (N : List Str) (es : Es) : Prop := ∀ ⦃X : Cx⦄ ⦃k : Nat⦄ ⦃sc : Scope⦄ ⦃exs : List Expr⦄ ⦃al : Al⦄ ⦃H : Hp⦄ ⦃σ : L2.St⦄ ⦃env : Env⦄ ⦃st : Store⦄ ⦃W : WX⦄ ⦃Q : Bool → Hp → Prop⦄,
  Good N sc k X → Tab cx k X.prog X.w X.K X.mg X.base → chkEs N sc es exs = true → Rel X.K al H st → EnvR X.K al H env σ → Takes X W → PostB X al H σ W Q (evC cx es env st) → SC X exs σ H Q
def SndI (cx : Cxt) (N : List Str) (it : It) : Prop := ∀ ⦃X : Cx⦄ ⦃k : Nat⦄ ⦃sc : Scope⦄ ⦃tg ex : Expr⦄ ⦃al : Al⦄ ⦃H : Hp⦄ ⦃σ : L2.St⦄ ⦃env : Env⦄ ⦃st : Store⦄ ⦃W : WX⦄ ⦃R' : L2.It → Hp → Prop⦄,
  Good N sc k X → Tab cx k X.prog X.w X.K X.mg X.base → (chkI N sc it ex && tgI it tg) = true → Rel X.K al H st → EnvR X.K al H env σ → Takes X W → PostI X al H σ W R' (evI cx it env st) → SI X tg ex σ H R'

theorem evEs_len : ∀ (es : Es) (env : Env) (st : Store) (vs : List Val) (st' : Store) (sc : Scope) (exs : List Expr), chkEs N sc es exs = true → evEs cx es env st = .ok vs st' → vs.length = exs.length
  | .nil, env, st, vs, st', sc, exs, hc, h => by
    unfold chkEs at hc
    split at hc
    · unfold evEs at h; cases h; rfl
    · cases hc
  | .cons e es, env, st, vs, st', sc, exs, hc, h => by
    unfold chkEs at hc
    split at hc
    · simp only [Bool.and_eq_true] at hc
      unfold evEs at h
      cases q : evE cx e env st with
      | ok v s1 =>
        rw [q] at h
        cases q2 : evEs cx es env s1 with
        | ok vs2 s2 =>
          have h : R.bind (evEs cx es env s1) (fun vs s2 => R.ok (v :: vs) s2) = .ok vs st' := h
          rw [q2] at h
          cases h
          exact congrArg (· + 1) (evEs_len es env s1 vs2 _ sc _ hc.2 q2)
        | exc c s2 =>
          have h : R.bind (evEs cx es env s1) (fun vs s2 => R.ok (v :: vs) s2) = .ok vs st' := h
          rw [q2] at h; cases h
        | err =>
          have h : R.bind (evEs cx es env s1) (fun vs s2 => R.ok (v :: vs) s2) = .ok vs st' := h
          rw [q2] at h; cases h
      | exc c s1 => rw [q] at h; cases h
      | err => rw [q] at h; cases h
    · cases hc
/-- f() -/
theorem pe_callS0 {X : Cx} {CX : CXT} {k : Nat} {f : Addr} {fd : FuncData} {ps : List Str} {sp : Sp} {E : L2.St → XK} {x : Str} {p pos : Pos} (F : FnOk X.prog X.w X.K X.mg X.base CX k f fd ps sp) (hr : Room k X.A) (hg : Gl X x) (hm : X.mg x = some (.ref f)) (hk : PySem.W.keepIn X.K (.ref f) = true) (hb : Binds X.K fd ps []) (hx : ∀ σ, PassesAt CX X σ (E σ))
    (hdb : (x == ("__debug__" : Str)) = false) : PE X (.Call (.Name x p) [] [] pos) (tCallS sp E tNil) := by
  refine ⟨fun pins s σ H Q I h => ?_⟩
  refine wpAny_Call_Name_kw (ld_glob I hg hm ?_ hdb)
  exact PySem.W.callWith_K0 I.kIn hk (run_fnS (us := []) F hr hb (hx σ) I .nil h)
theorem Good.units {k : Nat} {sc : Scope} {X : Cx} (g : Good N sc k X) : X.A.units + 64 < cLine := g.room.units
theorem isBlt_ok {k : Nat} {sc : Scope} {X : Cx} {n x : Str} (g : Good N sc k X) (T : Tab cx k X.prog X.w X.K X.mg X.base) (hn : n ∈ bltNames) (h : isBlt sc n x = true) : x = n ∧ Gl X x ∧ X.mg x = none ∧ x ≠ "__name__" ∧ (x == ("__debug__" : Str)) = false := by
  unfold isBlt at h
  simp only [Bool.and_eq_true, decide_eq_true_eq] at h
  obtain ⟨⟨rfl, h2⟩, h3⟩ := h
  obtain ⟨p1, _, p3⟩ := plain1 h3
  exact ⟨rfl, g.gl _ h2, T.blt _ hn, p3, p1⟩
theorem bltVal_boot (f : Blt) : bootBuiltins (bltName f) = some (bltVal f) := by cases f <;> decide +kernel
theorem bltName_mem (f : Blt) : bltName f ∈ bltNames := by cases f <;> decide +kernel
/-- a call of a built-in, a function or a class -/
theorem pe_blt {X : Cx} {x : Str} {p pos : Pos} {e : Expr} {es : List Expr} {t : TA} {v : Value} {r : List V → Hp → VK → Prop} (hv : (∃ id, v = .builtin id) ∨ ∃ T, v = .type T) (hc : CallR X v r) (hg : Gl X x) (hm : X.mg x = none) (hb : bootBuiltins x = some v) (ha : PA X (e :: es) t) (hn : x ≠ "__name__")
    (hdb : (x == ("__debug__" : Str)) = false) (hs : ∀ y ∈ e :: es, okShape y = true) : PE X (.Call (.Name x p) (e :: es) [] pos) (tCB r t) := by
  have h1 := shape_star (hs e List.mem_cons_self) es X.env
  have h2 := shapes_plain (fun y hy => hs y (List.mem_cons_of_mem _ hy)) pos X.env
  rcases hv with ⟨id, rfl⟩ | ⟨T, rfl⟩
  · exact pe_callB hc hg hm hb ha hn hdb h1 h2
  · exact pe_callTy hc hg hm hb ha hn hdb h1 h2
theorem bltVal_kind (f : Blt) : (∃ id, bltVal f = .builtin id) ∨ ∃ T, bltVal f = .type T := by
  cases f <;> first | exact .inl ⟨_, rfl⟩ | exact .inr ⟨_, rfl⟩
theorem isLm_append : isLm .append = true := rfl
end
end Pv

/-! Expressions, one construct after another. -/
namespace Pv
open PySem PySem.Spec PyProof.Rows L2 TL

section
variable {cx : Cxt} {N : List Str}
theorem strong {K : Frag} {al : Al} {H : Hp} {v : Val} {u : V} (n : isNew v = false) (h : RepW K al H v u) : RepV K al H v u := by
  cases v with
  | d d => exact h
  | ref i => exact h
  | new xs => cases n
theorem c_var (i : Nat) : SndE cx N (.var i) := by
  intro X k sc ex al H σ env st W Q g T hc r hE tk h
  unfold chkE at hc
  split at hc
  · rename_i x p
    rw [evE] at h
    split at h
    · rename_i v e
      obtain ⟨n, u, h1, h2⟩ := hE.get i v e
      exact ⟨_, g.var hc, u, h1, fin0 r h _ (strong n h2)⟩
    · exact h.elim
  · cases hc
theorem c_int (i : Int) : SndE cx N (.int i) := by
  intro X k sc ex al H σ env st W Q g T hc r hE tk h
  unfold chkE at hc
  split at hc
  · have e := of_decide_eq_true hc
    subst e
    rw [evE] at h
    exact ⟨_, pe_int, fin0 r h _ (.int _)⟩
  · cases hc
theorem c_str (x : Tx) : SndE cx N (.str x) := by
  intro X k sc ex al H σ env st W Q g T hc r hE tk h
  unfold chkE at hc
  split at hc
  · have e := of_decide_eq_true hc
    subst e
    rw [evE] at h
    exact ⟨_, pe_str, fin0 r h _ (.str _)⟩
  · cases hc
theorem c_bl (b : Bool) : SndE cx N (.bl b) := by
  intro X k sc ex al H σ env st W Q g T hc r hE tk h
  unfold chkE at hc
  split at hc
  · have e := beq_iff_eq.mp hc
    subst e
    rw [evE] at h
    exact ⟨_, pe_bl, fin0 r h _ (.bl _)⟩
  · cases hc
theorem c_non : SndE cx N .non := by
  intro X k sc ex al H σ env st W Q g T hc r hE tk h
  unfold chkE at hc
  split at hc
  · rw [evE] at h
    exact ⟨_, pe_non, fin0 r h _ .non⟩
  · cases hc
theorem c_glob (gn : String) : SndE cx N (.glob gn) := by
  intro X k sc ex al H σ env st W Q g T hc r hE tk h
  unfold chkE at hc
  split at hc
  · simp only [Bool.and_eq_true, decide_eq_true_eq] at hc
    obtain ⟨⟨rfl, h2⟩, h3⟩ := hc
    rw [evE] at h
    split at h
    · rename_i d e
      obtain ⟨v, u, m1, m2, m3⟩ := T.glob gn d e
      exact ⟨_, pe_glob (g.gl _ h2) m1 m2 (plain1 h3).1, fin0 r h _ (m3 H)⟩
    · exact h.elim
  · cases hc
theorem c_bin (o : Bop) {a b : E} (ia : SndE cx N a) (ib : SndE cx N b) : SndE cx N (.bin o a b) := by
  intro X k sc ex al H σ env st W Q g T hc r hE tk h
  unfold chkE at hc
  split at hc
  · simp only [Bool.and_eq_true] at hc
    obtain ⟨⟨hp, ha⟩, hb⟩ := hc
    rw [evE] at h
    refine ⟨_, pe_op op_SO pe_SE pe_SE, ?_⟩
    refine ia g T ha r hE tk (PostR.imp (PostR.bind h) fun x s1 H1 r1 x1 q u ru => ?_)
    refine ib g T hb r1 (hE.mono x1) tk (PostR.imp (PostR.bind q) fun y s2 H2 r2 x2 q2 w rw' => ?_)
    exact bin_ok hp r2 (ru.weak.mono x2) rw'.weak q2
  · cases hc
theorem c_neg {a : E} (ia : SndE cx N a) : SndE cx N (.neg a) := by
  intro X k sc ex al H σ env st W Q g T hc r hE tk h
  unfold chkE at hc
  split at hc
  · rw [evE] at h
    refine ⟨_, pe_un un_neg pe_SE, ?_⟩
    refine ia g T hc r hE tk (PostR.imp (PostR.bind h) fun x s1 H1 r1 x1 q u ru => ?_)
    split at q
    · cases ru
      exact ⟨_, rfl, fin0 r1 q _ (.int _)⟩
    · exact q.elim
  · cases hc
theorem c_inv {a : E} (ia : SndE cx N a) : SndE cx N (.inv a) := by
  intro X k sc ex al H σ env st W Q g T hc r hE tk h
  unfold chkE at hc
  split at hc
  · rw [evE] at h
    refine ⟨_, pe_un un_inv pe_SE, ?_⟩
    refine ia g T hc r hE tk (PostR.imp (PostR.bind h) fun x s1 H1 r1 x1 q u ru => ?_)
    split at q
    · cases ru
      exact ⟨_, rfl, fin0 r1 q _ (.int _)⟩
    · exact q.elim
  · cases hc
theorem c_not {a : E} (ia : SndE cx N a) : SndE cx N (.not a) := by
  intro X k sc ex al H σ env st W Q g T hc r hE tk h
  unfold chkE at hc
  split at hc
  · rw [evE] at h
    refine ⟨_, pe_not pe_SE, ?_⟩
    refine ia g T hc r hE tk (PostR.imp (PostR.bind h) fun x s1 H1 r1 x1 q u ru => ?_)
    split at q
    · cases ru
      exact ⟨_, rfl, fin0 r1 q _ (.bl _)⟩
    · exact q.elim
  · cases hc
theorem c_cmp (o : Cop) {a b : E} (ia : SndE cx N a) (ib : SndE cx N b) : SndE cx N (.cmp o a b) := by
  intro X k sc ex al H σ env st W Q g T hc r hE tk h
  unfold chkE at hc
  split at hc
  · simp only [Bool.and_eq_true] at hc
    obtain ⟨⟨hp, ha⟩, hb⟩ := hc
    rw [evE] at h
    refine ⟨_, pe_cmpR op_SO pe_SE pe_SE (shape_mark (chk_shape b _ hb) _), ?_⟩
    refine ia g T ha r hE tk (PostR.imp (PostR.bind h) fun x s1 H1 r1 x1 q u ru => ?_)
    refine ib g T hb r1 (hE.mono x1) tk (PostR.imp (PostR.bind q) fun y s2 H2 r2 x2 q2 w rw' => ?_)
    split at q2
    · rename_i kk e
      exact cmp_ok hp g.units r2 (ru.weak.mono x2) rw'.weak e (fin0 r2 q2 _ (.bl _))
    · exact q2.elim
  · cases hc
theorem t_cmp (o : Cop) {a b : E} (ia : SndE cx N a) (ib : SndE cx N b) : SndT cx N (.cmp o a b) := by
  intro X k sc ex al H σ env st W Q g T hc r hE tk h
  unfold chkE at hc
  split at hc
  · simp only [Bool.and_eq_true] at hc
    obtain ⟨⟨hp, ha⟩, hb⟩ := hc
    rw [evT] at h
    refine ⟨_, pt_cmpR op_SO pe_SE pe_SE (shape_mark (chk_shape b _ hb) _), ?_⟩
    refine ia g T ha r hE tk (PostR.imp (PostR.bind h) fun x s1 H1 r1 x1 q u ru => ?_)
    refine ib g T hb r1 (hE.mono x1) tk (PostR.imp (PostR.bind q) fun y s2 H2 r2 x2 q2 w rw' => ?_)
    split at q2
    · rename_i kk e
      exact cmp_ok hp g.units r2 (ru.weak.mono x2) rw'.weak e ⟨_, rfl, fin0 r2 q2⟩
    · exact q2.elim
  · cases hc
theorem c_chain (o1 o2 : Cop) {a b c : E} (ia : SndE cx N a) (ib : SndE cx N b) (ic : SndE cx N c) : SndE cx N (.chain o1 o2 a b c) := by
  intro X k sc ex al H σ env st W Q g T hc r hE tk h
  unfold chkE at hc
  split at hc
  · simp only [Bool.and_eq_true] at hc
    obtain ⟨⟨⟨⟨hp, hp2⟩, ha⟩, hb⟩, hcc⟩ := hc
    rw [evE] at h
    refine ⟨_, pe_chain op_SO op_SO pe_SE pe_SE pe_SE (shape_mark (chk_shape c _ hcc) _), ?_⟩
    refine ia g T ha r hE tk (PostR.imp (PostR.bind h) fun x s1 H1 r1 x1 q u ru => ?_)
    refine ib g T hb r1 (hE.mono x1) tk (PostR.imp (PostR.bind q) fun y s2 H2 r2 x2 q2 w rw' => ?_)
    split at q2
    · rename_i e
      refine cmp_ok hp g.units r2 (ru.weak.mono x2) rw'.weak e ⟨true, rfl, ?_⟩
      rw [if_pos rfl]
      refine ic g T hcc r2 (hE.mono (x1.trans x2)) tk (PostR.imp (PostR.bind q2) fun z s3 H3 r3 x3 q3 w3 rw3 => ?_)
      split at q3
      · rename_i kk e3
        exact cmp_ok hp2 g.units r3 (rw'.weak.mono x3) rw3.weak e3 (fin0 r3 q3 _ (.bl _))
      · exact q3.elim
    · rename_i e
      refine cmp_ok hp g.units r2 (ru.weak.mono x2) rw'.weak e ⟨false, rfl, ?_⟩
      rw [if_neg Bool.false_ne_true]
      exact fin0 r2 q2 _ (.bl _)
    · exact q2.elim
  · cases hc
theorem t_chain (o1 o2 : Cop) {a b c : E} (ia : SndE cx N a) (ib : SndE cx N b) (ic : SndE cx N c) : SndT cx N (.chain o1 o2 a b c) := by
  intro X k sc ex al H σ env st W Q g T hc r hE tk h
  unfold chkE at hc
  split at hc
  · simp only [Bool.and_eq_true] at hc
    obtain ⟨⟨⟨⟨hp, hp2⟩, ha⟩, hb⟩, hcc⟩ := hc
    rw [evT] at h
    refine ⟨_, pt_chain op_SO op_SO pe_SE pe_SE pe_SE (shape_mark (chk_shape c _ hcc) _), ?_⟩
    refine ia g T ha r hE tk (PostR.imp (PostR.bind h) fun x s1 H1 r1 x1 q u ru => ?_)
    refine ib g T hb r1 (hE.mono x1) tk (PostR.imp (PostR.bind q) fun y s2 H2 r2 x2 q2 w rw' => ?_)
    split at q2
    · rename_i e
      refine cmp_ok hp g.units r2 (ru.weak.mono x2) rw'.weak e ⟨true, rfl, ?_⟩
      rw [if_pos rfl]
      refine ic g T hcc r2 (hE.mono (x1.trans x2)) tk (PostR.imp (PostR.bind q2) fun z s3 H3 r3 x3 q3 w3 rw3 => ?_)
      split at q3
      · rename_i kk e3
        exact cmp_ok hp2 g.units r3 (rw'.weak.mono x3) rw3.weak e3 ⟨_, rfl, fin0 r3 q3⟩
      · exact q3.elim
    · rename_i e
      refine cmp_ok hp g.units r2 (ru.weak.mono x2) rw'.weak e ⟨false, rfl, ?_⟩
      rw [if_neg Bool.false_ne_true]
      exact ⟨_, rfl, fin0 r2 q2⟩
    · exact q2.elim
  · cases hc
theorem c_ite {t a b : E} (it : SndT cx N t) (ia : SndE cx N a) (ib : SndE cx N b) : SndE cx N (.ite t a b) := by
  intro X k sc ex al H σ env st W Q g T hc r hE tk h
  unfold chkE at hc
  split at hc
  · simp only [Bool.and_eq_true] at hc
    obtain ⟨⟨ht, ha⟩, hb⟩ := hc
    rw [evE] at h
    refine ⟨_, pe_ifExp pt_ST pe_SE pe_SE, ?_⟩
    refine it g T ht r hE tk (PostR.imp (PostR.bind h) fun x s1 H1 r1 x1 q => ?_)
    cases x with
    | true =>
      rw [if_pos rfl] at q ⊢
      exact ia g T ha r1 (hE.mono x1) tk q
    | false =>
      rw [if_neg Bool.false_ne_true] at q ⊢
      exact ib g T hb r1 (hE.mono x1) tk q
  · cases hc
theorem c_tup {es : Es} (ie : SndEs cx N es) : SndE cx N (.tup es) := by
  intro X k sc ex al H σ env st W Q g T hc r hE tk h
  unfold chkE at hc
  split at hc
  · rw [evE] at h
    refine ⟨_, pe_tup pa_SA, ?_⟩
    refine SA.gh (ie g T hc r hE tk (PostR.imp (PostR.bind h) fun vs s1 H1 r1 x1 q us ru => ?_))
    split at q
    · rename_i ds s2 e
      refine toDs_gh r1 ru e fun H2 r2 x2 rd => ?_
      split at q
      · rename_i hl
        exact ⟨by rw [← rd.length, ← line_eq]; exact hl, finT r2 (PostR.ext x2 q) rd⟩
      · exact q.elim
    · exact q.elim
  · cases hc
theorem c_list {es : Es} (ie : SndEs cx N es) : SndE cx N (.list es) := by
  intro X k sc ex al H σ env st W Q g T hc r hE tk h
  unfold chkE at hc
  split at hc
  · rw [evE] at h
    refine ⟨_, pe_lst pa_SA, ?_⟩
    refine SA.gh (ie g T hc r hE tk (PostR.imp (PostR.bind h) fun vs s1 H1 r1 x1 q us ru => ?_))
    split at q
    · rename_i ds s2 e
      refine toDs_gh r1 ru e fun H2 r2 x2 rd => ?_
      split at q
      · rename_i hl
        exact ⟨by rw [← rd.length, ← line_eq]; exact hl, finL r2 (PostR.ext x2 q) rd⟩
      · exact q.elim
    · exact q.elim
  · cases hc
theorem c_ix {a i : E} (ia : SndE cx N a) (ib : SndE cx N i) : SndE cx N (.ix a i) := by
  intro X k sc ex al H σ env st W Q g T hc r hE tk h
  unfold chkE at hc
  split at hc
  · simp only [Bool.and_eq_true] at hc
    obtain ⟨ha, hb⟩ := hc
    rw [evE] at h
    refine ⟨_, pe_ix ix_SX pe_SE pe_SE (shape_plain (chk_shape i _ hb)), ?_⟩
    refine ia g T ha r hE tk (PostR.imp (PostR.bind h) fun x s1 H1 r1 x1 q u ru => ?_)
    refine ib g T hb r1 (hE.mono x1) tk (PostR.imp (PostR.bind q) fun y s2 H2 r2 x2 q2 w rw' => ?_)
    exact ixv_ok r2 (ru.weak.mono x2) rw'.weak q2
  · cases hc
theorem c_slice {a lo hi : E} (ia : SndE cx N a) (il : SndE cx N lo) (ih : SndE cx N hi) : SndE cx N (.slice a lo hi) := by
  intro X k sc ex al H σ env st W Q g T hc r hE tk h
  unfold chkE at hc
  split at hc
  · simp only [Bool.and_eq_true] at hc
    obtain ⟨⟨ha, hb⟩, hcc⟩ := hc
    rw [evE] at h
    refine ⟨_, pe_slice sl_SS pe_SE (po_some pe_SE) (po_some pe_SE), ?_⟩
    refine ia g T ha r hE tk (PostR.imp (PostR.bind h) fun x s1 H1 r1 x1 q u ru => ?_)
    refine il g T hb r1 (hE.mono x1) tk (PostR.imp (PostR.bind q) fun y s2 H2 r2 x2 q2 w rw' => ?_)
    split at q2
    · cases rw'
      refine ⟨_, rfl, ?_⟩
      refine ih g T hcc r2 (hE.mono (x1.trans x2)) tk (PostR.imp (PostR.bind q2) fun y s3 H3 r3 x3 q3 w3 rw3 => ?_)
      split at q3
      · cases rw3
        exact ⟨_, rfl, sl_ok r3 (ru.weak.mono (x2.trans x3)) q3⟩
      · exact q3.elim
    · exact q2.elim
  · cases hc
theorem c_slice0 {a hi : E} (ia : SndE cx N a) (ih : SndE cx N hi) : SndE cx N (.slice0 a hi) := by
  intro X k sc ex al H σ env st W Q g T hc r hE tk h
  unfold chkE at hc
  split at hc
  · simp only [Bool.and_eq_true] at hc
    obtain ⟨ha, hb⟩ := hc
    rw [evE] at h
    refine ⟨_, pe_slice sl_SS pe_SE po_none (po_some pe_SE), ?_⟩
    refine ia g T ha r hE tk (PostR.imp (PostR.bind h) fun x s1 H1 r1 x1 q u ru => ?_)
    refine ih g T hb r1 (hE.mono x1) tk (PostR.imp (PostR.bind q) fun y s2 H2 r2 x2 q2 w rw' => ?_)
    split at q2
    · cases rw'
      exact ⟨_, rfl, sl_ok r2 (ru.weak.mono x2) q2⟩
    · exact q2.elim
  · cases hc
theorem c_slice1 {a lo : E} (ia : SndE cx N a) (il : SndE cx N lo) : SndE cx N (.slice1 a lo) := by
  intro X k sc ex al H σ env st W Q g T hc r hE tk h
  unfold chkE at hc
  split at hc
  · simp only [Bool.and_eq_true] at hc
    obtain ⟨ha, hb⟩ := hc
    rw [evE] at h
    refine ⟨_, pe_slice sl_SS pe_SE (po_some pe_SE) po_none, ?_⟩
    refine ia g T ha r hE tk (PostR.imp (PostR.bind h) fun x s1 H1 r1 x1 q u ru => ?_)
    refine il g T hb r1 (hE.mono x1) tk (PostR.imp (PostR.bind q) fun y s2 H2 r2 x2 q2 w rw' => ?_)
    split at q2
    · cases rw'
      exact ⟨_, rfl, sl_ok r2 (ru.weak.mono x2) q2⟩
    · exact q2.elim
  · cases hc
theorem isMinus1_ok {m : Expr} (h : isMinus1 m = true) : ∃ kk p1 p2, m = .UnaryOp .USub (.Constant (.int 1) kk p1) p2 := by
  unfold isMinus1 at h
  split at h
  · have e := of_decide_eq_true h
    subst e
    exact ⟨_, _, _, rfl⟩
  · cases h
def revS (z : Str) : Str := ⟨z.cps.toList.reverse.toArray⟩
theorem revS_pick (z : Str) : ((Builtin.Str.strSliceIndices none none (-1) z.length).filterMap (z.cps[·]?)) = z.cps.toList.reverse := by
  have e : Builtin.Str.strSliceIndices none none (-1) z.length = sliceRange ((z.length : Int) - 1) (-1) (-1) := rfl
  rw [e, PySem.W.krv_sliceRange, PySem.W.krv_range, List.filterMap_reverse]
  exact congrArg List.reverse (PySem.W.krv_all z.cps)
/-- [::-1] of a list or of a text -/
def tRevA (K : PySem.W.Frag) (te : TE) : TE := fun σ H Q => te σ H fun x H1 => (∃ a xs, x = .ref a ∧ SqL K H1 a xs ∧ ∀ p, H1 p = none → Q (.ref p) (upd H1 p (.lst xs.reverse))) ∨ (∃ z, x = .str z ∧ z.length ≤ sizeLine ∧ Q (.str (revS z)) H1)
theorem pe_revA {X : Cx} {e : Expr} {te : TE} {k : Nat} {p1 p2 p3 pos : Pos} (he : PE X e te) : PE X (.Subscript e (.Slice none none (some (.UnaryOp .USub (.Constant (.int 1) k p1) p2)) p3) pos) (tRevA X.K te) := by
  refine ⟨fun pins s σ H Q I h => ?_⟩
  refine Subscript_ (thn (he.run pins s σ H _ I h) fun v s1 ⟨x, H1, I1, r1, q1⟩ => ?_)
  have hst : PO X (some (.UnaryOp .USub (.Constant (.int 1) k p1) p2)) (tPart (tUn (rU fun i => .int (-i)) (tC (.int 1)))) := po_some (pe_un un_neg pe_int)
  refine wpAny_Slice (thn (po_none.run pins s1 σ H1 (fun o H2 => o = none ∧ H2 = H1) I1 ⟨rfl, rfl⟩) fun vl s2 ⟨l, H2, I2, pl, el, e2⟩ => ?_)
  subst el e2
  refine thn (po_none.run pins s2 σ H2 (fun o H3 => o = none ∧ H3 = H2) I2 ⟨rfl, rfl⟩) fun vu s3 ⟨u, H3, I3, pu, eu, e3⟩ => ?_
  subst eu e3
  refine thn (hst.run pins s3 σ H3 (fun o H4 => o = some (-1) ∧ H4 = H3) I3 ⟨1, rfl, -1, rfl, rfl, rfl⟩) fun vs s4 ⟨o, H4, I4, ps, eo, e4⟩ => ?_
  subst eo e4
  have I5 : Inv X pins σ H4 { s4 with heap := s4.heap.push { cls := .type "slice", data := .fields #[vl, vu, vs] } } := I4.kept (t' := s4.toks) fun b ob q => Heap.get?_push_of_some _ q
  rcases q1 with ⟨a, xs, ex, hx, q⟩ | ⟨z, ez, hz, q⟩
  · subst ex
    cases r1
    obtain ⟨its, r, ht, hz⟩ := I5.list hx
    have hlen := r.length
    show wpAny (model X.prog X.w) X.A (subscriptTail e (.Slice none none (some (.UnaryOp .USub (.Constant (.int 1) k p1) p2)) p3) (.ref a) (.ref s4.heap.objs.size)) (EP X pins σ Q) X.xe { s4 with heap := s4.heap.push { cls := .type "slice", data := .fields #[vl, vu, vs] } }
    refine tail_any (ops := [.ref a, .ref s4.heap.objs.size]) ht.isList.typeIs (PySem.slot_list_getitem.lookup) ?_ (by with_unfolding_all rfl)
    refine wpAny_getItem_list_slice ht.isList (Heap.IsSliceOf.new _ vl vu vs) pl pu ps (by decide) ?_ (by rw [List.size_toArray]; omega)
    rw [PySem.W.krv_pick]
    refine ⟨.ref _, _, I5.laid (t' := s4.toks) (o := .lst xs.reverse) (fun b ob q => Heap.get?_push_of_some _ q) (Nat.le_refl _) ?_, rfl, q _ (I5.hok.fresh (Nat.le_refl _))⟩
    exact ⟨by rw [List.length_reverse]; exact hz, _, 0, r.reverse, Heap.get?_push_size _ rfl⟩
  · subst ez
    obtain ⟨t, rfl⟩ := r1
    obtain ⟨l', rfl, el⟩ := IsPart.raw pl
    obtain ⟨u', rfl, eu⟩ := IsPart.raw pu
    obtain ⟨w', rfl, ew⟩ := IsPart.raw ps
    show wpAny (model X.prog X.w) X.A (subscriptTail e (.Slice none none (some (.UnaryOp .USub (.Constant (.int 1) k p1) p2)) p3) (.str z t) (.ref s4.heap.objs.size)) (EP X pins σ Q) X.xe _
    refine tail_any (ops := [.str z t, .ref s4.heap.objs.size]) (typeIs_str _ _ _) (F.slot_str_getitem.lookup) ?_ (by with_unfolding_all rfl)
    refine wpAny_getItem_str_slice (l := l') (u := u') (st := w') ⟨_, Heap.get?_push_size _ rfl, rfl, rfl⟩ (by rw [ew]; rfl) ?_
    have hp : slicePicked z l' u' w' = Builtin.Str.strSliceIndices none none (-1) z.length := by
      unfold slicePicked
      rw [el, eu, ew]
      rfl
    unfold sliceMade
    rw [if_neg (by rw [ew]; simp), hp, revS_pick]
    refine ⟨?_, .str (revS z), H4, I5.tok _, ⟨_, rfl⟩, q⟩
    show (z.cps.toList.reverse.toArray).size ≤ sizeLine
    rw [List.size_toArray, List.length_reverse, Array.length_toList]
    exact hz
theorem c_rev {a : E} (ia : SndE cx N a) : SndE cx N (.rev a) := by
  intro X k sc ex al H σ env st W Q g T hc r hE tk h
  unfold chkE at hc
  split at hc
  · simp only [Bool.and_eq_true] at hc
    obtain ⟨hm, ha⟩ := hc
    obtain ⟨kk, p1, p2, rfl⟩ := isMinus1_ok hm
    rw [evE] at h
    refine ⟨_, pe_revA pe_SE, ?_⟩
    refine ia g T ha r hE tk (PostR.imp (PostR.bind h) fun x s1 H1 r1 x1 q u ru => ?_)
    unfold revV at q
    split at q
    · rename_i z
      cases ru
      split at q
      · rename_i hl
        refine .inr ⟨_, rfl, by rw [txt_len, ← line_eq]; exact hl, ?_⟩
        exact fin0 r1 q _ (.str _)
      · exact q.elim
    · exact q.elim
    · split at q
      · rename_i z e
        obtain ⟨p, vs, rfl, hs, rd⟩ := lst_sq r1 ru.weak e
        exact .inl ⟨p, vs, rfl, hs, finL r1 q rd.reverse⟩
      · exact q.elim
  · cases hc
theorem c_frz {a : E} (ia : SndE cx N a) : SndE cx N (.frz a) := by
  intro X k sc ex al H σ env st W Q g T hc r hE tk h
  unfold chkE at hc
  rw [evE] at h
  refine SE.gh (ia g T hc r hE tk (PostR.imp (PostR.bind h) fun x s1 H1 r1 x1 q u ru => ?_))
  split at q
  · rename_i d s2 e
    exact toD_gh r1 ru.weak e fun H2 r2 x2 rd => q H2 r2 x2 _ rd
  · exact q.elim
end
end Pv

/-! Calls, methods, and, or, tests, comprehensions; the theorem of expressions. -/
namespace Pv
open PySem PySem.Spec PyProof.Rows L2 TL

section
variable {cx : Cxt} {N : List Str}
/-- the reading of a call: the arguments, then the promise -/
theorem call_reads {es : Es} (ie : SndEs cx N es) {X : Cx} {k : Nat} {sc : Scope} {exs : List Expr} {al : Al} {H : Hp} {σ : L2.St} {env : Env} {st : Store} {W : WX} {Q : VK} {f : String}
    (g : Good N sc k X) (T : Tab cx k X.prog X.w X.K X.mg X.base) (hc : chkEs N sc es exs = true) (r : Rel X.K al H st) (hE : EnvR X.K al H env σ) (tk : Takes X W)
    (h : PostE X al H σ W Q ((evEs cx es env st).bind fun vs s1 => cx.call f (vs.map argV) s1)) : tCallS (spOf X.K X.mg cx.call f) (WE W) (SA X exs) σ H Q := by
  refine SA.gh (ie g T hc r hE tk (PostR.imp (PostR.bind h) fun vs s1 H1 r1 x1 q us ru => ?_))
  exact args_gh r1 ru fun H2 r2 x2 rs => ⟨al, vs.map argV, s1, r2, rs, argV_new vs, PostR.ext x2 q⟩
theorem c_call (f : String) {es : Es} (ie : SndEs cx N es) : SndE cx N (.call f es) := by
  intro X k sc ex al H σ env st W Q g T hc r hE tk h
  unfold chkE at hc
  split at hc
  · rename_i x p xs pos
    simp only [Bool.and_eq_true, decide_eq_true_eq] at hc
    obtain ⟨⟨⟨rfl, h2⟩, h3⟩, h4⟩ := hc
    rw [evE] at h
    split at h
    · rename_i hh
      obtain ⟨fa, fd, ps, m1, m2, m3, F⟩ := T.fn f hh
      have rd := call_reads ie g T h4 r hE tk h
      have sh := chks_shape es xs h4
      cases xs with
      | nil =>
        refine ⟨_, pe_callS0 (p := p) (pos := pos) F g.room (g.gl _ h2) m1 m2 m3 (E := WE W) (fun σ => passAt tk σ) (plain1 h3).1, ?_⟩
        have : SA X [] = SA X [] := rfl
        obtain ⟨t, pt, q⟩ := rd
        cases es with
        | nil =>
          rw [evEs] at h
          refine ⟨al, [], st, r, .nil, by simp, ?_⟩
          exact h
        | cons e es => unfold chkEs at h4; cases h4
      | cons x xs =>
        exact ⟨_, pe_callS (p := p) (pos := pos) F g.room (g.gl _ h2) m1 m2 m3 (fun σ => passAt tk σ) pa_SA (plain1 h3).1 (shape_star (sh x List.mem_cons_self) xs X.env)
          (shapes_plain (fun y hy => sh y (List.mem_cons_of_mem _ hy)) pos X.env), rd⟩
    · exact h.elim
  · cases hc
theorem c_blt (f : Blt) {es : Es} (ie : SndEs cx N es) : SndE cx N (.blt f es) := by
  intro X k sc ex al H σ env st W Q g T hc r hE tk h
  unfold chkE at hc
  split at hc
  · rename_i x p xs pos
    simp only [Bool.and_eq_true] at hc
    obtain ⟨h1, h2⟩ := hc
    obtain ⟨rfl, b1, b2, b3, b4⟩ := isBlt_ok g T (bltName_mem f) h1
    rw [evE] at h
    have sh := chks_shape es xs h2
    cases xs with
    | nil =>
      exfalso
      cases es with
      | nil =>
        rw [evEs] at h
        have h : PostE X al H σ W Q (bltV f [] st) := h
        unfold bltV at h
        cases f <;> exact h.elim
      | cons e es => unfold chkEs at h2; cases h2
    | cons x xs =>
      refine ⟨_, pe_blt (bltVal_kind f) cl_SC b1 b2 (bltVal_boot f) pa_SA b3 b4 sh, ?_⟩
      refine ie g T h2 r hE tk (PostR.imp (PostR.bind h) fun vs s1 H1 r1 x1 q us ru => ?_)
      exact blt_ok g.calm r1 ru q
  · cases hc
theorem isi_reads (t : Ty) {a : E} (ia : SndE cx N a) {X : Cx} {k : Nat} {sc : Scope} {ex : Expr} {al : Al} {H : Hp} {σ : L2.St} {env : Env} {st : Store} {W : WX} {Q : VK}
    (g : Good N sc k X) (T : Tab cx k X.prog X.w X.K X.mg X.base) (hc : chkE N sc (.isi t a) ex = true) (r : Rel X.K al H st) (hE : EnvR X.K al H env σ) (tk : Takes X W)
    (h : PostR X.K X.mg al H (fun C H' => W C none σ H') (fun v _ H' => ∀ u b, RepV X.K al H' v u → isiV t v = some b → Q (.bl b) H') (evE cx a env st)) (h2 : ∀ v s1, evE cx a env st = .ok v s1 → isiV t v ≠ none) : SE X ex σ H Q := by
  unfold chkE at hc
  split at hc
  · rename_i x p y z pz pos
    simp only [Bool.and_eq_true] at hc
    obtain ⟨⟨h1, h5⟩, h6⟩ := hc
    obtain ⟨rfl, b1, b2, b3, b4⟩ := isBlt_ok g T (by decide +kernel) h1
    have hn : tyName t ∈ bltNames := by cases t <;> decide +kernel
    obtain ⟨rfl, d1, d2, d3, d4⟩ := isBlt_ok g T hn h5
    have sh := chk_shape a y h6
    have pz : PE X (.Name (tyName t) pz) (tC (.ty (tyStr t))) := pe_bltn (u := .type (tyStr t)) d1 d2 (by cases t <;> decide +kernel) rfl d3 d4
    refine ⟨_, pe_callB call_isi b1 b2 (by decide +kernel) (pa_cons pe_SE (pa_cons pz pa_nil) (shape_star sh _ _)) b3 b4 (shape_star sh _ _) (by first | rfl | simp [backTo, starEach]), ?_⟩
    refine ia g T h6 r hE tk ?_
    cases e : evE cx a env st with
    | ok v s1 =>
      rw [e] at h
      intro H1 r1 x1 u ru
      cases q : isiV t v with
      | none => exact absurd q (h2 v s1 e)
      | some b => exact isi_ok ru.weak q (h H1 r1 x1 u b ru q)
    | exc c s1 => rw [e] at h; exact h
    | err => rw [e] at h; exact h
  · cases hc
theorem c_isi (t : Ty) {a : E} (ia : SndE cx N a) : SndE cx N (.isi t a) := by
  intro X k sc ex al H σ env st W Q g T hc r hE tk h
  rw [evE] at h
  refine isi_reads t ia g T hc r hE tk (PostR.imp (PostR.bind h) fun v s1 H1 r1 x1 q u b ru e => ?_) fun v s1 e n => ?_
  · rw [e] at q
    exact fin0 r1 q _ (.bl _)
  · rw [e] at h
    have h : PostE X al H σ W Q (match isiV t v with | some b => .ok (.d (.bl b)) s1 | none => .err) := h
    rw [n] at h
    exact h.elim
theorem t_isi (t : Ty) {a : E} (ia : SndE cx N a) : SndT cx N (.isi t a) := by
  intro X k sc ex al H σ env st W Q g T hc r hE tk h
  rw [evT] at h
  have hx : ∀ whole, isTrue ex X.env whole = (do let v ← whole; standAt ex.pos; holding [v] (truthy v)) := by
    unfold chkE at hc
    split at hc
    · intro _; rfl
    · cases hc
  refine ⟨_, pt_val pe_SE hx, ?_⟩
  refine isi_reads t ia g T hc r hE tk (PostR.imp (PostR.bind h) fun v s1 H1 r1 x1 q u b ru e => ?_) fun v s1 e n => ?_
  · rw [e] at q
    exact ⟨_, rfl, fin0 r1 q⟩
  · rw [e] at h
    have h : PostB X al H σ W Q (match isiV t v with | some b => .ok b s1 | none => .err) := h
    rw [n] at h
    exact h.elim
/-! ### methods -/
def mtVal : Mt → String
  | .append => "list.append" | .pop => "list.pop" | .join => "str.join" | .replace => "str.replace" | .split => "str.split" | .count => "str.count" | .find => "str.find"
  | .insert => "list.insert" | .extend => "list.extend" | .index => "list.index"
theorem base_ok {x : Expr} {n : Str} (h : notCall0 x = true) (env : PySem.Env) : attributeBase x n env (eval x env) = eval x env := by
  unfold attributeBase
  split
  · cases h
  · rfl
theorem few_ok {xs : List Expr} (h : ∀ x ∈ xs, okShape x = true) (hl : xs.length < 20) (pos : Pos) (env : PySem.Env) : ((backTo pos (starEach xs env)).all (fun x => !x.1) && (backToKw pos (keywordEach [] env)).all (fun x => x.1.isSome)
      && decide (xs.length + ([] : List Keyword).length + (if ([] : List Keyword).isEmpty then 0 else 1) < 30)) = true := by
  have e : starEach xs env = xs.map fun x => (false, eval x env) := by
    clear hl
    induction xs with
    | nil => rfl
    | cons x xs ih =>
      rw [shape_star (h x List.mem_cons_self), ih fun y hy => h y (List.mem_cons_of_mem _ hy)]
      rfl
  have h1 : (backTo pos (starEach xs env)).all (fun x => !x.1) = true := by
    rw [e]
    cases xs with
    | nil => first | rfl | simp [backTo]
    | cons x r => simp [backTo, List.all_map, Function.comp_def]
  rw [h1]
  simp [backToKw, keywordEach]
  omega

section
variable {X : Cx} {mg : Str → Option Value} {al : Al} {H : Hp} {st : Store} {Ex : Value → Hp → Prop} {Q : VK}
theorem joinT_eq (sep : Tx) : ∀ ts : List Tx, joinT sep ts = TL.joinL sep ts
  | [] => rfl
  | [x] => rfl
  | x :: y :: r => by
    show x ++ sep ++ joinT sep (y :: r) = TL.joinL sep (x :: y :: r)
    rw [joinT_eq sep (y :: r)]
    simp [TL.joinL]
theorem join_txt (sep : Tx) (ts : List Tx) : Txt.join (txt sep) (ts.map txt) = txt (joinT sep ts) := by
  refine ext_tl ?_
  rw [join_eq, tl_join, List.map_map]
  have e : (tl ∘ txt) = (id : Tx → Tx) := rfl
  rw [e, List.map_id, joinT_eq]
  rfl
theorem splitC_ne (c : Nat) : ∀ z : Tx, splitC c z ≠ []
  | [] => fun h => by cases h
  | x :: xs => by
    rw [splitC]
    split
    · exact fun h => by cases h
    · split <;> exact fun h => by cases h
theorem splitC_free (c : Nat) : ∀ p : Tx, c ∉ p → splitC c p = [p]
  | [], _ => rfl
  | x :: xs, h => by
    have hx : ¬ x = c := fun e => h (by rw [e]; exact List.mem_cons_self)
    rw [splitC, if_neg hx, splitC_free c xs fun q => h (List.mem_cons_of_mem _ q)]
theorem splitC_app (c : Nat) (r : Tx) : ∀ p : Tx, c ∉ p → splitC c (p ++ c :: r) = p :: splitC c r
  | [], _ => by
    show splitC c (c :: r) = _
    rw [splitC, if_pos rfl]
  | x :: xs, h => by
    have hx : ¬ x = c := fun e => h (by rw [e]; exact List.mem_cons_self)
    show splitC c (x :: (xs ++ c :: r)) = _
    rw [splitC, if_neg hx, splitC_app c r xs fun q => h (List.mem_cons_of_mem _ q)]
/-- pieces put together come apart again -/
theorem splitC_join (c : Nat) : ∀ ts : List Tx, ts ≠ [] → (∀ p ∈ ts, c ∉ p) → splitC c (joinT [c] ts) = ts
  | [], h, _ => absurd rfl h
  | [x], _, h => splitC_free c x (h x List.mem_cons_self)
  | x :: y :: r, _, h => by
    show splitC c (x ++ [c] ++ joinT [c] (y :: r)) = _
    rw [List.append_assoc]
    show splitC c (x ++ c :: joinT [c] (y :: r)) = _
    rw [splitC_app c _ x (h x List.mem_cons_self), splitC_join c (y :: r) (by simp) fun p hp => h p (List.mem_cons_of_mem _ hp)]
theorem split_txt (z : Tx) (c : Nat) : Txt.split (txt z) (txt [c]) = (splitC c z).map txt := by
  have hj : PySem.Str.join (txt [c]) (Txt.split (txt z) (txt [c])) = txt z := PySem.StrLaws.join_split (txt z) (txt [c])
  have hf : ∀ p ∈ Txt.split (txt z) (txt [c]), c ∉ p.cps.toList := PySem.StrLaws.split_free (txt z) c
  have hp := PyProof.Rows.split_pos (txt z) (txt [c])
  generalize Txt.split (txt z) (txt [c]) = P at hj hf hp
  have e1 : joinT [c] (P.map tl) = z := by
    have := congrArg tl hj
    rw [tl_join, ← joinT_eq] at this
    exact this
  have e2 := splitC_join c (P.map tl) (by intro q; have := congrArg List.length q; simp at this; subst this; simp at hp) (fun p hp => by
    obtain ⟨q, hq, rfl⟩ := List.mem_map.mp hp
    exact hf q hq)
  rw [e1] at e2
  rw [e2, List.map_map]
  have : ∀ p : Str, (txt ∘ tl) p = p := fun p => by
    show txt (tl p) = p
    refine ext_tl ?_
    rfl
  rw [show (txt ∘ tl) = id from funext this, List.map_id]
open PySem.StrLaws Builtin.Str in
theorem at_mem {z : Tx} {c i : Nat} (h : PySem.StrLaws.At (txt z) (txt [c]) (txt z).length i) : z[i]? = some c := (PySem.StrLaws.subAt_one (txt z) c i).mp h
theorem at_of {z : Tx} {c i : Nat} (h : z[i]? = some c) : PySem.StrLaws.At (txt z) (txt [c]) (txt z).length i := (PySem.StrLaws.subAt_one (txt z) c i).mpr h
theorem idx_first : ∀ {z : Tx} {c i : Nat}, z[i]? = some c → (∀ k, k < i → z[k]? ≠ some c) → z.idxOf c = i
  | [], _, _, h, _ => by simp at h
  | x :: xs, c, 0, h, _ => by
    simp at h
    subst h
    simp
  | x :: xs, c, i + 1, h, hn => by
    have h0 : ¬ x = c := fun e => hn 0 (by omega) (by simp [e])
    have := idx_first (z := xs) (c := c) (i := i) (by simpa using h) fun k hk => by
      have := hn (k + 1) (by omega)
      simpa using this
    rw [List.idxOf_cons, this, beq_false_of_ne h0]
    rfl
theorem find_txt (z : Tx) (c : Nat) : Txt.find (txt z) (txt [c]) = findC c z := by
  unfold Txt.find findC
  rcases PySem.StrLaws.occ_head (txt z) (txt [c]) 1 (Nat.le_refl 1) with ⟨h0, hn⟩ | ⟨i, r, h0, hi, hn⟩
  · rw [h0, if_neg]
    intro hm
    obtain ⟨j, hj⟩ := List.getElem?_of_mem hm
    exact hn j (at_of hj)
  · rw [h0, if_pos (List.mem_of_getElem? (at_mem hi))]
    rw [idx_first (at_mem hi) fun k hk e => hn k hk (at_of e)]
theorem count_txt (z : Tx) (c : Nat) : Txt.count (txt z) (txt [c]) = (((splitC c z).length - 1 : Nat) : Int) := by
  have e : (splitC c z).length = (Builtin.Str.occurrences (txt z) (txt [c]) 0 (txt z).length ((txt z).length + 1)).length + 1 := by
    have s := congrArg List.length (split_txt z c)
    rw [List.length_map] at s
    rw [← s]
    unfold Txt.split
    split
    · rename_i hc
      rcases PySem.StrLaws.occ_head (txt z) (txt [c]) ((txt z).length + 1) (by omega) with ⟨h0, hn⟩ | ⟨i, r, h0, hi, hn⟩
      · rw [h0]; rfl
      · exfalso
        have hm := List.mem_of_getElem? (at_mem hi)
        rw [Bool.or_eq_true, decide_eq_true_eq, decide_eq_true_eq] at hc
        rcases hc with q | q
        · have : (txt [c]).length = 1 := rfl
          have hl : (txt z).length = z.length := txt_len z
          have := List.length_pos_of_mem hm
          omega
        · exact PySem.StrLaws.kind_free (txt z) c q hm
    · split
      · rename_i he
        rw [List.isEmpty_iff.mp he]
        rfl
      · rw [PyProof.Rows.len_partsBetween]
  unfold Txt.count
  rw [e]
  rfl
/-- a method without arguments -/
theorem mth0_ok {m : Mt} (r : Rel X.K al H st) {x : Val} {u : V} (rx : RepW X.K al H x u)
    (h : PostR X.K mg al H Ex (fun v _ H' => ∀ u, RepV X.K al H' v u → Q u H') (methV m x [] st)) : SM X (mtVal m) u [] H Q := by
  unfold methV at h
  split at h
  · (first | contradiction | (rename_i e; exact nomatch e) | (rename_i e _; exact nomatch e))
  · rename_i i _
    obtain ⟨p, hp, rfl⟩ := rx
    split at h
    · rename_i xs hx
      split at h
      · rename_i d e
        obtain ⟨vs, hH, rds⟩ := r.cell i _ p hx hp
        obtain ⟨v, hv, rv⟩ := rds.last e
        refine ⟨_, mt_pop, p, vs, v, rfl, rfl, hH, hv, ?_⟩
        exact h _ (r.upd hp (stab_upd hH) ⟨_, upd_same, rds.dropLast.mono (stab_upd hH)⟩) (ext_cell (List.mem_of_getElem? hp) hH) _ (rv.mono (stab_upd hH))
      · exact h.elim
    · exact h.elim
  · (first | contradiction | (rename_i e; exact nomatch e) | (rename_i e _; exact nomatch e))
  · (first | contradiction | (rename_i e; exact nomatch e) | (rename_i e _; exact nomatch e))
  · (first | contradiction | (rename_i e; exact nomatch e) | (rename_i e _; exact nomatch e))
  · (first | contradiction | (rename_i e; exact nomatch e) | (rename_i e _; exact nomatch e))
  · (first | contradiction | (rename_i e; exact nomatch e) | (rename_i e _; exact nomatch e))
  · (first | contradiction | (rename_i e; exact nomatch e) | (rename_i e _; exact nomatch e))
  · (first | contradiction | (rename_i e; exact nomatch e) | (rename_i e _; exact nomatch e))
  · exact h.elim
theorem sum_ones : ∀ z : Tx, (z.map (((·.length) ∘ txt) ∘ fun c => [c])).sum = z.length
  | [] => rfl
  | x :: r => by
    have ih := sum_ones r
    rw [List.map_cons, List.sum_cons, ih]
    show 1 + r.length = r.length + 1
    omega
/-- a method by the values -/
theorem mth_ok {m : Mt} (hc : X.calm = true) (r : Rel X.K al H st) {x : Val} {u : V} {vs : List Val} {us : List V} (rx : RepW X.K al H x u) (rv : RepVs X.K al H vs us)
    (h : PostR X.K mg al H Ex (fun v _ H' => ∀ u, RepV X.K al H' v u → Q u H') (methV m x vs st)) : Gh X H fun H' => SM X (mtVal m) u us H' Q := by
  unfold methV at h
  split at h
  · rename_i i v
    obtain ⟨w, rfl, a⟩ := vs1 rv
    obtain ⟨p, hp, rfl⟩ := rx
    split at h
    · exact h.elim
    · rename_i d s1 e
      split at h
      · rename_i xs hx
        split at h
        · rename_i hl
          refine toD_gh r a e fun H1 r1 x1 rd => ?_
          obtain ⟨vs, hH, rds⟩ := r1.cell i _ p hx hp
          refine ⟨_, mt_append, p, vs, w, rfl, rfl, hH, by rw [← rds.length, ← line_eq]; exact hl, ?_⟩
          refine h _ (r1.upd hp (stab_upd hH) ⟨_, upd_same, (rds.append (.cons rd .nil)).mono (stab_upd hH)⟩) (x1.trans (ext_cell (List.mem_of_getElem? hp) hH)) _ .non
        · exact h.elim
      · exact h.elim
  · rename_i i
    cases rv
    obtain ⟨p, hp, rfl⟩ := rx
    split at h
    · rename_i xs hx
      split at h
      · rename_i d e
        obtain ⟨vs, hH, rds⟩ := r.cell i _ p hx hp
        obtain ⟨v, hv, rv⟩ := rds.last e
        refine .here ⟨_, mt_pop, p, vs, v, rfl, rfl, hH, hv, ?_⟩
        exact h _ (r.upd hp (stab_upd hH) ⟨_, upd_same, rds.dropLast.mono (stab_upd hH)⟩) (ext_cell (List.mem_of_getElem? hp) hH) _ (rv.mono (stab_upd hH))
      · exact h.elim
    · exact h.elim
  · rename_i i k
    obtain ⟨w, rfl, a⟩ := vs1 rv
    cases a
    obtain ⟨p, hp, rfl⟩ := rx
    split at h
    · rename_i xs hx
      split at h
      · rename_i hl
        split at h
        · rename_i j ej
          split at h
          · rename_i d e
            obtain ⟨vs, hH, rds⟩ := r.cell i _ p hx hp
            obtain ⟨v, hv, rv⟩ := rds.get e
            obtain ⟨e1, e2, e3, e4⟩ := L2.ixN_seq ej
            have hl : xs.length ≤ 16777216 := hl
            refine .here ⟨_, mt_popAt, p, vs, k, j, v, rfl, rfl, hH, by omega, by omega, by rw [← rds.length]; exact e1, hv, ?_⟩
            exact h _ (r.upd hp (stab_upd hH) ⟨_, upd_same, (rds.eraseIdx j).mono (stab_upd hH)⟩) (ext_cell (List.mem_of_getElem? hp) hH) _ (rv.mono (stab_upd hH))
          · exact h.elim
        · exact h.elim
      · exact h.elim
    · exact h.elim
  · rename_i sep z
    obtain ⟨w, rfl, a⟩ := vs1 rv
    cases rx
    cases a
    split at h
    · rename_i hl
      have e0 : ((txt z).cps.toList.map fun c => (⟨#[c]⟩ : PySem.Str)) = (z.map fun c => ([c] : Tx)).map txt := by
        rw [List.map_map]
        rfl
      have e1 : (((z.map fun c => ([c] : Tx)).map txt).map (·.length)).sum = z.length := by
        rw [List.map_map, List.map_map]
        exact sum_ones z
      refine .here ⟨_, mt_joinT hc, txt sep, txt z, rfl, rfl, ?_, ?_, ?_⟩
      · rw [e0, e1, List.length_map, List.length_map, txt_len]
        exact hl
      · show z.toArray.size ≤ _
        rw [List.size_toArray]
        exact Nat.le_trans (Nat.le_add_right _ _) hl
      · rw [e0, join_txt]
        exact fin0 r h _ (.str _)
    · exact h.elim
  · rename_i sep v _
    obtain ⟨w, rfl, a⟩ := vs1 rv
    cases rx
    split at h
    · rename_i xs e
      split at h
      · rename_i ts et
        split at h
        · rename_i hl
          obtain ⟨p, ws, rfl, hs, rd⟩ := seq_sq r a e
          have ew := rd.txts et
          subst ew
          refine .here ⟨_, mt_join, txt sep, p, ts.map txt, rfl, rfl, hs, ?_, ?_⟩
          · have e1 : (ts.map txt).map (·.length) = ts.map List.length := by
              rw [List.map_map]
              exact List.map_congr_left fun x _ => txt_len x
            rw [e1, List.length_map, txt_len]
            exact hl
          · rw [join_txt]
            exact fin0 r h _ (.str _)
        · exact h.elim
      · exact h.elim
    · exact h.elim
  · rename_i z c
    obtain ⟨w, rfl, a⟩ := vs1 rv
    cases rx
    cases a
    split at h
    · rename_i hl
      refine .here ⟨_, mt_split, txt z, txt [c], rfl, rfl, rfl, by rw [txt_len, ← line_eq]; exact hl, ?_⟩
      rw [split_txt]
      exact finL r h (repStrs _)
    · exact h.elim
  · rename_i z c
    obtain ⟨w, rfl, a⟩ := vs1 rv
    cases rx
    cases a
    refine .here ⟨_, mt_find, txt z, txt [c], rfl, rfl, ?_⟩
    rw [find_txt]
    exact fin0 r h _ (.int _)
  · rename_i z c
    obtain ⟨w, rfl, a⟩ := vs1 rv
    cases rx
    cases a
    refine .here ⟨_, mt_count, txt z, txt [c], rfl, rfl, ?_⟩
    rw [count_txt]
    exact fin0 r h _ (.int _)
  · rename_i i k v
    obtain ⟨w1, w, rfl, a1, a⟩ := vs2 rv
    cases a1
    obtain ⟨p, hp, rfl⟩ := rx
    split at h
    · exact h.elim
    · rename_i d s1 e
      split at h
      · rename_i xs hx
        split at h
        · rename_i hl
          refine toD_gh r a e fun H1 r1 x1 rd => ?_
          obtain ⟨vs, hH, rds⟩ := r1.cell i _ p hx hp
          refine ⟨_, mt_insert, p, vs, k, w, rfl, rfl, hH, by rw [← rds.length, ← line_eq]; exact hl.1, hl.2.1, hl.2.2, ?_⟩
          refine h _ (r1.upd hp (stab_upd hH) ⟨_, upd_same, (((rds.take k.toNat).append (.cons rd .nil)).append (rds.drop k.toNat)).mono (stab_upd hH)⟩) (x1.trans (ext_cell (List.mem_of_getElem? hp) hH)) _ .non
        · exact h.elim
      · exact h.elim
  · exact h.elim
theorem recv_ty {m : Mt} (r : Rel X.K al H st) {x : Val} {u : V} (rx : RepV X.K al H x u) (h : recvOk m x st = true) : isSup m = true ∧ ((isLm m = true ∧ tyV X.K "list" u H) ∨ (isLm m = false ∧ tyV X.K "str" u H)) := by
  unfold recvOk at h
  rw [Bool.and_eq_true] at h
  obtain ⟨h0, h⟩ := h
  refine ⟨h0, ?_⟩
  split at h
  · rename_i i
    rw [Bool.and_eq_true] at h
    obtain ⟨a, ha, rfl⟩ := rx
    obtain ⟨c, hc⟩ := Option.isSome_iff_exists.mp h.2
    obtain ⟨vs, hs, _⟩ := (r.cell i c a hc ha).items
    exact .inl ⟨h.1, .inl ⟨rfl, vs, hs⟩⟩
  · cases rx
    exact .inr ⟨by simpa using h, rfl⟩
  · cases h
end
theorem c_meth (m : Mt) {a : E} {es : Es} (ia : SndE cx N a) (ie : SndEs cx N es) : SndE cx N (.meth m a es) := by
  intro X k sc ex al H σ env st W Q g T hc r hE tk h
  unfold chkE at hc
  split at hc
  · rename_i x n p xs q
    simp only [Bool.and_eq_true, decide_eq_true_eq] at hc
    obtain ⟨⟨⟨⟨⟨rfl, hl⟩, h0⟩, h20⟩, ha⟩, hs⟩ := hc
    have sh := chks_shape es xs hs
    rw [evE] at h
    -- the reading, for any type and slot of the method
    have core : ∀ (Tn : String), (∀ {x : Val} {u : V} {H1 : Hp} {s1 : Store}, Rel X.K al H1 s1 → RepV X.K al H1 x u → recvOk m x s1 = true → tyV X.K Tn u H1) →
        SE X x σ H fun u H1 => tyV X.K Tn u H1 ∧ SA X xs σ H1 fun us H2 => SM X (mtVal m) u us H2 Q := fun Tn hT => by
      refine ia g T ha r hE tk (PostR.imp (PostR.bind h) fun v s1 H1 r1 x1 q u ru => ?_)
      split at q
      · rename_i hk
        refine ⟨hT r1 ru hk, ?_⟩
        refine SA.gh (ie g T hs r1 (hE.mono x1) tk (PostR.imp (PostR.bind q) fun vs s2 H2 r2 x2 q2 us rus => ?_))
        exact mth_ok g.calm r2 (ru.weak.mono x2) rus q2
      · exact q.elim
    have fin : ∀ (Tn : String) (pa : PlainAttrs Tn) (slot : Slot Tn (mtName m) (mtVal m)) (hty : typeOf (.builtin (mtVal m)) = pure (.type "method_descriptor")),
        (∀ {x : Val} {u : V} {H1 : Hp} {s1 : Store}, Rel X.K al H1 s1 → RepV X.K al H1 x u → recvOk m x s1 = true → tyV X.K Tn u H1) → SE X (.Call (.Attribute x (mtName m) p) xs [] q) σ H Q := fun Tn pa slot hty hT => by
      have c := core Tn hT
      cases xs with
      | nil =>
        refine ⟨_, pe_bm0 pa slot hty mt_SM pe_SE (base_ok h0 _) hl, ?_⟩
        have e : es = .nil := by
          cases es with
          | nil => rfl
          | cons e es => unfold chkEs at hs; cases hs
        subst e
        refine ia g T ha r hE tk (PostR.imp (PostR.bind h) fun v s1 H1 r1 x1 q u ru => ?_)
        split at q
        · rename_i hk
          rw [evEs] at q
          exact ⟨hT r1 ru hk, mth0_ok r1 ru.weak q⟩
        · exact q.elim
      | cons y ys =>
        exact ⟨_, pe_bm pa slot hty mt_SM pe_SE pa_SA (base_ok h0 _) (few_ok sh h20 _ _) hl (shape_star (sh y List.mem_cons_self) _ _) (shapes_plain (fun z hz => sh z (List.mem_cons_of_mem _ hz)) _ _), c⟩
    cases m with
    | append => exact fin "list" PySem.F.plainAttrs_list PySem.F.slot_list_append PySem.F.type_list_append fun r ru hk => (recv_ty r ru hk).2.elim (fun z => z.2) fun z => by cases z.1
    | pop => exact fin "list" PySem.F.plainAttrs_list PySem.F.slot_list_pop PySem.F.type_list_pop fun r ru hk => (recv_ty r ru hk).2.elim (fun z => z.2) fun z => by cases z.1
    | join => exact fin "str" PySem.F.plainAttrs_str PySem.F.slot_str_join PySem.F.type_str_join fun r ru hk => (recv_ty r ru hk).2.elim (fun z => by cases z.1) fun z => z.2
    | replace => exact fin "str" PySem.F.plainAttrs_str PySem.F.slot_str_replace PySem.F.type_str_replace fun r ru hk => by cases (recv_ty r ru hk).1
    | split => exact fin "str" PySem.F.plainAttrs_str PySem.F.slot_str_split PySem.F.type_str_split fun r ru hk => (recv_ty r ru hk).2.elim (fun z => by cases z.1) fun z => z.2
    | count => exact fin "str" PySem.F.plainAttrs_str PySem.F.slot_str_count PySem.F.type_str_count fun r ru hk => (recv_ty r ru hk).2.elim (fun z => by cases z.1) fun z => z.2
    | find => exact fin "str" PySem.F.plainAttrs_str PySem.F.slot_str_find PySem.F.type_str_find fun r ru hk => (recv_ty r ru hk).2.elim (fun z => by cases z.1) fun z => z.2
    | insert => exact fin "list" PySem.F.plainAttrs_list PySem.F.slot_list_insert PySem.F.type_list_insert fun r ru hk => (recv_ty r ru hk).2.elim (fun z => z.2) fun z => by cases z.1
    | extend => exact fin "list" PySem.F.plainAttrs_list PySem.F.slot_list_extend PySem.F.type_list_extend fun r ru hk => by cases (recv_ty r ru hk).1
    | index => exact fin "list" PySem.F.plainAttrs_list PySem.F.slot_list_index PySem.F.type_list_index fun r ru hk => by cases (recv_ty r ru hk).1
  · cases hc
end
end Pv

/-! Arguments, and, or, tests, walks, comprehensions; the theorem of expressions. -/
namespace Pv
open PySem PySem.Spec PyProof.Rows L2 TL

theorem PostR.impE {α : Type} {K : Frag} {mg : Str → Option Value} {al : Al} {H : Hp} {Ex : Value → Hp → Prop} {P P' : α → Store → Hp → Prop} {r : R α} (h : PostR K mg al H Ex P r)
    (f : ∀ v s H', r = .ok v s → Rel K al H' s → Ext al H al H' → P v s H' → P' v s H') : PostR K mg al H Ex P' r := by
  cases r with
  | ok v s => exact fun H' r x => f v s H' rfl r x (h H' r x)
  | exc c s => exact h
  | err => exact h
theorem R.bind_assoc {α β γ : Type} (r : R α) (f : α → Store → R β) (g : β → Store → R γ) : (r.bind f).bind g = r.bind fun a s => (f a s).bind g := by cases r <;> rfl
section
variable {cx : Cxt} {N : List Str}
theorem a_nil : SndEs cx N .nil := by
  intro X k sc exs al H σ env st W Q g T hc r hE tk h
  unfold chkEs at hc
  split at hc
  · rw [evEs] at h
    exact ⟨_, pa_nil, fin0 r h _ .nil⟩
  · cases hc
theorem a_cons {e : E} {es : Es} (ie : SndE cx N e) (ies : SndEs cx N es) : SndEs cx N (.cons e es) := by
  intro X k sc exs al H σ env st W Q g T hc r hE tk h
  unfold chkEs at hc
  split at hc
  · rename_i x xs
    simp only [Bool.and_eq_true] at hc
    rw [evEs] at h
    refine ⟨_, pa_cons pe_SE pa_SA (shape_star (chk_shape e x hc.1) xs _), ?_⟩
    refine ie g T hc.1 r hE tk (PostR.imp (PostR.bind h) fun v s1 H1 r1 x1 q u ru => ?_)
    refine ies g T hc.2 r1 (hE.mono x1) tk (PostR.imp (PostR.bind q) fun vs s2 H2 r2 x2 q2 us rus => ?_)
    exact fin0 r2 q2 _ (.cons (ru.weak.mono x2) rus)
  · cases hc
theorem and_nil : SndAnd cx N .nil := by
  intro X k sc exs pos al H σ env st W Q g T hc r hE tk h
  rw [evAnd] at h
  exact h.elim
theorem or_nil : SndOr cx N .nil := by
  intro X k sc exs pos al H σ env st W Q g T hc r hE tk h
  rw [evOr] at h
  exact h.elim
theorem and_cons {e : E} {es : Es} (ie : SndE cx N e) (ies : SndAnd cx N es) : SndAnd cx N (.cons e es) := by
  intro X k sc exs pos al H σ env st W Q g T hc r hE tk h
  unfold chkEs at hc
  split at hc
  · rename_i x xs
    simp only [Bool.and_eq_true] at hc
    cases es with
    | nil =>
      have e1 : xs = [] := by
        have := hc.2
        unfold chkEs at this
        split at this
        · rfl
        · cases this
      subst e1
      rw [evAnd] at h
      exact ⟨_, pe_one pe_SE, ie g T hc.1 r hE tk h⟩
    | cons e2 es2 =>
      have hc2 := hc.2
      cases xs with
      | nil => unfold chkEs at hc2; cases hc2
      | cons y ys =>
        rw [evAnd] at h
        refine ⟨_, pe_and pe_SE pe_SE, ?_⟩
        refine ie g T hc.1 r hE tk (PostR.imp (PostR.bind h) fun v s1 H1 r1 x1 q u ru => ?_)
        split at q
        · cases ru
          refine ⟨true, rfl, ?_⟩
          rw [if_pos rfl]
          exact ies g T hc2 r1 (hE.mono x1) tk q
        · cases ru
          refine ⟨false, rfl, ?_⟩
          rw [if_neg Bool.false_ne_true]
          exact fin0 r1 q _ (.bl _)
        · exact q.elim
  · cases hc
theorem or_cons {e : E} {es : Es} (ie : SndE cx N e) (ies : SndOr cx N es) : SndOr cx N (.cons e es) := by
  intro X k sc exs pos al H σ env st W Q g T hc r hE tk h
  unfold chkEs at hc
  split at hc
  · rename_i x xs
    simp only [Bool.and_eq_true] at hc
    cases es with
    | nil =>
      have e1 : xs = [] := by
        have := hc.2
        unfold chkEs at this
        split at this
        · rfl
        · cases this
      subst e1
      rw [evOr] at h
      exact ⟨_, pe_one pe_SE, ie g T hc.1 r hE tk h⟩
    | cons e2 es2 =>
      have hc2 := hc.2
      cases xs with
      | nil => unfold chkEs at hc2; cases hc2
      | cons y ys =>
        rw [evOr] at h
        refine ⟨_, pe_or pe_SE pe_SE, ?_⟩
        refine ie g T hc.1 r hE tk (PostR.imp (PostR.bind h) fun v s1 H1 r1 x1 q u ru => ?_)
        split at q
        · cases ru
          refine ⟨true, rfl, ?_⟩
          rw [if_pos rfl]
          exact fin0 r1 q _ (.bl _)
        · cases ru
          refine ⟨false, rfl, ?_⟩
          rw [if_neg Bool.false_ne_true]
          exact ies g T hc2 r1 (hE.mono x1) tk q
        · exact q.elim
  · cases hc
theorem c_and {es : Es} (ies : SndAnd cx N es) : SndE cx N (.and es) := by
  intro X k sc ex al H σ env st W Q g T hc r hE tk h
  unfold chkE at hc
  split at hc
  · simp only [Bool.and_eq_true] at hc
    rw [evE] at h
    exact ies g T hc.2 r hE tk h
  · cases hc
theorem c_or {es : Es} (ies : SndOr cx N es) : SndE cx N (.or es) := by
  intro X k sc ex al H σ env st W Q g T hc r hE tk h
  unfold chkE at hc
  split at hc
  · simp only [Bool.and_eq_true] at hc
    rw [evE] at h
    exact ies g T hc.2 r hE tk h
  · cases hc
/-! ### tests -/
theorem t_not {a : E} (ia : SndT cx N a) : SndT cx N (.not a) := by
  intro X k sc ex al H σ env st W Q g T hc r hE tk h
  unfold chkE at hc
  split at hc
  · rw [evT] at h
    refine ⟨_, pt_not pt_ST, ?_⟩
    exact ia g T hc r hE tk (PostR.imp (PostR.bind h) fun b s1 H1 r1 x1 q => fin0 r1 q)
  · cases hc
theorem ta_nil : SndTA cx N .nil := by
  intro X k sc exs pos al H σ env st W Q g T hc hn r hE tk h
  unfold chkEs at hc
  split at hc
  · exact absurd rfl hn
  · cases hc
theorem to_nil : SndTO cx N .nil := by
  intro X k sc exs pos al H σ env st W Q g T hc hn r hE tk h
  unfold chkEs at hc
  split at hc
  · exact absurd rfl hn
  · cases hc
theorem ta_cons {e : E} {es : Es} (ie : SndT cx N e) (ies : SndTA cx N es) : SndTA cx N (.cons e es) := by
  intro X k sc exs pos al H σ env st W Q g T hc hn r hE tk h
  unfold chkEs at hc
  split at hc
  · rename_i x xs
    simp only [Bool.and_eq_true] at hc
    rw [evTA] at h
    cases xs with
    | nil =>
      refine ⟨_, pw_and1 pt_ST, ?_⟩
      refine ie g T hc.1 r hE tk (PostR.imp (PostR.bind h) fun b s1 H1 r1 x1 q => ?_)
      cases es with
      | nil =>
        rw [evTA] at q
        cases b with
        | true => exact fin0 r1 q
        | false => exact fin0 r1 q
      | cons e2 es2 => have := hc.2; unfold chkEs at this; cases this
    | cons y ys =>
      refine ⟨_, pw_and pt_ST pw_SW, ?_⟩
      refine ie g T hc.1 r hE tk (PostR.imp (PostR.bind h) fun b s1 H1 r1 x1 q => ?_)
      cases b with
      | true =>
        rw [if_pos rfl] at q ⊢
        exact ies g T hc.2 (by simp) r1 (hE.mono x1) tk q
      | false =>
        rw [if_neg Bool.false_ne_true] at q ⊢
        exact fin0 r1 q
  · cases hc
theorem to_cons {e : E} {es : Es} (ie : SndT cx N e) (ies : SndTO cx N es) : SndTO cx N (.cons e es) := by
  intro X k sc exs pos al H σ env st W Q g T hc hn r hE tk h
  unfold chkEs at hc
  split at hc
  · rename_i x xs
    simp only [Bool.and_eq_true] at hc
    rw [evTO] at h
    cases xs with
    | nil =>
      refine ⟨_, pw_or1 pt_ST, ?_⟩
      refine ie g T hc.1 r hE tk (PostR.imp (PostR.bind h) fun b s1 H1 r1 x1 q => ?_)
      cases es with
      | nil =>
        rw [evTO] at q
        cases b with
        | true => exact fin0 r1 q
        | false => exact fin0 r1 q
      | cons e2 es2 => have := hc.2; unfold chkEs at this; cases this
    | cons y ys =>
      refine ⟨_, pw_or pt_ST pw_SW, ?_⟩
      refine ie g T hc.1 r hE tk (PostR.imp (PostR.bind h) fun b s1 H1 r1 x1 q => ?_)
      cases b with
      | true =>
        rw [if_pos rfl] at q ⊢
        exact fin0 r1 q
      | false =>
        rw [if_neg Bool.false_ne_true] at q ⊢
        exact ies g T hc.2 (by simp) r1 (hE.mono x1) tk q
  · cases hc
theorem t_and {es : Es} (ies : SndTA cx N es) : SndT cx N (.and es) := by
  intro X k sc ex al H σ env st W Q g T hc r hE tk h
  unfold chkE at hc
  split at hc
  · simp only [Bool.and_eq_true] at hc
    rw [evT] at h
    exact ⟨_, PW.pt pw_SW, ies g T hc.2 (fun e => by rw [e] at hc; exact absurd hc.1 (by simp)) r hE tk h⟩
  · cases hc
theorem t_or {es : Es} (ies : SndTO cx N es) : SndT cx N (.or es) := by
  intro X k sc ex al H σ env st W Q g T hc r hE tk h
  unfold chkE at hc
  split at hc
  · simp only [Bool.and_eq_true] at hc
    rw [evT] at h
    exact ⟨_, PW.pt pw_SW, ies g T hc.2 (fun e => by rw [e] at hc; exact absurd hc.1 (by simp)) r hE tk h⟩
  · cases hc
/-- a test that is a value's truth -/
theorem t_val {e : E} (ie : SndE cx N e) (heq : ∀ env st, evT cx e env st = (evE cx e env st).bind fun v s => match truV v s with | some k => .ok k s | none => .err)
    (hx : ∀ (sc : Scope) (ex : Expr), chkE N sc e ex = true → ∀ (env : PySem.Env) whole, isTrue ex env whole = (do let v ← whole; standAt ex.pos; holding [v] (truthy v))) : SndT cx N e := by
  intro X k sc ex al H σ env st W Q g T hc r hE tk h
  rw [heq] at h
  refine ⟨_, pt_truth pe_SE (hx sc ex hc X.env), ?_⟩
  refine ie g T hc r hE tk (PostR.imp (PostR.bind h) fun v s1 H1 r1 x1 q u ru => ?_)
  split at q
  · rename_i b e
    exact ⟨b, tru_val ru.weak e, fin0 r1 q⟩
  · exact q.elim
theorem t_var (i : Nat) : SndT cx N (.var i) := t_val (c_var i) (fun env st => by
    rw [evT, evE]
    cases env[i]? with
    | none => rfl
    | some o => cases o <;> rfl) fun sc ex h => by
  unfold chkE at h
  split at h
  · intro _ _; rfl
  · cases h
theorem t_ix {a i : E} (ia : SndE cx N a) (ib : SndE cx N i) : SndT cx N (.ix a i) := t_val (c_ix ia ib) (fun env st => by
    rw [evT, evE]
    simp only [R.bind_assoc] <;> rfl) fun sc ex h => by
  unfold chkE at h
  split at h
  · intro _ _; rfl
  · cases h
theorem t_call (f : String) {es : Es} (ie : SndEs cx N es) : SndT cx N (.call f es) := t_val (c_call f ie) (fun env st => by
    rw [evT, evE]
    split
    · simp only [R.bind_assoc] <;> rfl
    · rfl) fun sc ex h => by
  unfold chkE at h
  split at h
  · intro _ _; rfl
  · cases h
theorem t_blt (f : Blt) {es : Es} (ie : SndEs cx N es) : SndT cx N (.blt f es) := t_val (c_blt f ie) (fun env st => by
    rw [evT, evE]
    simp only [R.bind_assoc] <;> rfl) fun sc ex h => by
  unfold chkE at h
  split at h
  · intro _ _; rfl
  · cases h
theorem t_err {e : E} (h0 : ∀ env st, evT cx e env st = .err) : SndT cx N e := by
  intro X k sc ex al H σ env st W Q g T hc r hE tk h
  rw [h0] at h
  exact h.elim
/-! ### a comprehension's tests -/
theorem f_nil : SndC cx N .nil := by
  intro X k sc exs al H σ env st W Q g T hc r hE tk h
  unfold chkEs at hc
  split at hc
  · rw [evC] at h
    exact ⟨_, pts_nil, fin0 r h⟩
  · cases hc
theorem f_cons {e : E} (es : Es) (ie : SndT cx N e) : SndC cx N (.cons e es) := by
  intro X k sc exs al H σ env st W Q g T hc r hE tk h
  unfold chkEs at hc
  split at hc
  · rename_i x xs
    simp only [Bool.and_eq_true] at hc
    cases es with
    | nil =>
      rw [evC] at h
      have e1 : xs = [] := by
        have := hc.2
        unfold chkEs at this
        split at this
        · rfl
        · cases this
      subst e1
      exact ⟨_, pts_one pt_ST, ie g T hc.1 r hE tk h⟩
    | cons _ _ => rw [evC] at h; exact h.elim
  · cases hc
/-! ### what is walked -/
theorem i_val {e : E} (ie : SndE cx N e) : SndI cx N (.val e) := by
  intro X k sc tg ex al H σ env st W R' g T hc r hE tk h
  replace hc := (Bool.and_eq_true _ _ ▸ hc : _ ∧ _).1
  unfold chkI at hc
  rw [Bool.and_eq_true] at hc
  rw [evI] at h
  refine ⟨_, pi_any pe_SE, ?_⟩
  exact ie g T hc.2 r hE tk (PostR.imp (PostR.bind h) fun v s1 H1 r1 x1 q u ru => walk_ok r1 ru q)
theorem enumL_len : ∀ (xs : List D) (n : Nat), (enumL n xs).length = xs.length
  | [], _ => rfl
  | _ :: xs, n => congrArg (· + 1) (enumL_len xs (n + 1))
theorem enumL_get : ∀ (xs : List D) (n i : Nat) (d : D), (enumL n xs)[i]? = some d → ∃ x, xs[i]? = some x ∧ d = .tup [.int ((n + i : Nat) : Int), x]
  | [], n, i, d, h => by cases h
  | x :: xs, n, 0, d, h => by cases h; exact ⟨x, rfl, rfl⟩
  | x :: xs, n, i + 1, d, h => by
    obtain ⟨y, h1, h2⟩ := enumL_get xs (n + 1) i d h
    exact ⟨y, h1, by rw [h2, show n + 1 + i = n + (i + 1) by omega]⟩
theorem wk_enum {K : Frag} {al : Al} {H : Hp} {a : Addr} {xs : List D} {g : Option (Nat × List D)} (h : ∀ (al' : Al) H' st, Ext al H ⟨al'.c, al.p⟩ H' → Rel K al' H' st → Walk.ok ⟨enumL 0 xs, g⟩ st = true → ∃ vs, SqL K H' a vs ∧ RepDs K H' xs vs) : Wk K al H ⟨enumL 0 xs, g⟩ (Ite K a) := by
  intro al' H' st x r ok
  obtain ⟨vs, hs, rd⟩ := h al' H' st x r ok
  refine ⟨fun i d hd => ?_, fun i hi => ⟨vs, hs, by rw [← rd.length, ← enumL_len xs 0]; exact hi⟩⟩
  obtain ⟨y, hy, rfl⟩ := enumL_get xs 0 i d hd
  obtain ⟨v, hv, rv⟩ := rd.get hy
  refine ⟨⟨vs, v, hs, hv⟩, fun z H2 hz => ?_⟩
  obtain ⟨p, x', rfl, hn, rfl, hx'⟩ := hz
  have e2 := hx' vs hs
  rw [hv] at e2
  cases e2
  refine ⟨r.ext_new hn, ext_new hn, ?_⟩
  rw [Nat.zero_add]
  exact RepD.tup (.inl (.inl upd_same)) (.cons (.int _) (.cons (rv.mono (stab_new hn)) .nil))
theorem enum_ok {X : Cx} {mg : Str → Option Value} {al : Al} {H : Hp} {st : Store} {Ex : Value → Hp → Prop} {R : L2.It → Hp → Prop} {v : Val} {u : V} (r : Rel X.K al H st) (rv : RepV X.K al H v u)
    (h : PostR X.K mg al H Ex (fun w st' H' => ∀ J, Wk X.K al H' w J → R J H') (enumV v st)) : ∃ a xs, u = .ref a ∧ SqL X.K H a xs ∧ R (Ite X.K a) H := by
  unfold enumV at h
  split at h
  · rename_i xs
    cases rv with
    | @lst a _ vs h1 h2 => exact ⟨a, vs, rfl, h1.sq, fin0 r h _ (wk_enum fun al' H' st' x _ _ => ⟨vs, (x.stab.fzL h1).sq, h2.mono x.stab⟩)⟩
  · rename_i xs
    obtain ⟨a, vs, rfl, ha, hn, rd⟩ := rv
    refine ⟨a, vs, rfl, .inl (.inl ha), fin0 r h _ (wk_enum fun al' H' st' x _ _ => ⟨vs, ?_, rd.mono x.stab⟩)⟩
    rcases x.oth a _ hn ha with z | ⟨ws, o, e, z⟩
    · exact .inl (.inl z)
    · cases e; exact .inl (.inr ⟨o, z⟩)
  · rename_i i
    obtain ⟨a, ha, rfl⟩ := rv
    split at h
    · rename_i c hc
      obtain ⟨vs, hs, rd⟩ := (r.cell i c a hc ha).items
      refine ⟨a, vs, rfl, hs, fin0 r h _ (wk_enum fun al' H' st' x r' ok => ?_)⟩
      unfold Walk.ok at ok
      simp only at ok
      split at ok
      · rename_i c' hc'
        have e : c'.items = c.items := of_decide_eq_true ok
        obtain ⟨β, ex⟩ := x.pre
        have hl : i < al.c.length := by
          rcases Nat.lt_or_ge i al.c.length with q | q
          · exact q
          · rw [List.getElem?_eq_none q] at ha; cases ha
        obtain ⟨vs', hs', rd'⟩ := (r'.cell i c' a hc' (by rw [ex, List.getElem?_append_left hl]; exact ha)).items
        exact ⟨vs', hs', by rw [← e]; exact rd'⟩
      · cases ok
    · exact h.elim
  · exact h.elim
theorem i_enum {e : E} (ie : SndE cx N e) : SndI cx N (.enum e) := by
  intro X k sc tg ex al H σ env st W R' g T hc r hE tk h
  rw [Bool.and_eq_true] at hc
  obtain ⟨hc, ht⟩ := hc
  unfold chkI at hc
  split at hc
  · rename_i x p y pos
    rw [Bool.and_eq_true] at hc
    obtain ⟨rfl, b1, b2, b3, b4⟩ := isBlt_ok g T (by decide +kernel) hc.1
    unfold tgI at ht
    simp only at ht
    split at ht
    · rw [evI] at h
      refine ⟨_, pi_enum b1 b2 (pa_cons pe_SE pa_nil (hs := shape_star (chk_shape e y hc.2) [] _)) (shape_star (chk_shape e y hc.2) [] _), ?_⟩
      exact ie g T hc.2 r hE tk (PostR.imp (PostR.bind h) fun v s1 H1 r1 x1 q u ru => by
        obtain ⟨a, xs, rfl, hs, hr⟩ := enum_ok r1 ru q
        exact ⟨a, xs, rfl, hs, hr⟩)
    · cases ht
  · cases hc
theorem okR_ok {i : Int} (h : okR i = true) : -(2 ^ 62) ≤ i ∧ i < 2 ^ 62 := by
  unfold okR at h
  simp only [Bool.and_eq_true, decide_eq_true_eq] at h
  omega
theorem rgc50 {i j : Int} (ha : -(2 ^ 62) ≤ i) (ha' : i < 2 ^ 62) (hb : -(2 ^ 62) ≤ j) (hb' : j < 2 ^ 62) : RgC i j 50 ((j - i + 49) / 50).toNat := by
  have e : Builtin.Range.rangeSize i j 50 = if i < j then (j - i - 1) / 50 + 1 else 0 := by
    unfold Builtin.Range.rangeSize
    simp only [show (50 : Int) > 0 by decide, if_true]
  refine ⟨by decide, by decide, ?_, ?_⟩
  · unfold Builtin.Range.small
    rw [e]
    simp only [Builtin.Range.rangeFitsLong, Bool.and_eq_true, Bool.or_eq_true, decide_eq_true_eq, beq_iff_eq, show (50 : Int) > 0 by decide, if_true]
    split <;> omega
  · rw [e]
    split <;> omega
theorem i_range {es : Es} (ie : SndEs cx N es) : SndI cx N (.range es) := by
  intro X k sc tg ex al H σ env st W R' g T hc r hE tk h
  replace hc := (Bool.and_eq_true _ _ ▸ hc : _ ∧ _).1
  unfold chkI at hc
  split at hc
  · rename_i x p xs pos
    simp only [Bool.and_eq_true, decide_eq_true_eq] at hc
    obtain ⟨rfl, b1, b2, b3, b4⟩ := isBlt_ok g T (by decide +kernel) hc.1.1
    have sh := chks_shape es xs hc.2
    rw [evI] at h
    have hb := PostR.bind h
    have h3 := hc.1.2
    match xs, hc.2, sh, h3 with
    | [], hs, _, _ =>
      exfalso
      cases es with
      | nil => rw [evEs] at h; exact h.elim
      | cons _ _ => unfold chkEs at hs; cases hs
    | [a], hs, sh, _ =>
      refine ⟨_, pi_range1 b1 b2 pa_SA (shape_star (sh a (by simp)) [] _), ?_⟩
      refine ie g T hs r hE tk (PostR.impE hb fun vs s1 H1 ev r1 x1 q us ru => ?_)
      have hl := evEs_len es env st vs s1 sc [a] hs ev
      unfold rangeV at q
      split at q
      · cases ru with
        | cons ru1 ru2 =>
          cases ru1
          cases ru2
          split at q
          · rename_i o
            have o := okR_ok o
            exact ⟨_, rfl, o.1, o.2, fin0 r1 q _ wk_rng⟩
          · exact q.elim
      · simp at hl
      · simp at hl
      · exact q.elim
    | [a, b], hs, sh, _ =>
      refine ⟨_, pi_range2 b1 b2 pa_SA (by rw [shape_star (sh a (by simp)), shape_star (sh b (by simp))]; rfl) (shape_star (sh b (by simp)) [] _), ?_⟩
      refine ie g T hs r hE tk (PostR.impE hb fun vs s1 H1 ev r1 x1 q us ru => ?_)
      have hl := evEs_len es env st vs s1 sc [a, b] hs ev
      unfold rangeV at q
      split at q
      · simp at hl
      · cases ru with
        | cons ru1 ru2 =>
          cases ru2 with
          | cons ru2 ru3 =>
            cases ru1
            cases ru2
            cases ru3
            split at q
            · rename_i o
              rw [Bool.and_eq_true] at o
              have o1 := okR_ok o.1
              have o2 := okR_ok o.2
              exact ⟨_, _, rfl, ⟨o1.1, o1.2, o2.1, o2.2⟩, fin0 r1 q _ wk_rng⟩
            · exact q.elim
      · simp at hl
      · exact q.elim
    | [a, b, c], hs, sh, _ =>
      refine ⟨_, pi_range3 b1 b2 pa_SA (shape_star (sh a (by simp)) _ _) (shapes_plain (fun y hy => sh y (List.mem_cons_of_mem _ hy)) _ _), ?_⟩
      refine ie g T hs r hE tk (PostR.impE hb fun vs s1 H1 ev r1 x1 q us ru => ?_)
      have hl := evEs_len es env st vs s1 sc [a, b, c] hs ev
      unfold rangeV at q
      split at q
      · simp at hl
      · simp at hl
      · cases ru with
        | cons ru1 ru2 =>
          cases ru2 with
          | cons ru2 ru3 =>
            cases ru3 with
            | cons ru3 ru4 =>
              cases ru1
              cases ru2
              cases ru3
              cases ru4
              split at q
              · rename_i o
                simp only [Bool.and_eq_true, decide_eq_true_eq] at o
                obtain ⟨⟨o1, o2⟩, rfl⟩ := o
                have o1 := okR_ok o1
                have o2 := okR_ok o2
                exact ⟨_, _, _, _, rfl, RgC.neg o1.1 o1.2 o2.1 o2.2, fin0 r1 q _ wk_rngD⟩
              · split at q
                · rename_i o
                  simp only [Bool.and_eq_true, decide_eq_true_eq] at o
                  obtain ⟨⟨o1, o2⟩, rfl⟩ := o
                  have o1 := okR_ok o1
                  have o2 := okR_ok o2
                  exact ⟨_, _, _, _, rfl, rgc50 o1.1 o1.2 o2.1 o2.2, fin0 r1 q _ wk_rngD⟩
                · exact q.elim
      · exact q.elim
    | _ :: _ :: _ :: _ :: _, hs, sh, h3 => exact absurd h3 (by simp only [List.length_cons]; omega)
  · cases hc
end
end Pv

/-! Comprehensions; the theorem of expressions. -/
namespace Pv
open PySem PySem.Spec PyProof.Rows L2 TL

section
variable {cx : Cxt} {N : List Str}
theorem own_slots : ∀ (is : List Nat), is.all (fun i => decide (i < N.length)) = true → (ownOf N is).map (·.2) = is
  | [], _ => rfl
  | i :: is, h => by
    simp only [List.all_cons, Bool.and_eq_true, decide_eq_true_eq] at h
    have ih := own_slots is h.2
    have e : N[i]? = some N[i] := List.getElem?_eq_getElem h.1
    show ((i :: is).filterMap fun i => (N[i]?).map fun x => (x, i)).map (·.2) = i :: is
    rw [List.filterMap_cons, e]
    exact congrArg (i :: ·) ih
theorem wipeE_len (env : Env) : ∀ is, (wipeE env is).length = env.length
  | [] => rfl
  | i :: is => by
    show ((wipeE env is).set i none).length = _
    rw [List.length_set, wipeE_len env is]
theorem wipeE_get {env : Env} : ∀ {is : List Nat} {i : Nat} {v : Val}, (wipeE env is)[i]? = some (some v) → env[i]? = some (some v) ∧ i ∉ is
  | [], i, v, h => ⟨h, by simp⟩
  | j :: is, i, v, h => by
    have h : ((wipeE env is).set j none)[i]? = some (some v) := h
    by_cases e : j = i
    · subst e
      by_cases hl : j < (wipeE env is).length
      · rw [List.getElem?_set_self hl] at h; cases h
      · rw [List.getElem?_eq_none (by rw [List.length_set]; omega)] at h; cases h
    · rw [List.getElem?_set_ne e] at h
      obtain ⟨h1, h2⟩ := wipeE_get h
      exact ⟨h1, by simp only [List.mem_cons, not_or]; exact ⟨fun q => e q.symm, h2⟩⟩
theorem wipe_get {σ : L2.St} : ∀ {is : List Nat} {i : Nat}, i ∉ is → (wipe σ is)[i]? = σ[i]?
  | [], _, _ => rfl
  | j :: is, i, h => by
    simp only [List.mem_cons, not_or] at h
    show ((wipe σ is).set j none)[i]? = _
    rw [List.getElem?_set_ne (fun q => h.1 q.symm), wipe_get h.2]
theorem EnvR.wipe {K : Frag} {al : Al} {H : Hp} {env : Env} {σ : L2.St} (h : EnvR K al H env σ) (is : List Nat) : EnvR K al H (wipeE env is) (L2.wipe σ is) := by
  refine ⟨by rw [wipeE_len, wipe_length, h.len], fun i v e => ?_⟩
  obtain ⟨h1, h2⟩ := wipeE_get e
  obtain ⟨n, u, h3, h4⟩ := h.get i v h1
  exact ⟨n, u, by rw [wipe_get h2]; exact h3, h4⟩
theorem wipe_in {σ : L2.St} : ∀ {is : List Nat} {i : Nat}, i ∈ is → i < σ.length → (L2.wipe σ is)[i]? = some none
  | j :: is, i, h, hl => by
    show ((L2.wipe σ is).set j none)[i]? = _
    by_cases e : j = i
    · subst e
      rw [List.getElem?_set_self (by rw [L2.wipe_length]; exact hl)]
    · rw [List.getElem?_set_ne e]
      rcases List.mem_cons.mp h with q | q
      · exact absurd q.symm e
      · exact wipe_in q hl
theorem wipe_idem (σ : L2.St) (is : List Nat) : L2.wipe (L2.wipe σ is) is = L2.wipe σ is := by
  refine List.ext_getElem? fun i => ?_
  by_cases h : i ∈ is
  · by_cases hl : i < σ.length
    · rw [wipe_in h (by rw [L2.wipe_length]; exact hl), wipe_in h hl]
    · rw [List.getElem?_eq_none (by rw [L2.wipe_length, L2.wipe_length]; omega), List.getElem?_eq_none (by rw [L2.wipe_length]; omega)]
  · rw [wipe_get h]
theorem takes0w {X : Cx} : Takes X (fun _ _ _ _ => False) := fun _ _ x => by
  obtain ⟨_, _, _, _, _, _, _, _, _, _, _, _, _, _, _, _, z⟩ := x
  exact z.elim
theorem chkI_fold {sc : Scope} {it : It} {ex tg : Expr} {env : PySem.Env} (h : (chkI N sc it ex && tgI it tg) = true) (v : Value) : foldedSetIterable ex env v = pure v := by
  replace h := (Bool.and_eq_true _ _ ▸ h : _ ∧ _).1
  cases it with
  | val e =>
    unfold chkI at h
    cases ex <;> first | rfl | (simp at h; done)
  | range es =>
    unfold chkI at h
    cases ex <;> first | rfl | (cases h; done)
  | enum e =>
    unfold chkI at h
    cases ex <;> first | rfl | (cases h; done)
  | zip a b =>
    unfold chkI at h
    cases h
theorem Ext.less {al : Al} {p : Addr → Prop} {H H' : Hp} (x : Ext ⟨al.c, p⟩ H ⟨al.c, p⟩ H') (h : ∀ b, al.p b → p b) : Ext al H al H' :=
  ⟨⟨[], by simp⟩, rfl, fun _ h n => absurd h n, fun b u hp hn e => x.prt b u (h b hp) hn e, fun b u n e => x.has1 n.1 e, x.stab⟩
theorem Ext.write {al : Al} {H H' : Hp} {a : Addr} {vs : List V} {o : HO} (x : Ext al H al H') (h0 : H a = none) (h : H' a = some (.lst vs)) : Ext al H al (L2.upd H' a o) := by
  have ne : ∀ b u, H b = some u → b ≠ a := fun b u e z => by rw [z, h0] at e; cases e
  exact ⟨x.pre, x.pp, x.fresh, fun b u hp hn e => by rw [upd_ne (ne b u e)]; exact x.prt b u hp hn e, fun b u n e => by rw [upd_ne (ne b u e)]; exact x.oth b u n e, x.stab.trans (stab_upd h)⟩
/-- the reading of a comprehension -/
theorem lc_reads {elt : E} {tg : Tg} {it : It} {ifs : Es} (ii : SndI cx N it) (ic : SndC cx N ifs) (ie : SndE cx N elt) {X : Cx} {k : Nat} {sc : Scope} {x t i : Expr} {fs : List Expr} {scope : Scope} {al : Al} {H : Hp} {σ : L2.St} {env : Env} {st : Store} {W : WX} {Q : VK}
    (g : Good N sc k X) (T : Tab cx k X.prog X.w X.K X.mg X.base) (r : Rel X.K al H st) (hE : EnvR X.K al H env σ) (tk : Takes X W)
    (hk : scope.kind = .function) (hw : (slotsT tg).all (fun i => decide (i < N.length)) = true) (hg : chkG N scope tg t = true) (hi : (chkI N sc it i && tgI it t) = true) (hf : chkEs N scope ifs fs = true) (hx : chkE N scope elt x = true)
    (h : PostE X al H σ W Q ((evI cx it env st).bind fun w s1 => (lcL w tg (fun e s => evC cx ifs e s) (fun e s => evE cx elt e s) (wipeE env (slotsT tg)) w.items [] s1).bind fun ds s2 => .ok (.new ds) s2)) :
    tLc (SI X t i) (fun v σ' H' Q' => ∀ (s : Shared) (H0 : Hp) (C : Addr) (cl : List (Str × Addr)) (fp : List Addr), SG (X.blk s H0 scope (compEnvC scope cl C X.env) fp) t v σ' H' Q')
      (fun σ' H' Q' => ∀ (s : Shared) (H0 : Hp) (C : Addr) (cl : List (Str × Addr)) (fp : List Addr), SC (X.blk s H0 scope (compEnvC scope cl C X.env) fp) fs σ' H' Q')
      (fun σ' H' Q' => ∀ (s : Shared) (H0 : Hp) (C : Addr) (cl : List (Str × Addr)) (fp : List Addr), SE (X.blk s H0 scope (compEnvC scope cl C X.env) fp) x σ' H' Q') ((ownOf N (slotsT tg)).map (·.2)) σ H Q := by
  rw [own_slots _ hw]
  refine ii g T hi r hE tk (PostR.imp (PostR.bind h) fun w s1 H1 r1 x1 q J hJ => ?_)
  intro a ha
  have han : al.out a := r1.notIn ha
  have q := PostR.bind q
  -- the word between two turns
  refine ⟨fun i m H2 => ∃ ds acc st2 vs, w.items.drop i = ds ∧ m = ds.length ∧ H2 a = some (.lst vs) ∧ RepDs X.K H2 acc vs ∧ Rel X.K al H2 st2 ∧ Ext al H1 al H2 ∧
    PostR X.K X.mg al H1 (fun C H' => W C none σ H') (fun ds s2 H' => PostR X.K X.mg al H' (fun C H' => W C none σ H') (fun v _ H' => ∀ u, RepV X.K al H' v u → Q u H') (.ok (.new ds) s2))
      (lcL w tg (fun e s => evC cx ifs e s) (fun e s => evE cx elt e s) (wipeE env (slotsT tg)) ds acc st2),
    ⟨w.items.length, w.items, [], s1, [], rfl, rfl, upd_same, .nil, r1.ext_new ha, ext_new ha, q⟩, ?_⟩
  rintro i m H2 ⟨ds, acc, st2, vs, hd, rfl, hA, rA, r2, x2, p⟩
  cases ds with
  | nil =>
    rw [lcL] at p
    split at p
    · rename_i ok
      obtain ⟨_, hstop⟩ := hJ _ H2 st2 x2 r2 ok
      refine .inl ⟨hstop i ?_, ?_⟩
      · have := congrArg List.length hd
        rw [List.length_drop] at this
        simp at this
        omega
      · exact p H2 r2 x2 H2 r2 (Ext.refl _ _) _ ⟨a, vs, rfl, hA, han, rA⟩
    · exact p.elim
  | cons d ds =>
    rw [lcL] at p
    split at p
    · rename_i ok
      rw [Bool.and_eq_true, decide_eq_true_eq] at ok
      obtain ⟨ok, hl⟩ := ok
      have rp : Rel X.K ⟨al.c, fun b => al.p b ∨ b = a⟩ H2 st2 := r2.keep fun b hb => by
        have hb : al.p b ∨ b = a := hb
        rcases hb with hb | hb
        · exact r2.prot b hb
        · subst hb
          refine ⟨?_, han.1⟩
          rw [hA]
          exact fun z => by cases z
      obtain ⟨hgo, _⟩ := hJ ⟨al.c, fun b => al.p b ∨ b = a⟩ H2 st2 x2 rp ok
      have hdi : w.items[i]? = some d := by
        have := congrArg (fun l : List D => l[0]?) hd
        simp only [List.getElem?_drop, Nat.add_zero] at this
        exact this
      have hdrop : w.items.drop (i + 1) = ds := by
        have := congrArg (fun l : List D => l.drop 1) hd
        simp only [List.drop_drop] at this
        exact this
      obtain ⟨go, yl⟩ := hgo i d hdi
      refine .inr ⟨go, fun H' => ∃ ds2 acc st2 vs, w.items.drop (i + 1) = ds2 ∧ ds.length = ds2.length ∧ H' a = some (.lst vs) ∧ RepDs X.K H' acc vs ∧ Rel X.K al H' st2 ∧ Ext al H1 al H' ∧
        PostR X.K X.mg al H1 (fun C H' => W C none σ H') (fun ds s2 H' => PostR X.K X.mg al H' (fun C H' => W C none σ H') (fun v _ H' => ∀ u, RepV X.K al H' v u → Q u H') (.ok (.new ds) s2))
          (lcL w tg (fun e s => evC cx ifs e s) (fun e s => evE cx elt e s) (wipeE env (slotsT tg)) ds2 acc st2), fun H' hN => ⟨ds.length, by simp, hN⟩, fun v H3 hy => ?_⟩
      obtain ⟨r3, x3, rv⟩ := yl v H3 hy
      split at p
      · rename_i env1 hb
        have hEw : EnvR X.K ⟨al.c, fun b => al.p b ∨ b = a⟩ H3 (wipeE env (slotsT tg)) (L2.wipe σ (slotsT tg)) := ((((hE.mono x1).mono x2).keep fun b => al.p b ∨ b = a).mono x3).wipe _
        intro s0 H0 C cl fp
        refine snd_G tg (g.blk scope hk s0 H0 C cl fp) hg hEw rv hb fun σ1 e1 w1 => ⟨?_, ?_⟩
        · rw [w1 _ fun i hi => hi, wipe_idem]
        intro s0' H0' C' cl' fp'
        have gb := g.blk scope hk s0' H0' C' cl' fp'
        have e1' : EnvR X.K ⟨al.c, fun b => al.p b ∨ b = a⟩ H3 env1 σ1 := e1
        have lo : ∀ {Ha Hb : Hp}, Ext ⟨al.c, fun b => al.p b ∨ b = a⟩ Ha ⟨al.c, fun b => al.p b ∨ b = a⟩ Hb → Ext al Ha al Hb := fun x => x.less fun b hb => .inl hb
        have lr : ∀ {Ha : Hp} {sa : Store}, Rel X.K ⟨al.c, fun b => al.p b ∨ b = a⟩ Ha sa → Rel X.K al Ha sa := fun r => r.keep fun b hb => r.prot b (.inl hb)
        cases et : evC cx ifs env1 st2 with
        | err => simp only [et] at p; exact p.elim
        | exc c s => simp only [et] at p; exact p.elim
        | ok b st3 =>
          simp only [et] at p
          refine ic gb T hf r3 e1' takes0w ?_
          unfold PostB
          rw [et]
          intro H4 r4 x4
          cases b with
          | false =>
            rw [if_neg (by simp)]
            have x24 := x3.trans x4
            exact ⟨ds, acc, st3, vs, hdrop, rfl, x24.prt a _ (.inr rfl) han.1 hA, rA.mono x24.stab, lr r4, x2.trans (lo x24), p⟩
          | true =>
            rw [if_pos rfl]
            intro s0 H0 C cl fp
            have gb := g.blk scope hk s0 H0 C cl fp
            cases ee : evE cx elt env1 st3 with
            | err => simp only [ee] at p; exact p.elim
            | exc c s => simp only [ee] at p; exact p.elim
            | ok v st4 =>
              simp only [ee] at p
              refine SE.gh ?_
              refine ie gb T hx r4 (e1'.mono x4) takes0w ?_
              unfold PostE
              rw [ee]
              intro H5 r5 x5 u ru
              split at p
              · rename_i y st5 ey
                refine toD_gh r5 ru.weak ey fun H6 r6 x6 rd => ?_
                have x26 := ((x3.trans x4).trans x5).trans x6
                have h6 := x26.prt a _ (.inr rfl) han.1 hA
                have sb : Stab H6 (upd H6 a (.lst (vs ++ [u]))) := stab_upd h6
                refine ⟨vs, h6, by rw [← line_eq, ← rA.length]; exact hl, ds, _, _, _, hdrop, rfl, upd_same, ((rA.mono x26.stab).append (.cons rd .nil)).mono sb, (lr r6).other han sb, (x2.trans (lo x26)).write ha h6, p⟩
              · exact p.elim
      · exact p.elim
    · exact p.elim
theorem c_lc {elt : E} {tg : Tg} {it : It} {ifs : Es} (ii : SndI cx N it) (ic : SndC cx N ifs) (ie : SndE cx N elt) : SndE cx N (.lc elt tg it ifs) := by
  intro X k sc ex al H σ env st W Q g T hc r hE tk h
  unfold chkE at hc
  split at hc
  · rename_i x t i fs scope pos
    simp only [Bool.and_eq_true] at hc
    obtain ⟨⟨⟨⟨⟨hb, hw⟩, hg⟩, hi⟩, hf⟩, hx⟩ := hc
    have hi := (Bool.and_eq_true _ _).mpr hi
    have hw := of_decide_eq_true hw
    have ok := g.blkOk hb
    have sh : ∀ v, foldedSetIterable i X.env v = pure v := fun v => chkI_fold hi v
    unfold evE at h
    exact ⟨_, pe_lc g.calm (by rw [g.n]; exact g.nd) pi_SI ok (fun s H C cl fp => ⟨fun pins s' σ' H' v u Q' I rv h' => pg_SG.run pins s' σ' H' v u Q' I rv (h' s H C cl fp)⟩)
      (fun s H C cl fp => ⟨fun pins s' σ' H' Q' I h' => pts_SC.run pins s' σ' H' Q' I (h' s H C cl fp)⟩) (fun s H C cl fp => ⟨fun pins s' σ' H' Q' I h' => pe_SE.run pins s' σ' H' Q' I (h' s H C cl fp)⟩) sh,
      lc_reads ii ic ie g T r hE tk ok.kind hw hg hi hf hx h⟩
  · cases hc
theorem i_err {it : It} (h0 : ∀ env st, evI cx it env st = .err) : SndI cx N it := by
  intro X k sc tg ex al H σ env st W R' g T hc r hE tk h
  rw [h0] at h
  exact h.elim
mutual
theorem snd_E : ∀ e : E, SndE cx N e
  | .var i => c_var i
  | .int i => c_int i
  | .str x => c_str x
  | .bl b => c_bl b
  | .non => c_non
  | .glob g => c_glob g
  | .bin o a b => c_bin o (snd_E a) (snd_E b)
  | .neg a => c_neg (snd_E a)
  | .inv a => c_inv (snd_E a)
  | .not a => c_not (snd_E a)
  | .cmp o a b => c_cmp o (snd_E a) (snd_E b)
  | .chain o1 o2 a b c => c_chain o1 o2 (snd_E a) (snd_E b) (snd_E c)
  | .and es => c_and (snd_And es)
  | .or es => c_or (snd_Or es)
  | .ite t a b => c_ite (snd_T t) (snd_E a) (snd_E b)
  | .tup es => c_tup (snd_Es es)
  | .list es => c_list (snd_Es es)
  | .ix a i => c_ix (snd_E a) (snd_E i)
  | .slice a lo hi => c_slice (snd_E a) (snd_E lo) (snd_E hi)
  | .slice0 a hi => c_slice0 (snd_E a) (snd_E hi)
  | .slice1 a lo => c_slice1 (snd_E a) (snd_E lo)
  | .rev a => c_rev (snd_E a)
  | .call f es => c_call f (snd_Es es)
  | .blt f es => c_blt f (snd_Es es)
  | .meth m a es => c_meth m (snd_E a) (snd_Es es)
  | .lc elt tg it ifs => c_lc (snd_I it) (snd_C ifs) (snd_E elt)
  | .frz a => c_frz (snd_E a)
  | .isi t a => c_isi t (snd_E a)
theorem snd_Es : ∀ es : Es, SndEs cx N es
  | .nil => a_nil
  | .cons e es => a_cons (snd_E e) (snd_Es es)
theorem snd_And : ∀ es : Es, SndAnd cx N es
  | .nil => and_nil
  | .cons e es => and_cons (snd_E e) (snd_And es)
theorem snd_Or : ∀ es : Es, SndOr cx N es
  | .nil => or_nil
  | .cons e es => or_cons (snd_E e) (snd_Or es)
theorem snd_T : ∀ e : E, SndT cx N e
  | .var i => t_var i
  | .int i => t_err fun _ _ => by first | rfl | (unfold evT; rfl)
  | .str x => t_err fun _ _ => by first | rfl | (unfold evT; rfl)
  | .bl b => t_err fun _ _ => by first | rfl | (unfold evT; rfl)
  | .non => t_err fun _ _ => by first | rfl | (unfold evT; rfl)
  | .glob g => t_err fun _ _ => by first | rfl | (unfold evT; rfl)
  | .bin o a b => t_err fun _ _ => by first | rfl | (unfold evT; rfl)
  | .neg a => t_err fun _ _ => by first | rfl | (unfold evT; rfl)
  | .inv a => t_err fun _ _ => by first | rfl | (unfold evT; rfl)
  | .not a => t_not (snd_T a)
  | .cmp o a b => t_cmp o (snd_E a) (snd_E b)
  | .chain o1 o2 a b c => t_chain o1 o2 (snd_E a) (snd_E b) (snd_E c)
  | .and es => t_and (snd_TA es)
  | .or es => t_or (snd_TO es)
  | .ite t a b => t_err fun _ _ => by first | rfl | (unfold evT; rfl)
  | .tup es => t_err fun _ _ => by first | rfl | (unfold evT; rfl)
  | .list es => t_err fun _ _ => by first | rfl | (unfold evT; rfl)
  | .ix a i => t_ix (snd_E a) (snd_E i)
  | .slice a lo hi => t_err fun _ _ => by first | rfl | (unfold evT; rfl)
  | .slice0 a hi => t_err fun _ _ => by first | rfl | (unfold evT; rfl)
  | .slice1 a lo => t_err fun _ _ => by first | rfl | (unfold evT; rfl)
  | .rev a => t_err fun _ _ => by first | rfl | (unfold evT; rfl)
  | .call f es => t_call f (snd_Es es)
  | .blt f es => t_blt f (snd_Es es)
  | .meth m a es => t_err fun _ _ => by first | rfl | (unfold evT; rfl)
  | .lc elt tg it ifs => t_err fun _ _ => by first | rfl | (unfold evT; rfl)
  | .frz a => t_err fun _ _ => by first | rfl | (unfold evT; rfl)
  | .isi t a => t_isi t (snd_E a)
theorem snd_TA : ∀ es : Es, SndTA cx N es
  | .nil => ta_nil
  | .cons e es => ta_cons (snd_T e) (snd_TA es)
theorem snd_TO : ∀ es : Es, SndTO cx N es
  | .nil => to_nil
  | .cons e es => to_cons (snd_T e) (snd_TO es)
theorem snd_C : ∀ es : Es, SndC cx N es
  | .nil => f_nil
  | .cons e es => f_cons es (snd_T e)
theorem snd_I : ∀ it : It, SndI cx N it
  | .val e => i_val (snd_E e)
  | .range es => i_range (snd_Es es)
  | .enum e => i_enum (snd_E e)
  | .zip a b => i_err fun _ _ => by first | rfl | (unfold evI; rfl)
end
end
end Pv

/-! Statements. -/
namespace Pv
open PySem PySem.Spec PyProof.Rows L2 TL

/-! ### shapes -/
def okComp : Expr → Bool
  | .SetComp .. => false
  | .DictComp .. => false
  | _ => true
theorem chk_comp {N : List Str} {sc : Scope} : ∀ (e : E) (ex : Expr), chkE N sc e ex = true → okComp ex = true
  | .frz a, ex, h => chk_comp a ex (by unfold chkE at h; exact h)
  | .var _, ex, h => by cases ex <;> first | rfl | (unfold chkE at h; cases h)
  | .int _, ex, h => by cases ex <;> first | rfl | (unfold chkE at h; cases h)
  | .str _, ex, h => by cases ex <;> first | rfl | (unfold chkE at h; cases h)
  | .bl _, ex, h => by cases ex <;> first | rfl | (unfold chkE at h; cases h)
  | .non, ex, h => by cases ex <;> first | rfl | (unfold chkE at h; cases h)
  | .glob _, ex, h => by cases ex <;> first | rfl | (unfold chkE at h; cases h)
  | .bin _ _ _, ex, h => by cases ex <;> first | rfl | (unfold chkE at h; cases h)
  | .neg _, ex, h => by cases ex <;> first | rfl | (unfold chkE at h; cases h)
  | .inv _, ex, h => by cases ex <;> first | rfl | (unfold chkE at h; cases h)
  | .not _, ex, h => by cases ex <;> first | rfl | (unfold chkE at h; cases h)
  | .cmp _ _ _, ex, h => by cases ex <;> first | rfl | (unfold chkE at h; cases h)
  | .chain _ _ _ _ _, ex, h => by cases ex <;> first | rfl | (unfold chkE at h; cases h)
  | .and _, ex, h => by cases ex <;> first | rfl | (unfold chkE at h; cases h)
  | .or _, ex, h => by cases ex <;> first | rfl | (unfold chkE at h; cases h)
  | .ite _ _ _, ex, h => by cases ex <;> first | rfl | (unfold chkE at h; cases h)
  | .tup _, ex, h => by cases ex <;> first | rfl | (unfold chkE at h; cases h)
  | .list _, ex, h => by cases ex <;> first | rfl | (unfold chkE at h; cases h)
  | .ix _ _, ex, h => by cases ex <;> first | rfl | (unfold chkE at h; cases h)
  | .slice _ _ _, ex, h => by cases ex <;> first | rfl | (unfold chkE at h; cases h)
  | .slice0 _ _, ex, h => by cases ex <;> first | rfl | (unfold chkE at h; cases h)
  | .slice1 _ _, ex, h => by cases ex <;> first | rfl | (unfold chkE at h; cases h)
  | .rev _, ex, h => by cases ex <;> first | rfl | (unfold chkE at h; cases h)
  | .call _ _, ex, h => by cases ex <;> first | rfl | (unfold chkE at h; cases h)
  | .blt _ _, ex, h => by cases ex <;> first | rfl | (unfold chkE at h; cases h)
  | .meth _ _ _, ex, h => by cases ex <;> first | rfl | (unfold chkE at h; cases h)
  | .isi _ _, ex, h => by cases ex <;> first | rfl | (unfold chkE at h; cases h)
  | .lc _ _ _ _, ex, h => by cases ex <;> first | rfl | (unfold chkE at h; cases h)
theorem sw_false {N : List Str} {sc : Scope} {e : E} {ex : Expr} (h : chkE N sc e ex = true) (n : isLC ex = false) (t : Option Expr) (l : Nat) (env : PySem.Env) : swapsWith ex t l env = pure false := by
  have h := chk_comp e ex h
  cases ex <;> first | rfl | (cases n; done) | (simp [okComp] at h; done)
theorem sole_false {N : List Str} {sc : Scope} {e : E} {ex : Expr} (h : chkE N sc e ex = true) (n : isLC ex = false) (t : Expr) (l : Nat) (env : PySem.Env) : swapsWithSole [t] ex l env = pure false := sw_false h n _ _ _
theorem stores_none {ex : Expr} (n : isTuple ex = false) (t : Expr) (env : PySem.Env) : swappedStores [t] ex env = pure none := by
  cases t <;> first | rfl | (cases ex <;> first | rfl | cases n)
theorem stores_none' {ex o i : Expr} {p : Pos} (env : PySem.Env) : swappedStores [.Subscript o i p] ex env = pure none := rfl

/-! ### what is wanted of a statement's end -/
def PostS (X : Cx) (al : Al) (H : Hp) (D : Ends) (W : WX) : SR → Prop
  | .nx env s => ∀ al' H' σ', Rel X.K al' H' s → EnvR X.K al' H' env σ' → Ext al H al' H' → D.nx σ' H'
  | .ct env s => ∀ al' H' σ', Rel X.K al' H' s → EnvR X.K al' H' env σ' → Ext al H al' H' → D.ct σ' H'
  | .rt v s => ∀ al' H' u, Rel X.K al' H' s → Ext al H al' H' → RepV X.K al' H' v u → D.rt u H'
  | .exc c env s => ∀ al' H' σ' C, Rel X.K al' H' s → EnvR X.K al' H' env σ' → Ext al H al' H' → X.mg (Str.ofString c) = some C → W C none σ' H'
  | .err => False
section
variable {X : Cx} {al al1 : Al} {H H1 : Hp} {D : Ends} {W : WX} {r : SR}
theorem PostS.ext (x1 : Ext al H al1 H1) (h : PostS X al H D W r) : PostS X al1 H1 D W r := by
  cases r with
  | nx env s => exact fun al' H' σ' r e x => h al' H' σ' r e (x1.trans x)
  | ct env s => exact fun al' H' σ' r e x => h al' H' σ' r e (x1.trans x)
  | rt v s => exact fun al' H' u r x rv => h al' H' u r (x1.trans x) rv
  | exc c env s => exact fun al' H' σ' C r e x m => h al' H' σ' C r e (x1.trans x) m
  | err => exact h
theorem Ext.less' {al al' : Al} {p : Addr → Prop} {H H' : Hp} (x : Ext ⟨al.c, p⟩ H al' H') (h : ∀ b, al.p b → p b) : Ext al H ⟨al'.c, al.p⟩ H' :=
  ⟨x.pre, rfl, x.fresh, fun b u hp hn e => x.prt b u (h b hp) hn e, fun b u n e => x.has1 n.1 e, x.stab⟩
theorem Rel.less {K : Frag} {al al' : Al} {p : Addr → Prop} {H H' : Hp} {st : Store} (r : Rel K al' H' st) (x : Ext ⟨al.c, p⟩ H al' H') (h : ∀ b, al.p b → p b) : Rel K ⟨al'.c, al.p⟩ H' st :=
  r.keep fun a ha => r.prot a (by rw [x.pp]; exact h a ha)
/-- more is kept safe -/
theorem PostS.lift {p : Addr → Prop} (hp : ∀ b, al.p b → p b) (h : PostS X al H D W r) : PostS X ⟨al.c, p⟩ H D W r := by
  cases r with
  | nx env s => exact fun al' H' σ' r e x => h ⟨al'.c, al.p⟩ H' σ' (r.less x hp) (e.keep _) (x.less' hp)
  | ct env s => exact fun al' H' σ' r e x => h ⟨al'.c, al.p⟩ H' σ' (r.less x hp) (e.keep _) (x.less' hp)
  | rt v s =>
    refine fun al' H' u r x rv => h ⟨al'.c, al.p⟩ H' u (r.less x hp) (x.less' hp) ?_
    cases v with
    | d d => exact rv
    | ref i => exact rv
    | new ds =>
      obtain ⟨a, vs, e, h1, n, h2⟩ := rv
      exact ⟨a, vs, e, h1, ⟨n.1, fun q => n.2 (by rw [x.pp]; exact hp a q)⟩, h2⟩
  | exc c env s => exact fun al' H' σ' C r e x m => h ⟨al'.c, al.p⟩ H' σ' C (r.less x hp) (e.keep _) (x.less' hp) m
  | err => exact h
/-- what stands is kept safe -/
def sureP (al : Al) (H : Hp) (b : Addr) : Prop := H b ≠ none ∧ b ∉ al.c
theorem Rel.sure {st : Store} (r : Rel X.K al H st) : Rel X.K ⟨al.c, sureP al H⟩ H st := r.keep fun _ h => h
theorem Rel.sureLe {st : Store} (r : Rel X.K al H st) : ∀ b, al.p b → sureP al H b := fun b h => r.prot b h
end

/-- a def's own context -/
structure Own (X : Cx) : Prop where
  po : PassesOwn (model X.prog X.w) X.A X.env X.xe
  hs : X.stack = X.env :: X.outer
  hf : X.env.frame = some X.env.locals
section
variable {cx : Cxt} {N : List Str}
def SndS (cx : Cxt) (N : List Str) (s : S) : Prop := ∀ ⦃X : Cx⦄ ⦃k : Nat⦄ ⦃sc : Scope⦄ ⦃st : Stmt⦄ ⦃al : Al⦄ ⦃H : Hp⦄ ⦃σ : L2.St⦄ ⦃env : Env⦄ ⦃sto : Store⦄ ⦃W : WX⦄ ⦃D : Ends⦄,
  Good N sc k X → Tab cx k X.prog X.w X.K X.mg X.base → Own X → chkS N sc s st = true → Rel X.K al H sto → EnvR X.K al H env σ → Takes X W → PostS X al H D W (evS cx s env sto) → SS X st D σ H
def SndSs (cx : Cxt) (N : List Str) (s : Ss) : Prop := ∀ ⦃X : Cx⦄ ⦃k : Nat⦄ ⦃sc : Scope⦄ ⦃st : List Stmt⦄ ⦃al : Al⦄ ⦃H : Hp⦄ ⦃σ : L2.St⦄ ⦃env : Env⦄ ⦃sto : Store⦄ ⦃W : WX⦄ ⦃D : Ends⦄,
  Good N sc k X → Tab cx k X.prog X.w X.K X.mg X.base → Own X → chkSs N sc s st = true → Rel X.K al H sto → EnvR X.K al H env σ → Takes X W → PostS X al H D W (evSs cx s env sto) → SSs X st D σ H

theorem ss_nil : SndSs cx N .nil := by
  intro X k sc st al H σ env sto W D g T po hc r hE tk h
  unfold chkSs at hc
  split at hc
  · unfold evSs at h
    exact ⟨_, pss_nil, h al H σ r hE (Ext.refl _ _)⟩
  · cases hc
theorem ss_cons {s : S} {ss : Ss} (ih : SndS cx N s) (ihs : SndSs cx N ss) : SndSs cx N (.cons s ss) := by
  intro X k sc st al H σ env sto W D g T po hc r hE tk h
  unfold chkSs at hc
  split at hc
  · rename_i x xs
    rw [Bool.and_eq_true] at hc
    unfold evSs at h
    refine ⟨_, pss_cons ps_SS (pss_SSs (s := xs)), ?_⟩
    refine ih (D := { D with nx := SSs X xs D }) (W := W) g T po hc.1 r hE tk ?_
    cases e : evS cx s env sto with
    | nx env1 s1 =>
      simp only [e] at h
      exact fun al' H' σ' r' e' x' => ihs g T po hc.2 r' e' tk (h.ext x')
    | ct env1 s1 => simp only [e] at h; exact h
    | rt v s1 => simp only [e] at h; exact h
    | exc c env1 s1 => simp only [e] at h; exact h
    | err => simp only [e] at h; exact h
  · cases hc
theorem s_pass : SndS cx N .pass := by
  intro X k sc st al H σ env sto W D g T po hc r hE tk h
  unfold chkS at hc
  split at hc
  · unfold evS at h
    exact ⟨_, ps_pass, h al H σ r hE (Ext.refl _ _)⟩
  · cases hc
theorem s_cont : SndS cx N .cont := by
  intro X k sc st al H σ env sto W D g T po hc r hE tk h
  unfold chkS at hc
  split at hc
  · unfold evS at h
    exact ⟨_, ps_continue, h al H σ r hE (Ext.refl _ _)⟩
  · cases hc
theorem s_retN : SndS cx N .retN := by
  intro X k sc st al H σ env sto W D g T po hc r hE tk h
  unfold chkS at hc
  split at hc
  · unfold evS at h
    exact ⟨_, ps_retN, h al H _ r (Ext.refl _ _) .non⟩
  · cases hc
theorem s_ret (e : E) : SndS cx N (.ret e) := by
  intro X k sc st al H σ env sto W D g T po hc r hE tk h
  unfold chkS at hc
  split at hc
  · unfold evS at h
    refine ⟨_, ps_ret pe_SE, snd_E e g T hc r hE tk ?_⟩
    unfold PostE
    cases q : evE cx e env sto with
    | ok v s1 => simp only [q] at h; exact fun H' r' x' u ru => h al H' u r' x' ru
    | exc c s1 => simp only [q] at h; exact fun H' C r' x' m => h al H' σ C r' (hE.mono x') x' m
    | err => simp only [q] at h; exact h
  · cases hc
theorem s_ex (e : E) : SndS cx N (.ex e) := by
  intro X k sc st al H σ env sto W D g T po hc r hE tk h
  unfold chkS at hc
  split at hc
  · rw [Bool.and_eq_true, Bool.not_eq_true'] at hc
    unfold evS at h
    refine ⟨_, ps_expr pe_SE (sw_false hc.1 hc.2 _ _ _), snd_E e g T hc.1 r hE tk ?_⟩
    unfold PostE
    cases q : evE cx e env sto with
    | ok v s1 => simp only [q] at h; exact fun H' r' x' u ru => h al H' σ r' (hE.mono x') x'
    | exc c s1 => simp only [q] at h; exact fun H' C r' x' m => h al H' σ C r' (hE.mono x') x' m
    | err => simp only [q] at h; exact h
  · cases hc
theorem s_ife (t : E) {a b : Ss} (ia : SndSs cx N a) (ib : SndSs cx N b) : SndS cx N (.ife t a b) := by
  intro X k sc st al H σ env sto W D g T po hc r hE tk h
  unfold chkS at hc
  split at hc
  · rw [Bool.and_eq_true, Bool.and_eq_true] at hc
    unfold evS at h
    refine ⟨_, ps_if pt_ST pss_SSs pss_SSs, snd_T t g T hc.1.1 r hE tk ?_⟩
    unfold PostB
    cases q : evT cx t env sto with
    | ok v s1 =>
      cases v with
      | true =>
        simp only [q] at h
        intro H' r' x'
        show (if true = true then SSs X _ D σ H' else SSs X _ D σ H')
        rw [if_pos rfl]
        exact ia g T po hc.1.2 r' (hE.mono x') tk (h.ext x')
      | false =>
        simp only [q] at h
        intro H' r' x'
        show (if false = true then SSs X _ D σ H' else SSs X _ D σ H')
        rw [if_neg (by simp)]
        exact ib g T po hc.2 r' (hE.mono x') tk (h.ext x')
    | exc c s1 => simp only [q] at h; exact fun H' C r' x' m => h al H' σ C r' (hE.mono x') x' m
    | err => simp only [q] at h; exact h
  · cases hc
/-- a value that a name takes -/
theorem set_post {X : Cx} {al : Al} {H : Hp} {σ : L2.St} {env : Env} {sto : Store} {W : WX} {D : Ends} {i : Nat} {e : E} (r : Rel X.K al H sto) (hE : EnvR X.K al H env σ) (h : PostS X al H D W (evS cx (.set i e) env sto)) :
    PostE X ⟨al.c, sureP al H⟩ H σ W (fun x H1 => D.nx (σ.set i (some x)) H1) (evE cx e env sto) := by
  unfold evS at h
  unfold PostE
  have le := r.sureLe
  cases q : evE cx e env sto with
  | ok v s1 =>
    intro H' r' x' u ru
    have r0 := r'.less x' le
    have x0 : Ext al H al H' := x'.less le
    cases v with
    | d d =>
      simp only [q] at h
      exact h al H' _ r0 ((hE.mono x0).set (v := .d d) rfl ru i) x0
    | ref j =>
      simp only [q] at h
      exact h al H' _ r0 ((hE.mono x0).set (v := .ref j) rfl ru i) x0
    | new xs =>
      simp only [q] at h
      obtain ⟨a, vs, rfl, h1, n, h2⟩ := ru
      have hn : H a = none := by
        cases qa : H a with
        | none => rfl
        | some o =>
          refine absurd ⟨?_, n.1⟩ n.2
          rw [qa]
          exact fun z => by cases z
      have o : al.out a := ⟨n.1, fun p => n.2 (le a p)⟩
      have rp := r0.push (a := a) (c := .lst xs) o ⟨vs, h1, h2⟩
      have xp : Ext al H (al.push a) H' := by
        obtain ⟨β, hb⟩ := x0.pre
        refine ⟨⟨[a], rfl⟩, rfl, fun b hb nb => ?_, x0.prt, x0.oth, x0.stab⟩
        have hb : b ∈ al.c ++ [a] := hb
        rcases List.mem_append.mp hb with z | z
        · exact absurd z nb
        · have : b = a := by simpa using z
          subst this; exact hn
      refine h (al.push a) H' _ rp ((hE.mono xp).set (v := .ref s1.length) rfl ⟨a, ?_, rfl⟩ i) xp
      show (al.c ++ [a])[s1.length]? = some a
      have hl : al.c.length = s1.length := r0.len
      rw [← hl, List.getElem?_append_right (Nat.le_refl _)]
      simp
  | exc c s1 =>
    simp only [q] at h
    exact fun H' C r' x' m => h al H' σ C (r'.less x' le) (hE.mono (x'.less le)) (x'.less le) m
  | err => simp only [q] at h; exact h
theorem EnvR.sure {X : Cx} {al : Al} {H : Hp} {env : Env} {σ : L2.St} (h : EnvR X.K al H env σ) : EnvR X.K ⟨al.c, sureP al H⟩ H env σ := h.keep _
/-- a comprehension with its shuttings -/
theorem lc_gh : ∀ (e : E) {X : Cx} {k : Nat} {sc : Scope} {x t i : Expr} {fs : List Expr} {scope : Scope} {pos : Pos} {al : Al} {H : Hp} {σ : L2.St} {env : Env} {st : Store} {W : WX} {Q : VK},
    Good N sc k X → Tab cx k X.prog X.w X.K X.mg X.base → Rel X.K al H st → EnvR X.K al H env σ → Takes X W → chkE N sc e (.ListComp x [⟨t, i, fs, 0⟩] scope pos) = true →
    PostE X al H σ W (fun v H1 => Gh X H1 fun H2 => Q v H2) (evE cx e env st) →
    ∃ tg : Tg, BlkOk X.N X.env.scope scope (ownOf N (slotsT tg)) ∧ (∀ v, foldedSetIterable i X.env v = pure v) ∧
      tLc (SI X t i) (fun v σ' H' Q' => ∀ (s : Shared) (H0 : Hp) (C : Addr) (cl : List (Str × Addr)) (fp : List Addr), SG (X.blk s H0 scope (compEnvC scope cl C X.env) fp) t v σ' H' Q')
      (fun σ' H' Q' => ∀ (s : Shared) (H0 : Hp) (C : Addr) (cl : List (Str × Addr)) (fp : List Addr), SC (X.blk s H0 scope (compEnvC scope cl C X.env) fp) fs σ' H' Q')
      (fun σ' H' Q' => ∀ (s : Shared) (H0 : Hp) (C : Addr) (cl : List (Str × Addr)) (fp : List Addr), SE (X.blk s H0 scope (compEnvC scope cl C X.env) fp) x σ' H' Q') ((ownOf N (slotsT tg)).map (·.2)) σ H (fun v H1 => Gh X H1 fun H2 => Q v H2)
  | .frz a, X, k, sc, x, t, i, fs, scope, pos, al, H, σ, env, st, W, Q, g, T, r, hE, tk, hc, h => by
    unfold chkE at hc
    rw [evE] at h
    refine lc_gh a g T r hE tk hc (PostR.imp (PostR.bind h) fun x s1 H1 r1 x1 q u ru => ?_)
    split at q
    · rename_i d s2 e
      exact Gh.join (toD_gh r1 ru.weak e fun H2 r2 x2 rd => q H2 r2 x2 _ rd)
    · exact q.elim
  | .lc elt tg it ifs, X, k, sc, x, t, i, fs, scope, pos, al, H, σ, env, st, W, Q, g, T, r, hE, tk, hc, h => by
    unfold chkE at hc
    simp only [Bool.and_eq_true] at hc
    obtain ⟨⟨⟨⟨⟨hb, hw⟩, hg⟩, hi⟩, hf⟩, hx⟩ := hc
    have hi := (Bool.and_eq_true _ _).mpr hi
    have hw := of_decide_eq_true hw
    have ok := g.blkOk hb
    unfold evE at h
    exact ⟨tg, ok, fun v => chkI_fold hi v, lc_reads (snd_I it) (snd_C ifs) (snd_E elt) g T r hE tk ok.kind hw hg hi hf hx h⟩
  | .var _, X, k, sc, x, t, i, fs, scope, pos, al, H, σ, env, st, W, Q, g, T, r, hE, tk, hc, h => by unfold chkE at hc; cases hc
  | .int _, X, k, sc, x, t, i, fs, scope, pos, al, H, σ, env, st, W, Q, g, T, r, hE, tk, hc, h => by unfold chkE at hc; cases hc
  | .str _, X, k, sc, x, t, i, fs, scope, pos, al, H, σ, env, st, W, Q, g, T, r, hE, tk, hc, h => by unfold chkE at hc; cases hc
  | .bl _, X, k, sc, x, t, i, fs, scope, pos, al, H, σ, env, st, W, Q, g, T, r, hE, tk, hc, h => by unfold chkE at hc; cases hc
  | .non, X, k, sc, x, t, i, fs, scope, pos, al, H, σ, env, st, W, Q, g, T, r, hE, tk, hc, h => by unfold chkE at hc; cases hc
  | .glob _, X, k, sc, x, t, i, fs, scope, pos, al, H, σ, env, st, W, Q, g, T, r, hE, tk, hc, h => by unfold chkE at hc; cases hc
  | .bin _ _ _, X, k, sc, x, t, i, fs, scope, pos, al, H, σ, env, st, W, Q, g, T, r, hE, tk, hc, h => by unfold chkE at hc; cases hc
  | .neg _, X, k, sc, x, t, i, fs, scope, pos, al, H, σ, env, st, W, Q, g, T, r, hE, tk, hc, h => by unfold chkE at hc; cases hc
  | .inv _, X, k, sc, x, t, i, fs, scope, pos, al, H, σ, env, st, W, Q, g, T, r, hE, tk, hc, h => by unfold chkE at hc; cases hc
  | .not _, X, k, sc, x, t, i, fs, scope, pos, al, H, σ, env, st, W, Q, g, T, r, hE, tk, hc, h => by unfold chkE at hc; cases hc
  | .cmp _ _ _, X, k, sc, x, t, i, fs, scope, pos, al, H, σ, env, st, W, Q, g, T, r, hE, tk, hc, h => by unfold chkE at hc; cases hc
  | .chain _ _ _ _ _, X, k, sc, x, t, i, fs, scope, pos, al, H, σ, env, st, W, Q, g, T, r, hE, tk, hc, h => by unfold chkE at hc; cases hc
  | .and _, X, k, sc, x, t, i, fs, scope, pos, al, H, σ, env, st, W, Q, g, T, r, hE, tk, hc, h => by unfold chkE at hc; cases hc
  | .or _, X, k, sc, x, t, i, fs, scope, pos, al, H, σ, env, st, W, Q, g, T, r, hE, tk, hc, h => by unfold chkE at hc; cases hc
  | .ite _ _ _, X, k, sc, x, t, i, fs, scope, pos, al, H, σ, env, st, W, Q, g, T, r, hE, tk, hc, h => by unfold chkE at hc; cases hc
  | .tup _, X, k, sc, x, t, i, fs, scope, pos, al, H, σ, env, st, W, Q, g, T, r, hE, tk, hc, h => by unfold chkE at hc; cases hc
  | .list _, X, k, sc, x, t, i, fs, scope, pos, al, H, σ, env, st, W, Q, g, T, r, hE, tk, hc, h => by unfold chkE at hc; cases hc
  | .ix _ _, X, k, sc, x, t, i, fs, scope, pos, al, H, σ, env, st, W, Q, g, T, r, hE, tk, hc, h => by unfold chkE at hc; cases hc
  | .slice _ _ _, X, k, sc, x, t, i, fs, scope, pos, al, H, σ, env, st, W, Q, g, T, r, hE, tk, hc, h => by unfold chkE at hc; cases hc
  | .slice0 _ _, X, k, sc, x, t, i, fs, scope, pos, al, H, σ, env, st, W, Q, g, T, r, hE, tk, hc, h => by unfold chkE at hc; cases hc
  | .slice1 _ _, X, k, sc, x, t, i, fs, scope, pos, al, H, σ, env, st, W, Q, g, T, r, hE, tk, hc, h => by unfold chkE at hc; cases hc
  | .rev _, X, k, sc, x, t, i, fs, scope, pos, al, H, σ, env, st, W, Q, g, T, r, hE, tk, hc, h => by unfold chkE at hc; cases hc
  | .call _ _, X, k, sc, x, t, i, fs, scope, pos, al, H, σ, env, st, W, Q, g, T, r, hE, tk, hc, h => by unfold chkE at hc; cases hc
  | .blt _ _, X, k, sc, x, t, i, fs, scope, pos, al, H, σ, env, st, W, Q, g, T, r, hE, tk, hc, h => by unfold chkE at hc; cases hc
  | .meth _ _ _, X, k, sc, x, t, i, fs, scope, pos, al, H, σ, env, st, W, Q, g, T, r, hE, tk, hc, h => by unfold chkE at hc; cases hc
  | .isi _ _, X, k, sc, x, t, i, fs, scope, pos, al, H, σ, env, st, W, Q, g, T, r, hE, tk, hc, h => by unfold chkE at hc; cases hc
theorem SS.gh {X : Cx} {s : Stmt} {D : Ends} {σ : L2.St} {H : Hp} (h : SS X s { D with nx := fun σ H => Gh X H (D.nx σ) } σ H) : SS X s D σ H := by
  obtain ⟨t, p, q⟩ := h
  refine ⟨fun D σ H => t { D with nx := fun σ H => Gh X H (D.nx σ) } σ H, ⟨fun pins s σ' H' D' I h' => ?_⟩, q⟩
  refine thn (p.run pins s σ' H' _ I h') fun f s1 z => ?_
  cases f with
  | next =>
    obtain ⟨σ2, H2, I2, g⟩ := z
    obtain ⟨H3, I3, q3⟩ := g pins σ2 s1 I2
    exact ⟨σ2, H3, I3, q3⟩
  | ret v => exact z
  | brk => exact z
  | cont => exact z
theorem chk_lcShape {sc : Scope} : ∀ (e : E) {x : Expr} {cs : List Comprehension} {scope : Scope} {pos : Pos}, chkE N sc e (.ListComp x cs scope pos) = true → ∃ t i fs, cs = [⟨t, i, fs, 0⟩]
  | .frz a, _, _, _, _, h => chk_lcShape a (by unfold chkE at h; exact h)
  | .lc _ _ _ _, _, _, _, _, h => by
    unfold chkE at h
    split at h
    · rename_i heq
      cases heq
      exact ⟨_, _, _, rfl⟩
    · cases h
  | .var _, _, _, _, _, h => by unfold chkE at h; cases h
  | .int _, _, _, _, _, h => by unfold chkE at h; cases h
  | .str _, _, _, _, _, h => by unfold chkE at h; cases h
  | .bl _, _, _, _, _, h => by unfold chkE at h; cases h
  | .non, _, _, _, _, h => by unfold chkE at h; cases h
  | .glob _, _, _, _, _, h => by unfold chkE at h; cases h
  | .bin _ _ _, _, _, _, _, h => by unfold chkE at h; cases h
  | .neg _, _, _, _, _, h => by unfold chkE at h; cases h
  | .inv _, _, _, _, _, h => by unfold chkE at h; cases h
  | .not _, _, _, _, _, h => by unfold chkE at h; cases h
  | .cmp _ _ _, _, _, _, _, h => by unfold chkE at h; cases h
  | .chain _ _ _ _ _, _, _, _, _, h => by unfold chkE at h; cases h
  | .and _, _, _, _, _, h => by unfold chkE at h; cases h
  | .or _, _, _, _, _, h => by unfold chkE at h; cases h
  | .ite _ _ _, _, _, _, _, h => by unfold chkE at h; cases h
  | .tup _, _, _, _, _, h => by unfold chkE at h; cases h
  | .list _, _, _, _, _, h => by unfold chkE at h; cases h
  | .ix _ _, _, _, _, _, h => by unfold chkE at h; cases h
  | .slice _ _ _, _, _, _, _, h => by unfold chkE at h; cases h
  | .slice0 _ _, _, _, _, _, h => by unfold chkE at h; cases h
  | .slice1 _ _, _, _, _, _, h => by unfold chkE at h; cases h
  | .rev _, _, _, _, _, h => by unfold chkE at h; cases h
  | .call _ _, _, _, _, _, h => by unfold chkE at h; cases h
  | .blt _ _, _, _, _, _, h => by unfold chkE at h; cases h
  | .meth _ _ _, _, _, _, _, h => by unfold chkE at h; cases h
  | .isi _ _, _, _, _, _, h => by unfold chkE at h; cases h
theorem s_set (i : Nat) (e : E) : SndS cx N (.set i e) := by
  intro X k sc st al H σ env sto W D g T po hc r hE tk h
  unfold chkS at hc
  split at hc
  · rename_i x p ex q
    simp only [Bool.and_eq_true] at hc
    obtain ⟨⟨hs, he⟩, hl⟩ := hc
    unfold isSet at hs
    simp only [Bool.and_eq_true, decide_eq_true_eq] at hs
    obtain ⟨l1, l2⟩ := g.loc x hs.1.2
    have hN : X.N.Nodup := by rw [g.n]; exact g.nd
    have hi : X.N[i]? = some x := by rw [g.n]; exact hs.1.1
    have hp := set_post r hE h
    by_cases sw : isLC ex = false
    · exact ⟨_, ps_set hN hi l1 pe_SE (sw_false he sw _ _ _) l2, snd_E e g T he r.sure hE.sure tk hp⟩
    · cases ex with
      | ListComp x1 cs scope pos =>
        obtain ⟨t, it, fs, rfl⟩ := chk_lcShape e he
        rw [Bool.or_eq_true, Bool.or_eq_true, Bool.and_eq_true, Bool.and_eq_true, decide_eq_true_eq, decide_eq_true_eq] at hl
        rcases hl with (hl | hl) | ⟨⟨hl, hline⟩, hn⟩
        · cases hl
        · have kc := g.cel x hl
          refine ⟨_, ps_set hN hi l1 pe_SE ?_ l2, snd_E e g T he r.sure hE.sure tk hp⟩
          show (pure (X.env.blockKind == .function && X.env.kindOf x == some .local && p.line == pos.line && !(scope.names.any fun (n, k) => n == x && (k == .local || k == .cell))) : Sem Bool) = pure false
          have : X.env.kindOf x = some .cell := kc
          rw [this]
          congr 1
          simp only [Bool.and_eq_false_iff]
          exact .inl (.inl (.inr rfl))
        · have kl := g.lcl x hl
          have hp' : PostE X ⟨al.c, sureP al H⟩ H σ W (fun v H1 => Gh X H1 fun H2 => D.nx (σ.set i (some v)) H2) (evE cx e env sto) := PostR.imp hp fun v s1 H1 r1 x1 q u ru => Gh.here (q u ru)
          obtain ⟨tg, ok, fo, hlc⟩ := lc_gh e g T r.sure hE.sure tk he hp'
          refine SS.gh ⟨_, ps_setLc g.calm hN hi kl ?_ pi_SI ok (fun s H C cl fp => ⟨fun pins s' σ' H' v u Q' I rv h' => pg_SG.run pins s' σ' H' v u Q' I rv (h' s H C cl fp)⟩)
            (fun s H C cl fp => ⟨fun pins s' σ' H' Q' I h' => pts_SC.run pins s' σ' H' Q' I (h' s H C cl fp)⟩) (fun s H C cl fp => ⟨fun pins s' σ' H' Q' I h' => pe_SE.run pins s' σ' H' Q' I (h' s H C cl fp)⟩) fo, hlc⟩
          show (pure (X.env.blockKind == .function && X.env.kindOf x == some .local && p.line == pos.line && !(scope.names.any fun (n, k) => n == x && (k == .local || k == .cell))) : Sem Bool) = pure true
          have k1 : X.env.kindOf x = some .local := kl
          have k2 : X.env.blockKind = .function := by
            unfold PySem.Env.blockKind
            rw [g.knd]
            rfl
          have k3 : (p.line == pos.line) = true := hline
          rw [k1, k2, k3]
          simp only [] at hn
          rw [hn]
          rfl
      | _ => exact absurd rfl sw
  · cases hc
end
end Pv

/-! try .. except C as e: what is said of the exception. -/
namespace Pv
open PySem PySem.Spec PyProof.Rows L2 TL

theorem scope_ok {N P : List Str} {sc : Scope} (h : chkScope N P sc = true) : FnScope N P sc := by
  unfold chkScope at h
  simp only [Bool.and_eq_true, decide_eq_true_eq, Bool.not_eq_true', List.all_eq_true, Bool.or_eq_true] at h
  obtain ⟨⟨⟨⟨⟨⟨h1, h2⟩, h3⟩, h4⟩, h5⟩, h6⟩, h7⟩ := h
  exact ⟨h1, h2, h3, h4, h5, h6, h7⟩
/-- the exception that is held: its object stands among the context's pins -/
structure Held (Y : Cx) (a C : Addr) : Prop where
  ex : ∃ oe, (a, oe) ∈ Y.pn ∧ Zc (.ref C) none oe ∧ ∃ vs, oe.data = .fields vs
theorem call_isP {Y : Cx} {a D : Addr} (C : ExcC Y.K D) (hh : Held Y a D) : CallR Y (.builtin "isinstance") (rIsE Y.K D a) := by
  intro pins s σ H xs us Q I r h
  obtain ⟨oe, hp, hz, vs, hv⟩ := hh.ex
  obtain ⟨c, cv, b, rfl, hcv, e, q⟩ := h
  cases r with
  | cons rx rr =>
    cases rr with
    | cons rt rr =>
      cases rr
      cases rx
      have ec := hcv _ rt
      subst ec
      obtain ⟨hget, _⟩ := I.pin (a, oe) (List.mem_append.mpr (.inl hp))
      have J : PySem.W.InstAt s.heap a oe D none := by
        obtain ⟨oc, od, oda, osl⟩ := oe
        obtain ⟨h1, h2⟩ := hz
        dsimp only at h1 h2 hv
        subst h1 h2 hv
        exact ⟨hget, rfl, rfl, trivial⟩
      exact PySem.W.kia_one (PySem.W.handS_kitx_exc C.hg C.hk C.hs C.hd C.ha C.hn C.ht C.hm) I.kIn J e (fun z => nomatch z) fun tk => ⟨.bl b, H, I.kept (t' := tk) fun _ _ z => z, rfl, q⟩
/-- isinstance(e, (C, ..)) -/
theorem call_isPT {Y : Cx} {a D : Addr} (C : ExcC Y.K D) (hh : Held Y a D) : CallR Y (.builtin "isinstance") (fun xs H Q => ∃ (tp : Addr) (vs : List V) (us : List Value) (b : Bool), xs = [.ref a, .ref tp] ∧ H tp = some (.tup vs) ∧ (∀ ws, Vals vs ws → ws = us) ∧
    PySem.W.kitAny Y.K (.ref D) us = some b ∧ Q (.bl b) H) := by
  intro pins s σ H xs us0 Q I r h
  obtain ⟨oe, hp, hz, vs0, hv⟩ := hh.ex
  obtain ⟨tp, vs, us, b, rfl, hT, uq, e, q⟩ := h
  obtain ⟨u1, u2, rfl, r1, r2⟩ := vals2 r
  cases (show u1 = Value.ref a from r1)
  cases (show u2 = Value.ref tp from r2)
  obtain ⟨hget, _⟩ := I.pin (a, oe) (List.mem_append.mpr (.inl hp))
  have J : PySem.W.InstAt s.heap a oe D none := by
    obtain ⟨oc, od, oda, osl⟩ := oe
    obtain ⟨h1, h2⟩ := hz
    dsimp only at h1 h2 hv
    subst h1 h2 hv
    exact ⟨hget, rfl, rfl, trivial⟩
  obtain ⟨_, its, rv, o, h1, h2, n, h3⟩ := (show ObjOk Y.prog Y.w H s.heap tp (.tup vs) from I.hok tp _ hT)
  have e3 := uq _ rv
  subst e3
  obtain ⟨oc, od, dt, sl⟩ := o
  simp only at h2 h3
  subst h2 h3
  exact PySem.W.kia_tup (PySem.W.handS_kitx_exc C.hg C.hk C.hs C.hd C.ha C.hn C.ht C.hm) I.kIn J h1 e (fun z => nomatch z) fun tk => ⟨.bl b, H, I.kept (t' := tk) fun _ _ z => z, rfl, q⟩
/-- a context in which an exception is held -/
structure GoodH (N : List Str) (sc : Scope) (Y : Cx) : Prop where
  n : Y.N = N
  nd : N.Nodup
  vis : ∀ x, vis sc x = true → Vis Y.env.scope x
  loc : ∀ x, locl sc x = true → Loc Y.env.scope x ∧ (Y.fn x = true ∨ Y.env.scope.names.lookup x = some .local)
  gl : ∀ x, gl sc x = true → Gl Y x
section
variable {N : List Str} {sc : Scope} {Y : Cx}
theorem GoodH.var (g : GoodH N sc Y) {i : Nat} {x : Str} {p : Pos} (h : isVar N sc i x = true) : PE Y (.Name x p) (tVar i) := by
  unfold isVar at h
  simp only [Bool.and_eq_true, decide_eq_true_eq] at h
  obtain ⟨h1, h2, _⟩ := plain1 h.2
  exact pe_var (by rw [g.n]; exact h.1.1) (g.vis x h.1.2) h1 h2
theorem GoodH.blt (g : GoodH N sc Y) {n x : Str} (hm : Y.mg n = none) (h : isBlt sc n x = true) : x = n ∧ Gl Y x ∧ Y.mg x = none ∧ x ≠ "__name__" ∧ (x == ("__debug__" : Str)) = false := by
  unfold isBlt at h
  simp only [Bool.and_eq_true, decide_eq_true_eq] at h
  obtain ⟨⟨rfl, h2⟩, h3⟩ := h
  obtain ⟨p1, _, p3⟩ := plain1 h3
  exact ⟨rfl, g.gl _ h2, hm, p3, p1⟩
theorem pe_cls (g : GoodH N sc Y) {z : Str} {v : V} {u : Value} (h : ClsV Y.mg z v u) (hg : Pv.gl sc z = true) (hp : plainName z = true) : (∀ p, PE Y (.Name z p) (tC v)) ∧ ∀ w, RelV v w → w = u := by
  obtain ⟨p1, _, p3⟩ := plain1 hp
  cases h with
  | own C hm => exact ⟨fun p => pe_glob (u := .ref C) (g.gl z hg) hm rfl p1, fun w r => r⟩
  | blt T hm hb hn => exact ⟨fun p => pe_bltn (u := .type T) (g.gl z hg) hm hb rfl hn p1, fun w r => r⟩
/-- isinstance(e, C) -/
theorem pe_isi (g : GoodH N sc Y) (bm : Y.mg "isinstance" = none) {a C : Addr} (hh : Held Y a C) (hC : ExcC Y.K C) {i : Nat} {c : String} {ex : Expr} (hc : chkIsi N sc i c ex = true) {v : V} {u : Value} {b : Bool}
    (hv : ClsV Y.mg (Str.ofString c) v u) (e : PySem.W.kitOne Y.K (.ref C) u = some b) : PE Y ex (fun σ H Q => σ[i]? = some (some (.ref a)) ∧ Q (.bl b) H) ∧ okShape ex = true := by
  unfold chkIsi at hc
  split at hc
  · rename_i f pf y py z pz pos
    simp only [Bool.and_eq_true, decide_eq_true_eq] at hc
    obtain ⟨⟨⟨⟨h1, h2⟩, rfl⟩, h4⟩, h5⟩ := hc
    obtain ⟨rfl, b1, b2, b3, b4⟩ := g.blt bm h1
    obtain ⟨pc, uz⟩ := pe_cls g hv h4 h5
    have p := pe_callB (p := pf) (pos := pos) (call_isP hC hh) b1 b2 (by decide +kernel) (pa_cons (g.var (p := py) h2) (pa_cons (pc pz) pa_nil)) b3 b4
    exact ⟨⟨fun pins s σ H Q I ⟨h, q⟩ => p.run pins s σ H Q I ⟨.ref a, h, v, u, b, rfl, uz, e, q⟩⟩, rfl⟩
  · cases hc
end

/-! ### what is known of the classes -/
section
variable {cx : Cxt} {N : List Str} {sc : Scope} {Y : Cx} {c : String} {C a : Addr}
/-- a class's facts, for one context -/
structure SubH (cx : Cxt) (c : String) (C : Addr) (Y : Cx) : Prop where
  bi : Y.mg "isinstance" = none
  sub : ∀ t b, cx.sub c t = some b → ExcC Y.K C ∧ ∃ v u, ClsV Y.mg (Str.ofString t) v u ∧ PySem.W.kitOne Y.K (.ref C) u = some b
theorem pe_isi' (g : GoodH N sc Y) (S : SubH cx c C Y) (hh : Held Y a C) {i : Nat} {t : String} {ex : Expr} {b : Bool} (hc : chkIsi N sc i t ex = true) (e : cx.sub c t = some b) :
    PE Y ex (fun σ H Q => σ[i]? = some (some (.ref a)) ∧ Q (.bl b) H) ∧ okShape ex = true := by
  obtain ⟨hC, v, u, hv, hk⟩ := S.sub t b e
  exact pe_isi g S.bi hh hC hc hv hk
/-- a row of them -/
theorem sa_isis (g : GoodH N sc Y) (S : SubH cx c C Y) (hh : Held Y a C) {i : Nat} : ∀ {ts : List String} {es : List Expr} {bs : List D} {σ : L2.St} {H : Hp} {Q : List V → Hp → Prop}, chkIsis N sc i ts es = true → subs cx c ts = some bs → σ[i]? = some (some (.ref a)) →
    (∀ us, RepDs Y.K H bs us → Q us H) → SA Y es σ H Q
  | [], es, bs, σ, H, Q, hc, e, hσ, q => by
    unfold chkIsis at hc
    split at hc
    · cases e
      exact ⟨_, pa_nil, q [] .nil⟩
    · cases hc
  | t :: ts, es, bs, σ, H, Q, hc, e, hσ, q => by
    unfold chkIsis at hc
    split at hc
    · rename_i x xs
      rw [Bool.and_eq_true] at hc
      unfold subs at e
      split at e
      · cases e
      · rename_i b eb
        split at e
        · cases e
        · rename_i bs' ebs
          cases e
          obtain ⟨p, sh⟩ := pe_isi' g S hh hc.1 eb
          refine ⟨_, pa_cons p pa_SA (shape_star sh xs _), hσ, ?_⟩
          exact sa_isis g S hh hc.2 ebs hσ fun us ru => q _ (.cons (.bl b) ru)
    · cases hc
theorem subs_len : ∀ {ts : List String} {bs : List D}, subs cx c ts = some bs → bs.length = ts.length
  | [], bs, e => by cases e; rfl
  | t :: ts, bs, e => by
    unfold subs at e
    split at e
    · cases e
    · split at e
      · cases e
      · rename_i bs' ebs
        cases e
        show bs'.length + 1 = ts.length + 1
        rw [subs_len ebs]
theorem subs_app : ∀ {ts ts' : List String} {bs : List D}, subs cx c (ts ++ ts') = some bs → ∃ b1 b2, subs cx c ts = some b1 ∧ subs cx c ts' = some b2 ∧ bs = b1 ++ b2
  | [], ts', bs, e => ⟨[], bs, rfl, e, rfl⟩
  | t :: ts, ts', bs, e => by
    have e : subs cx c (t :: (ts ++ ts')) = some bs := e
    unfold subs at e
    split at e
    · cases e
    · rename_i b eb
      split at e
      · cases e
      · rename_i bs' ebs
        cases e
        obtain ⟨b1, b2, h1, h2, rfl⟩ := subs_app ebs
        refine ⟨.bl b :: b1, b2, ?_, h2, rfl⟩
        unfold subs
        rw [eb, h1]
/-- the body of a def that tells the classes -/
theorem kd_body (g : GoodH N sc Y) (S : SubH cx c C Y) (hh : Held Y a C) (bt : Y.mg "tuple" = none) {d : Kd} {body : List Stmt} (hc : chkKd0 N sc d body = true) {bs : List D} (hb : subs cx c d.cs = some bs) (hl : bs.length ≤ line)
    {al : Al} {H : Hp} {st : Store} {Q : VK} (r : Rel Y.K al H st) (q : ∀ H' u, Rel Y.K al H' st → Ext al H al H' → RepD Y.K H' (.tup bs) u → Q u H') :
    ∃ t, PSs Y body t ∧ t { nx := fun _ H' => Q .non H', rt := Q } [some (.ref a), none] H := by
  unfold chkKd0 at hc
  split at hc
  · simp only [Bool.and_eq_true, decide_eq_true_eq] at hc
    obtain ⟨⟨⟨⟨⟨⟨⟨⟨⟨⟨⟨⟨⟨s0, s1⟩, s2⟩, v1⟩, v2⟩, v3⟩, v4⟩, rfl⟩, hline⟩, ht⟩, c0⟩, c1⟩, c2⟩, c3⟩ := hc
    unfold Kd.cs at hb
    obtain ⟨b012, b3, hb2, e3, rfl⟩ := subs_app hb
    obtain ⟨b01, b2, hb1, e2, rfl⟩ := subs_app hb2
    obtain ⟨b0, b1, e0, e1, rfl⟩ := subs_app hb1
    rw [List.length_append, List.length_append, List.length_append] at hl
    obtain ⟨k3, ek3, rfl⟩ : ∃ k, cx.sub c d.c3 = some k ∧ b3 = [.bl k] := by
      unfold subs at e3
      split at e3
      · cases e3
      · rename_i k ek
        exact ⟨k, ek, by cases e3; rfl⟩
    have setp : ∀ {x : Str}, isSet N sc 1 x = true → Y.N[1]? = some x ∧ Loc Y.env.scope x ∧ (Y.fn x = true ∨ Y.env.scope.names.lookup x = some .local) := fun {x} h => by
      unfold isSet at h
      simp only [Bool.and_eq_true, decide_eq_true_eq] at h
      exact ⟨by rw [g.n]; exact h.1.1, g.loc x h.1.2⟩
    have nd : Y.N.Nodup := by rw [g.n]; exact g.nd
    obtain ⟨n0, l0, f0⟩ := setp s0
    obtain ⟨n1, l1, f1⟩ := setp s1
    obtain ⟨n2, l2, f2⟩ := setp s2
    obtain ⟨rfl, t1, t2, t3, t4⟩ := g.blt bt ht
    obtain ⟨p3, sh3⟩ := pe_isi' g S hh c3 ek3
    refine ⟨_, pss_cons (ps_set nd n0 l0 (pe_lst pa_SA) rfl f0) (pss_cons (ps_set nd n1 l1 (pe_op op_cat (g.var v1) (pe_lst pa_SA)) rfl f1) (pss_cons (ps_set nd n2 l2 (pe_op op_cat (g.var v2) (pe_lst pa_SA)) rfl f2)
      (pss_cons (ps_expr (pe_bm PySem.F.plainAttrs_list PySem.F.slot_list_append PySem.F.type_list_append mt_append (g.var v3) (pa_cons p3 pa_nil (shape_star sh3 _ _)) rfl (by rw [shape_star sh3]; first | rfl | simp [backTo, starEach, backToKw, keywordEach]) hline (shape_star sh3 _ _) rfl) rfl)
        (pss_cons (ps_ret (pe_callTy call_tuple_of t1 t2 (by decide +kernel) (pa_cons (g.var v4) pa_nil) t3 t4)) pss_nil)))), ?_⟩
    refine sa_isis g S hh c0 e0 rfl fun us0 r0 => ⟨by rw [← r0.length, ← line_eq]; omega, fun l hl0 => ?_⟩
    have R1 := r.ext_new (o := .lst us0) hl0
    have X1 : Ext al H al (upd H l (.lst us0)) := ext_new hl0
    have r01 : RepDs Y.K (upd H l (.lst us0)) b0 us0 := r0.mono (stab_new hl0)
    have h1 : (upd H l (.lst us0)) l = some (.lst us0) := upd_same
    have o1 : al.out l := r.notIn hl0
    generalize upd H l (.lst us0) = H1 at R1 X1 r01 h1
    refine ⟨.ref l, rfl, ?_⟩
    refine sa_isis g S hh c1 e1 rfl fun us1 r1 => ⟨by rw [← r1.length, ← line_eq]; omega, fun l2 hl2 => ?_⟩
    have R2 := R1.ext_new (o := .lst us1) hl2
    have X2 := X1.trans (ext_new (α := al) (o := .lst us1) hl2)
    have r02 := r01.mono (stab_new (o := .lst us1) hl2)
    have r12 := r1.mono (stab_new (o := .lst us1) hl2)
    have ne2 : l ≠ l2 := fun z => by rw [← z, h1] at hl2; cases hl2
    have h2 : (upd H1 l2 (.lst us1)) l = some (.lst us0) := by rw [upd_ne ne2]; exact h1
    have h2' : (upd H1 l2 (.lst us1)) l2 = some (.lst us1) := upd_same
    generalize upd H1 l2 (.lst us1) = H2 at R2 X2 r02 r12 h2 h2'
    refine ⟨l, l2, us0, us1, rfl, rfl, h2, h2', by rw [← r02.length, ← r12.length, ← line_eq]; omega, fun m hm => ?_⟩
    have R3 := R2.ext_new (o := .lst (us0 ++ us1)) hm
    have X3 := X2.trans (ext_new (α := al) (o := .lst (us0 ++ us1)) hm)
    have r03 := (r02.append r12).mono (stab_new (o := .lst (us0 ++ us1)) hm)
    have h3 : (upd H2 m (.lst (us0 ++ us1))) m = some (.lst (us0 ++ us1)) := upd_same
    generalize upd H2 m (.lst (us0 ++ us1)) = H3 at R3 X3 r03 h3
    refine ⟨.ref m, rfl, ?_⟩
    refine sa_isis g S hh c2 e2 rfl fun us2 r2 => ⟨by rw [← r2.length, ← line_eq]; omega, fun m2 hm2 => ?_⟩
    have R4 := R3.ext_new (o := .lst us2) hm2
    have X4 := X3.trans (ext_new (α := al) (o := .lst us2) hm2)
    have r04 := r03.mono (stab_new (o := .lst us2) hm2)
    have r24 := r2.mono (stab_new (o := .lst us2) hm2)
    have ne4 : m ≠ m2 := fun z => by rw [← z, h3] at hm2; cases hm2
    have h4 : (upd H3 m2 (.lst us2)) m = some (.lst (us0 ++ us1)) := by rw [upd_ne ne4]; exact h3
    have h4' : (upd H3 m2 (.lst us2)) m2 = some (.lst us2) := upd_same
    generalize upd H3 m2 (.lst us2) = H4 at R4 X4 r04 r24 h4 h4'
    refine ⟨m, m2, us0 ++ us1, us2, rfl, rfl, h4, h4', by rw [← r04.length, ← r24.length, ← line_eq, List.length_append]; omega, fun n hn => ?_⟩
    have R5 := R4.ext_new (o := .lst (us0 ++ us1 ++ us2)) hn
    have X5 := X4.trans (ext_new (α := al) (o := .lst (us0 ++ us1 ++ us2)) hn)
    have r5 := (r04.append r24).mono (stab_new (o := .lst (us0 ++ us1 ++ us2)) hn)
    have h5 : (upd H4 n (.lst (us0 ++ us1 ++ us2))) n = some (.lst (us0 ++ us1 ++ us2)) := upd_same
    have o5 : al.out n := R4.notIn hn
    have n5 : H n = none := by
      cases qn : H n with
      | none => rfl
      | some o =>
        exfalso
        rcases X4.has1 o5.1 qn with w | ⟨_, _, _, w⟩ <;> rw [hn] at w <;> cases w
    generalize upd H4 n (.lst (us0 ++ us1 ++ us2)) = H5 at R5 X5 r5 h5
    refine ⟨.ref n, rfl, .inl ⟨rfl, _, .inl (.inl h5)⟩, ?_⟩
    refine ⟨rfl, n, _, .bl k3, rfl, rfl, h5, by rw [← r5.length, ← line_eq, List.length_append, List.length_append]; have : ([D.bl k3] : List D).length = 1 := rfl; omega, ?_⟩
    have sb := stab_upd (o := .lst (us0 ++ us1 ++ us2 ++ [.bl k3])) h5
    have R6 := R5.other o5 sb
    have X6 := X5.write n5 h5 (o := .lst (us0 ++ us1 ++ us2 ++ [.bl k3]))
    have r6 := (r5.append (.cons (.bl k3) .nil)).mono sb
    have h6 : (upd H5 n (.lst (us0 ++ us1 ++ us2 ++ [.bl k3]))) n = some (.lst (us0 ++ us1 ++ us2 ++ [.bl k3])) := upd_same
    generalize upd H5 n (.lst (us0 ++ us1 ++ us2 ++ [.bl k3])) = H6 at R6 X6 r6 h6
    refine ⟨.ref n, rfl, n, _, rfl, .inl ⟨.inl (.inl h6), fun p hp => ?_⟩⟩
    refine q _ _ (R6.ext_new hp) (X6.trans (ext_new hp)) (.tup (.inl (.inl upd_same)) (r6.mono (stab_new hp)))
  · cases hc
/-- the call of such a def, in an except suite -/
theorem pe_kinds (g : GoodH N sc Y) (S : SubH cx c C Y) (hh : Held Y a C) (bt : Y.mg "tuple" = none) (hdep : Y.A.depth < recursionLimit) {i : Nat} {f : String} {d : Kd} {fa : Addr} {fd : FuncData} {qual : Str} {st0 : Stmt}
    (m1 : Y.mg (Str.ofString f) = some (.ref fa)) (F : Fun Y.K (Str.ofString f) qual st0 fa fd) (hk : chkKd d st0 = true) (hb : Binds Y.K fd [Str.ofString d.p] []) {y : Str} {px py pos : Pos} (hg : Pv.gl sc (Str.ofString f) = true)
    (hp : plainName (Str.ofString f) = true) (hv : isVar N sc i y = true) {bs : List D} (hbs : subs cx c d.cs = some bs) (hl : bs.length ≤ line) :
    PE Y (.Call (.Name (Str.ofString f) px) [.Name y py] [] pos) (fun σ H Q => σ[i]? = some (some (.ref a)) ∧ ∃ al st, Rel Y.K al H st ∧ ∀ H' u, Rel Y.K al H' st → Ext al H al H' → RepD Y.K H' (.tup bs) u → Q u H') := by
  obtain ⟨oe, hpn, hz, vs0, hv0⟩ := id hh.ex
  unfold chkKd at hk
  rw [Bool.and_eq_true] at hk
  have SC := scope_ok hk.2
  have kp := F.kp
  refine ⟨fun pins s σ H Q I ⟨hσ, al, sto, r, q⟩ => ?_⟩
  refine wpAny_Call_Name_kw (ld_glob I (g.gl _ hg) m1 ?_ (plain1 hp).1)
  refine PySem.W.callWith_K (h₀ := Y.base) I.ok.mod.kin kp (thn ((pa_cons (g.var (p := py) hv) pa_nil).run pos pins s σ H (fun vs H1 => vs = [.ref a] ∧ H1 = H) I ⟨.ref a, hσ, rfl, rfl⟩) fun us s1 ⟨vs, H1, I1, rv, ev, eh⟩ => ⟨I1.kIn, ?_⟩) rfl rfl
  subst ev eh
  have hlu : us.length = 1 := by rw [← rv.length]; rfl
  have b := hb s1 us I1.kIn (by rw [List.append_nil]; exact hlu)
  rw [List.append_nil] at b
  have P1 := I1.pin (a, oe) (List.mem_append_left _ hpn)
  have hpin : L2H.PinOk Y.stack H1 s1 (a, oe) := ⟨P1.1, P1.2.1, fun hm => (List.mem_cons.mp (I1.stkSub a hm)).elim P1.2.2.1 P1.2.2.2.1, P1.2.2.2.2⟩
  have e0 := I1.env0
  obtain ⟨oc, od, kV, doc, pm, an, cdv, ct, osl, rfl, lk, hcd⟩ := F.ex
  have KX : Y.K.In s1.heap := I1.kIn
  have lim : s1.heap.NoLimit := e0.mod.nolimit.keeps fun b o e => (e0.bs b o e).1
  have hkind : ∀ y ∈ [Str.ofString d.p].zip us, (defScope st0).names.lookup y.1 = some .local ∨ ((defScope st0).names.lookup y.1 = some .cell ∧ ((cellsFrom (s1.heap.objs.size + 1) (defScope st0).names []).lookup y.1).isSome = true) := fun ⟨n, v⟩ hy => by
    rcases SC.par n (List.of_mem_zip hy).1 with q | q
    · exact .inl q
    · exact .inr ⟨q, PySem.W.cellsFrom_some _ _ _ (.inl q)⟩
  have RUN : codeAny (model Y.prog Y.w) Y.A (.call (.ref fa) ⟨us, []⟩) (CR CX0 Y.stack Y.prog Y.w H1 s1 Q E0) s1 := by
    refine codeAny_call_function hdep (KX _ _ lk) rfl SC.co SC.gen rfl (PySem.W.codeRec_of KX hcd) (b _ _ _ _ ?_)
    refine wpAny_newFunctionEnv_cells SC.kind hkind fun env he s2 x => ?_
    subst he
    refine ⟨lim.keeps x.toInCall.keep, codeAny_func ?_⟩
    have I2 : Inv (L2H.cxH CX0 Y.prog Y.w Y.K Y.mg Y.base d.N qual (defScope st0) fa cdv Y.A Y.stack s1 H1 E0 (a, oe)) [] (L2.start d.N [.ref a]) H1 s2 := L2H.inv_startH SC hpin e0 rfl rv x
    have good : GoodH d.N (defScope st0) (L2H.cxH CX0 Y.prog Y.w Y.K Y.mg Y.base d.N qual (defScope st0) fa cdv Y.A Y.stack s1 H1 E0 (a, oe)) := by
      refine ⟨rfl, SC.nd, fun x hx => ?_, fun x hx => ?_, fun x hx => ?_⟩
      · unfold Pv.vis at hx
        split at hx
        · rename_i q; exact .inl q
        · rename_i q; exact .inr (.inl q)
        · rename_i q; exact .inr (.inr q)
        · cases hx
      · unfold Pv.locl at hx
        split at hx
        · rename_i q; exact ⟨.inl q, .inl rfl⟩
        · rename_i q; exact ⟨.inr q, .inl rfl⟩
        · cases hx
      · unfold Pv.gl at hx
        split at hx
        · rename_i q; exact q
        · cases hx
    have S' : SubH cx c C (L2H.cxH CX0 Y.prog Y.w Y.K Y.mg Y.base d.N qual (defScope st0) fa cdv Y.A Y.stack s1 H1 E0 (a, oe)) := ⟨S.bi, S.sub⟩
    have hh' : Held (L2H.cxH CX0 Y.prog Y.w Y.K Y.mg Y.base d.N qual (defScope st0) fa cdv Y.A Y.stack s1 H1 E0 (a, oe)) a C := ⟨oe, List.mem_singleton.mpr rfl, hz, vs0, hv0⟩
    obtain ⟨t, ht, hq⟩ := kd_body good S' hh' bt hk.1 hbs hl r q
    refine wpAny_mono (ht.run [] s2 (L2.start d.N [.ref a]) H1 _ I2 hq) (fun fl s' hs => ?_) fun e s' hs => hs
    have fin : ∀ {σ' : L2.St} {H' : Hp} {v : V} {u : Value}, Inv (L2H.cxH CX0 Y.prog Y.w Y.K Y.mg Y.base d.N qual (defScope st0) fa cdv Y.A Y.stack s1 H1 E0 (a, oe)) [] σ' H' s' → RelV v u → Q v H' → CE Y.stack Y.prog Y.w H1 s1 Q u s' :=
      fun {σ' H' v u} J rv q => ⟨v, H', J.os, J.bare, J.base, J.hok, rv, q⟩
    cases fl with
    | ret u =>
      obtain ⟨v, σ', H', J, rv, q⟩ := hs
      exact fin J rv q
    | next =>
      obtain ⟨σ', H', J, q⟩ := hs
      exact fin (v := V.non) (u := Value.none) J rfl q
    | brk =>
      obtain ⟨_, _, _, q⟩ := hs
      exact False.elim q
    | cont =>
      obtain ⟨_, _, _, q⟩ := hs
      exact False.elim q
  refine wpAny_call (codeAny_mono RUN fun r s' hq => ?_)
  · cases r with
    | error e => exact False.elim hq
    | ok fl =>
      cases fl with
      | ret u => exact I1.after hq
      | next => exact False.elim hq
      | brk => exact False.elim hq
      | cont => exact False.elim hq

/-- what a handler's suite may use -/
structure HotT (cx : Cxt) (c : String) (C a : Addr) (N : List Str) (sc : Scope) (Y : Cx) : Prop where
  g : GoodH N sc Y
  S : SubH cx c C Y
  hh : Held Y a C
  bt : Y.mg "tuple" = none
  dep : Y.A.depth < recursionLimit
  knd : ∀ f cs, cx.knd f = some cs → ∃ (d : Kd) (fa : Addr) (fd : FuncData) (qual : Str) (st : Stmt), cs = d.cs ∧ Y.mg (Str.ofString f) = some (.ref fa) ∧ Fun Y.K (Str.ofString f) qual st fa fd ∧ chkKd d st = true ∧ Binds Y.K fd [Str.ofString d.p] []
theorem chkH_shape {i : Nat} : ∀ (he : HE) {ex : Expr}, chkH N sc i he ex = true → okShape ex = true
  | .non, ex, h => by cases ex <;> first | rfl | (unfold chkH at h; cases h)
  | .bl _, ex, h => by cases ex <;> first | rfl | (unfold chkH at h; cases h)
  | .var _, ex, h => by cases ex <;> first | rfl | (unfold chkH at h; cases h)
  | .str _, ex, h => by cases ex <;> first | rfl | (unfold chkH at h; cases h)
  | .isi _, ex, h => by cases ex <;> first | rfl | (unfold chkH chkIsi at h; cases h)
  | .isis _, ex, h => by cases ex <;> first | rfl | (unfold chkH at h; cases h)
  | .kinds _, ex, h => by cases ex <;> first | rfl | (unfold chkH at h; cases h)
  | .tup _, ex, h => by cases ex <;> first | rfl | (unfold chkH at h; cases h)
  | .not _, ex, h => by cases ex <;> first | rfl | (unfold chkH at h; cases h)
  | .and _, ex, h => by cases ex <;> first | rfl | (unfold chkH at h; cases h)
theorem names_ok (g : GoodH N sc Y) (S : SubH cx c C Y) : ∀ {ts : List String} {zs : List Expr} {bs : List D}, chkNames sc ts zs = true → subs cx c ts = some bs →
    ∃ (vs : List V) (us : List Value), PA Y zs (fun _ H Q => Q vs H) ∧ (∀ ws, Vals vs ws → ws = us) ∧ PySem.W.kitAny Y.K (.ref C) us = some (bs.any trD) ∧ vs.length = ts.length
  | [], zs, bs, hc, e => by
    unfold chkNames at hc
    split at hc
    · cases e
      exact ⟨[], [], pa_nil, fun ws h => by cases h; rfl, rfl, rfl⟩
    · cases hc
  | t :: ts, zs, bs, hc, e => by
    unfold chkNames at hc
    split at hc
    · rename_i z pz xs
      simp only [Bool.and_eq_true, decide_eq_true_eq] at hc
      obtain ⟨⟨⟨rfl, h2⟩, h3⟩, h4⟩ := hc
      unfold subs at e
      split at e
      · cases e
      · rename_i b eb
        split at e
        · cases e
        · rename_i bs' ebs
          cases e
          obtain ⟨vs, us, hz, uq, ka, vl⟩ := names_ok g S h4 ebs
          obtain ⟨_, v, u, hv, hk⟩ := S.sub t b eb
          obtain ⟨pc, uz⟩ := pe_cls g hv h2 h3
          refine ⟨v :: vs, u :: us, ?_, fun ws h => ?_, ?_, by rw [List.length_cons, List.length_cons, vl]⟩
          · have p := pa_cons (pc pz) hz (shape_star rfl xs Y.env)
            exact ⟨fun pos pins s σ H Q I h => p.run pos pins s σ H Q I h⟩
          · cases h with
            | cons a b =>
              rw [uz _ a, uq _ b]
          · unfold PySem.W.kitAny
            rw [hk]
            cases b with
            | true => rfl
            | false =>
              show PySem.W.kitAny Y.K (.ref C) us = some (bs'.any trD)
              exact ka
    · cases hc
mutual
theorem snd_H (T : HotT cx c C a N sc Y) {i : Nat} : ∀ (he : HE) {ex : Expr} {d : D} {al : Al} {H : Hp} {σ : L2.St} {st : Store} {Q : VK} {env : Env}, EnvR Y.K al H env (σ.set i none) → chkH N sc i he ex = true → evH cx c env he = some d → σ[i]? = some (some (.ref a)) → Rel Y.K al H st →
    (∀ H' u, Rel Y.K al H' st → Ext al H al H' → RepD Y.K H' d u → Q u H') → SE Y ex σ H Q
  | .str t, ex, d, al, H, σ, st, Q, env, hE, hc, e, hσ, r, q => by
    unfold chkH at hc
    split at hc
    · have e' := of_decide_eq_true hc
      subst e'
      unfold evH at e
      cases e
      exact ⟨_, pe_str, q H _ r (Ext.refl _ _) (.str _)⟩
    · cases hc
  | .non, ex, d, al, H, σ, st, Q, env, hE, hc, e, hσ, r, q => by
    unfold chkH at hc
    split at hc
    · unfold evH at e
      cases e
      exact ⟨_, pe_non, q H _ r (Ext.refl _ _) .non⟩
    · cases hc
  | .bl b, ex, d, al, H, σ, st, Q, env, hE, hc, e, hσ, r, q => by
    unfold chkH at hc
    split at hc
    · have e' := beq_iff_eq.mp hc
      subst e'
      unfold evH at e
      cases e
      exact ⟨_, pe_bl, q H _ r (Ext.refl _ _) (.bl _)⟩
    · cases hc
  | .var j, ex, d, al, H, σ, st, Q, env, hE, hc, e, hσ, r, q => by
    unfold chkH at hc
    unfold evH at e
    split at hc
    · split at e
      · rename_i d' he
        cases e
        obtain ⟨_, u, hu, ru⟩ := hE.get j _ he
        have hj : i ≠ j := fun z => by
          subst z
          by_cases hl : i < σ.length
          · rw [List.getElem?_set_self hl] at hu; cases hu
          · rw [List.getElem?_eq_none (by rw [List.length_set]; omega)] at hu; cases hu
        rw [List.getElem?_set_ne hj] at hu
        exact ⟨_, T.g.var hc, u, hu, q H _ r (Ext.refl _ _) ru⟩
      · cases e
    · cases hc
  | .isi t, ex, d, al, H, σ, st, Q, env, hE, hc, e, hσ, r, q => by
    unfold chkH at hc
    unfold evH at e
    split at e
    · rename_i b eb
      cases e
      exact ⟨_, (pe_isi' T.g T.S T.hh hc eb).1, hσ, q H _ r (Ext.refl _ _) (.bl b)⟩
    · cases e
  | .isis ts, ex, d, al, H, σ, st, Q, env, hE, hc, e, hσ, r, q => by
    unfold chkH at hc
    unfold evH at e
    split at hc
    · rename_i f pf y py zs k1 k2 pos
      simp only [Bool.and_eq_true] at hc
      obtain ⟨⟨⟨h1, h2⟩, h3⟩, hne⟩ := hc
      obtain ⟨rfl, b1, b2, b3, b4⟩ := T.g.blt T.S.bi h1
      split at e
      · rename_i bs ebs
        split at e
        · rename_i hl
          cases e
          have hd : ts = [] ∨ ExcC Y.K C := by
            cases ts with
            | nil => exact .inl rfl
            | cons t ts =>
              unfold subs at ebs
              split at ebs
              · cases ebs
              · rename_i b eb
                exact .inr (T.S.sub t b eb).1
          obtain ⟨vs, us, hz, uq, ka, vl⟩ := names_ok T.g T.S h3 ebs
          by_cases hn : ts = []
          · subst hn
            cases hne
          · have hC : ExcC Y.K C := hd.resolve_left hn
            have p := pe_callB (p := pf) (pos := pos) (call_isPT hC T.hh) b1 b2 (by decide +kernel) (pa_cons (T.g.var (p := py) h2) (pa_cons (pe_tup (x1 := k1) (pos := k2) hz) pa_nil)) b3 b4
            refine ⟨_, p, .ref a, hσ, ?_⟩
            refine ⟨by rw [vl, ← subs_len ebs, ← line_eq]; exact hl, fun tp htp => ?_⟩
            refine ⟨tp, vs, us, _, rfl, upd_same, uq, ka, ?_⟩
            exact q _ _ (r.ext_new htp) (ext_new htp) (.bl _)
        · cases e
      · cases e
    · cases hc
  | .kinds f, ex, d, al, H, σ, st, Q, env, hE, hc, e, hσ, r, q => by
    unfold chkH at hc
    unfold evH at e
    split at hc
    · simp only [Bool.and_eq_true, decide_eq_true_eq] at hc
      obtain ⟨⟨⟨rfl, h2⟩, h3⟩, h4⟩ := hc
      split at e
      · cases e
      · rename_i ts ets
        split at e
        · rename_i bs ebs
          split at e
          · rename_i hl
            cases e
            obtain ⟨dk, fa, fd, qual, st0, rfl, m1, F, hk, hb⟩ := T.knd f ts ets
            exact ⟨_, pe_kinds T.g T.S T.hh T.bt T.dep m1 F hk hb h2 h3 h4 ebs hl, hσ, al, st, r, q⟩
          · cases e
        · cases e
    · cases hc
  | .tup es, ex, d, al, H, σ, st, Q, env, hE, hc, e, hσ, r, q => by
    unfold chkH at hc
    unfold evH at e
    split at hc
    · split at e
      · rename_i ds eds
        split at e
        · rename_i hl
          cases e
          refine ⟨_, pe_tup pa_SA, snd_Hs T es hE hc eds hσ r fun H' us r' x' ru => ⟨by rw [← ru.length, ← line_eq]; exact hl, fun p hp => ?_⟩⟩
          exact q _ _ (r'.ext_new hp) (x'.trans (ext_new hp)) (.tup (.inl (.inl upd_same)) (ru.mono (stab_new hp)))
        · cases e
      · cases e
    · cases hc
  | .not e0, ex, d, al, H, σ, st, Q, env, hE, hc, e, hσ, r, q => by
    unfold chkH at hc
    unfold evH at e
    split at hc
    · split at e
      · rename_i b eb
        cases e
        refine ⟨_, pe_not pe_SE, snd_H T e0 hE hc eb hσ r fun H1 u r1 x1 ru => ?_⟩
        cases ru
        exact ⟨b, rfl, q H1 _ r1 x1 (.bl _)⟩
      · cases e
    · cases hc
  | .and es, ex, d, al, H, σ, st, Q, env, hE, hc, e, hσ, r, q => by
    unfold chkH at hc
    unfold evH at e
    split at hc
    · rw [Bool.and_eq_true] at hc
      split at e
      · rename_i ds eds
        split at e
        · rename_i bs ebs
          cases e
          exact snd_HA T es hE hc.2 hc.1 eds ebs hσ r fun H1 r1 x1 => q H1 _ r1 x1 (.bl _)
        · cases e
      · cases e
    · cases hc
theorem snd_HA (T : HotT cx c C a N sc Y) {i : Nat} : ∀ (es : HEs) {exs : List Expr} {pos : Pos} {ds : List D} {bs : List Bool} {al : Al} {H : Hp} {σ : L2.St} {st : Store} {Q : VK} {env : Env}, EnvR Y.K al H env (σ.set i none) → chkHs N sc i es exs = true → (!exs.isEmpty) = true → evHs cx c env es = some ds → allM blOf ds = some bs → σ[i]? = some (some (.ref a)) → Rel Y.K al H st →
    (∀ H', Rel Y.K al H' st → Ext al H al H' → Q (.bl (bs.all id)) H') → SE Y (.BoolOp .And exs pos) σ H Q
  | .nil, exs, pos, ds, bs, al, H, σ, st, Q, env, hE, hc, hne, e, eb, hσ, r, q => by
    unfold chkHs at hc
    split at hc
    · cases hne
    · cases hc
  | .cons e0 es, exs, pos, ds, bs, al, H, σ, st, Q, env, hE, hc, hne, e, eb, hσ, r, q => by
    unfold chkHs at hc
    unfold evHs at e
    split at hc
    · rename_i x xs
      rw [Bool.and_eq_true] at hc
      split at e
      · cases e
      · rename_i d0 ed
        split at e
        · cases e
        · rename_i ds' eds
          cases e
          unfold allM at eb
          split at eb
          · cases eb
          · rename_i b0 eb0
            split at eb
            · cases eb
            · rename_i bs' ebs
              cases eb
              have ed0 : d0 = .bl b0 := by
                cases d0 <;> cases eb0
                rfl
              subst ed0
              cases xs with
              | nil =>
                have hbs : bs' = [] := by
                  cases es with
                  | nil =>
                    unfold evHs at eds
                    cases eds
                    cases ebs
                    rfl
                  | cons e1 es1 =>
                    have := hc.2
                    unfold chkHs at this
                    cases this
                subst hbs
                refine ⟨_, pe_one pe_SE, snd_H T e0 hE hc.1 ed hσ r fun H1 u r1 x1 ru => ?_⟩
                cases ru
                have := q H1 r1 x1
                simpa using this
              | cons y ys =>
                refine ⟨_, pe_and pe_SE pe_SE, snd_H T e0 hE hc.1 ed hσ r fun H1 u r1 x1 ru => ?_⟩
                cases ru
                refine ⟨b0, rfl, ?_⟩
                cases b0 with
                | true =>
                  rw [if_pos rfl]
                  exact snd_HA T es (hE.mono x1) hc.2 rfl eds ebs hσ r1 fun H2 r2 x2 => by
                    have := q H2 r2 (x1.trans x2)
                    simpa using this
                | false =>
                  rw [if_neg Bool.false_ne_true]
                  have := q H1 r1 x1
                  simpa using this
    · cases hc
theorem snd_Hs (T : HotT cx c C a N sc Y) {i : Nat} : ∀ (es : HEs) {exs : List Expr} {ds : List D} {al : Al} {H : Hp} {σ : L2.St} {st : Store} {Q : List V → Hp → Prop} {env : Env}, EnvR Y.K al H env (σ.set i none) → chkHs N sc i es exs = true → evHs cx c env es = some ds → σ[i]? = some (some (.ref a)) → Rel Y.K al H st →
    (∀ H' us, Rel Y.K al H' st → Ext al H al H' → RepDs Y.K H' ds us → Q us H') → SA Y exs σ H Q
  | .nil, exs, ds, al, H, σ, st, Q, env, hE, hc, e, hσ, r, q => by
    unfold chkHs at hc
    unfold evHs at e
    split at hc
    · cases e
      exact ⟨_, pa_nil, q H [] r (Ext.refl _ _) .nil⟩
    · cases hc
  | .cons e0 es, exs, ds, al, H, σ, st, Q, env, hE, hc, e, hσ, r, q => by
    unfold chkHs at hc
    unfold evHs at e
    split at hc
    · rename_i x xs
      rw [Bool.and_eq_true] at hc
      split at e
      · cases e
      · rename_i d0 ed
        split at e
        · cases e
        · rename_i ds' eds
          cases e
          refine ⟨_, pa_cons pe_SE pa_SA (shape_star (chkH_shape e0 hc.1) xs _), ?_⟩
          refine snd_H T e0 hE hc.1 ed hσ r fun H1 u r1 x1 ru => ?_
          refine snd_Hs T es (hE.mono x1) hc.2 eds hσ r1 fun H2 us r2 x2 rus => ?_
          exact q H2 _ r2 (x1.trans x2) (.cons (ru.mono x2.stab) rus)
    · cases hc
end
theorem chkH_sw {i : Nat} : ∀ (he : HE) {ex : Expr}, chkH N sc i he ex = true → ∀ (t : Option Expr) (l : Nat) (env : PySem.Env), swapsWith ex t l env = pure false
  | .non, ex, h => by cases ex <;> first | (intro _ _ _; rfl) | (unfold chkH at h; cases h)
  | .bl _, ex, h => by cases ex <;> first | (intro _ _ _; rfl) | (unfold chkH at h; cases h)
  | .var _, ex, h => by cases ex <;> first | (intro _ _ _; rfl) | (unfold chkH at h; cases h)
  | .str _, ex, h => by cases ex <;> first | (intro _ _ _; rfl) | (unfold chkH at h; cases h)
  | .isi _, ex, h => by cases ex <;> first | (intro _ _ _; rfl) | (unfold chkH chkIsi at h; cases h)
  | .isis _, ex, h => by cases ex <;> first | (intro _ _ _; rfl) | (unfold chkH at h; cases h)
  | .kinds _, ex, h => by cases ex <;> first | (intro _ _ _; rfl) | (unfold chkH at h; cases h)
  | .tup _, ex, h => by cases ex <;> first | (intro _ _ _; rfl) | (unfold chkH at h; cases h)
  | .not _, ex, h => by cases ex <;> first | (intro _ _ _; rfl) | (unfold chkH at h; cases h)
  | .and _, ex, h => by cases ex <;> first | (intro _ _ _; rfl) | (unfold chkH at h; cases h)
/-- a handler's suite -/
theorem snd_HS (T : HotT cx c C a N sc Y) {i : Nat} : ∀ (hs : List HS) {xs : List Stmt} {al0 al : Al} {H0 H : Hp} {σ σ0 : L2.St} {env : Env} {st : Store} {W : WX} {D : Ends} {X : Cx}, X.K = Y.K → chkHS N sc i hs xs = true → σ[i]? = some (some (.ref a)) → σ0 = σ.set i none → Rel Y.K al H st → EnvR Y.K al H env σ0 → Ext al0 H0 al H →
    PostS X al0 H0 D W (evHS cx c hs env st) → SSs Y xs { nx := fun σ' H' => D.nx (σ'.set i none) H', rt := D.rt, bk := fun σ' H' => D.bk (σ'.set i none) H', ct := fun σ' H' => D.ct (σ'.set i none) H' } σ H
  | [], xs, al0, al, H0, H, σ, σ0, env, st, W, D, X, hK, hc, hσ, hs0, r, hE, x0, h => by
    unfold chkHS at hc
    split at hc
    · subst hs0
      unfold evHS at h
      exact ⟨_, pss_nil, h al H _ (by rw [hK]; exact r) (by rw [hK]; exact hE) x0⟩
    · cases hc
  | .set j e :: rs, xs, al0, al, H0, H, σ, σ0, env, st, W, D, X, hK, hc, hσ, hs0, r, hE, x0, h => by
    unfold chkHS at hc
    split at hc
    · rename_i x px ex pos ys
      simp only [Bool.and_eq_true, decide_eq_true_eq] at hc
      obtain ⟨⟨⟨hset, hij⟩, he⟩, hr⟩ := hc
      unfold isSet at hset
      simp only [Bool.and_eq_true, decide_eq_true_eq] at hset
      obtain ⟨l1, l2⟩ := T.g.loc x hset.1.2
      unfold evHS at h
      split at h
      · rename_i d ed
        refine ⟨_, pss_cons (ps_set (by rw [T.g.n]; exact T.g.nd) (by rw [T.g.n]; exact hset.1.1) l1 pe_SE (chkH_sw e he _ _ _) l2) pss_SSs, ?_⟩
        refine snd_H T e (env := env) (by rw [← hs0]; exact hE) he ed hσ r fun H1 u r1 x1 ru => ?_
        refine snd_HS T rs (σ0 := σ0.set j (some u)) hK hr (by rw [List.getElem?_set_ne (Ne.symm hij)]; exact hσ) (by subst hs0; exact List.set_comm _ _ hij) r1 ((hE.mono x1).set (v := .d d) rfl ru j) (x0.trans x1) h
      · exact h.elim
    · cases hc
  | .ret e :: rs, xs, al0, al, H0, H, σ, σ0, env, st, W, D, X, hK, hc, hσ, hs0, r, hE, x0, h => by
    unfold chkHS at hc
    split at hc
    · rename_i ex pos
      rw [Bool.and_eq_true] at hc
      unfold evHS at h
      split at h
      · rename_i d ed
        refine ⟨_, pss_cons (ps_ret pe_SE) pss_nil, ?_⟩
        exact snd_H T e (env := env) (by rw [← hs0]; exact hE) hc.1 ed hσ r fun H1 u r1 x1 ru => h al H1 u (by rw [hK]; exact r1) (x0.trans x1) (by rw [hK]; exact ru)
      · exact h.elim
    · cases hc
end
section
variable {cx : Cxt} {N : List Str}
theorem s_trye (c : String) (i : Nat) (hs : List HS) {b : Ss} (ib : SndSs cx N b) : SndS cx N (.trye b c i hs) := by
  intro X k sc st al H σ env sto W D g T po hc r hE tk h
  unfold chkS at hc
  split at hc
  · rename_i body y py n z zs ph pos
    simp only [Bool.and_eq_true, decide_eq_true_eq] at hc
    obtain ⟨⟨⟨⟨⟨⟨hb, rfl⟩, hgl⟩, hpl⟩, hi⟩, hl⟩, hh⟩ := hc
    unfold evS at h
    split at h
    · rename_i hsome
      obtain ⟨b0, hb0⟩ := Option.isSome_iff_exists.mp hsome
      obtain ⟨_, CT, _, mT, _⟩ := T.hnd c c b0 hb0
      have hN : X.N.Nodup := by rw [g.n]; exact g.nd
      have bi : X.mg "isinstance" = none := T.blt _ (by decide +kernel)
      have bt : X.mg "tuple" = none := T.blt _ (by decide +kernel)
      refine ⟨_, ps_try_as (X := X) (x := Str.ofString c) (n := n) (c := .ref CT) (i := i) (Wout := W) (tb := fun W' D' σ' H' => ∀ (pn : List (Addr × Obj)) (xe : Value → Shared → Prop), Takes (X.tr pn xe) W' → PassesOwn (model X.prog X.w) X.A X.env xe → SSs (X.tr pn xe) body D' σ' H')
        (ts := fun a cls d D' σ' H' => ∀ (oe : Obj) (pn : List (Addr × Obj)), Zc cls d oe → (∃ vs, oe.data = .fields vs) → SSs (X.suite a ((a, oe) :: pn)) (z :: zs) D' σ' H') po.hs po.hf hN (by rw [g.n]; exact hi) (g.lcl n hl)
        ⟨g.gl _ hgl, (plain1 hpl).1, .inl mT⟩ tk (fun W' pn xe tk' po' => ⟨fun pins s σ' H' D' I h' => pss_SSs.run pins s σ' H' D' I (h' pn xe tk' po')⟩)
        (fun a oe cls d pn hz hv => ⟨fun pins s σ' H' D' I h' => pss_SSs.run pins s σ' H' D' I (h' oe pn hz hv)⟩), ?_⟩
      intro pn xe tk' po'
      have g' : Good N sc k (X.tr pn xe) := ⟨g.n, g.nd, g.calm, g.room, g.vis, g.loc, g.lcl, g.cel, g.gl, g.fre, g.knd⟩
      refine ib (X := X.tr pn xe) g' T ⟨po', po.hs, po.hf⟩ hb r hE tk' ?_
      cases qb : evSs cx b env sto with
      | nx e1 s1 => rw [qb] at h; exact h
      | ct e1 s1 => rw [qb] at h; exact h
      | rt v s1 => rw [qb] at h; exact h
      | err => rw [qb] at h; exact h
      | exc c' e1 s1 =>
        rw [qb] at h
        intro al1 H1 σ1 C r1 hE1 x1 mC
        cases eh : cx.hnd c' c with
        | none => simp only [eh] at h; exact h.elim
        | some bb =>
          obtain ⟨C1, C2, m1, m2, hx⟩ := T.hnd c' c bb eh
          have eC : C = .ref C1 := Option.some.inj (mC.symm.trans m1)
          have eD : C2 = CT := by
            have := m2.symm.trans mT
            cases this
            rfl
          subst eC eD
          refine ⟨bb, hx, fun e => ?_, fun e => ?_⟩
          · subst e
            simp only [eh] at h
            intro a ha oe pn2 hz hv
            split at h
            rotate_left
            · exact h.elim
            rename_i hie
            have hilt : i < σ1.length := by
              rw [← hE1.len]
              exact hie
            refine snd_HS (Y := X.suite a ((a, oe) :: pn2)) (C := C1) (X := X) (W := W) (D := D) ⟨⟨g.n, g.nd, g.vis, g.loc, g.gl⟩, ⟨bi, fun t b' eb => ?_⟩, ⟨oe, List.mem_cons_self, hz, hv⟩, bt, g.room.depth, T.knd⟩ hs rfl hh (List.getElem?_set_self hilt) rfl r1 ?_ x1 h
            · obtain ⟨C3, v, u, m3, hC, hv, hk⟩ := T.sub c' t b' eb
              have e3 := m3.symm.trans m1
              cases e3
              exact ⟨hC, v, u, hv, hk⟩
            · rw [List.set_set]
              exact hE1.wipe [i]
          · subst e
            simp only [eh] at h
            exact h al1 H1 σ1 _ r1 hE1 x1 mC
    · exact h.elim
  · cases hc
end
end Pv

/-! Statements: targets, loops, raise. -/
namespace Pv
open PySem PySem.Spec PyProof.Rows L2 TL
section
variable {cx : Cxt} {N : List Str}
theorem s_asg (tg : Tg) (e : E) : SndS cx N (.asg tg e) := by
  intro X k sc st al H σ env sto W D g T po hc r hE tk h
  unfold chkS at hc
  split at hc
  · rename_i ts kk p ex q
    simp only [Bool.and_eq_true, Bool.not_eq_true'] at hc
    obtain ⟨⟨⟨hg, he⟩, hl⟩, ht⟩ := hc
    refine ⟨_, ps_asg pe_SE pg_SG (sole_false he hl _ _ _) (stores_none ht _ _), snd_E e g T he r hE tk ?_⟩
    unfold evS at h
    unfold PostE
    cases q : evE cx e env sto with
    | ok v s1 =>
      intro H' r' x' u ru
      cases v with
      | d d =>
        simp only [q] at h
        cases qb : bindT tg d env with
        | none => simp only [qb] at h; exact h.elim
        | some e1 =>
          simp only [qb] at h
          exact snd_G tg g hg (hE.mono x') ru qb fun σ1 e1 w1 => h al H' σ1 r' e1 x'
      | ref j => simp only [q] at h; exact h.elim
      | new xs => simp only [q] at h; exact h.elim
    | exc c s1 => simp only [q] at h; exact fun H' C r' x' m => h al H' σ C r' (hE.mono x') x' m
    | err => simp only [q] at h; exact h
  · cases hc
theorem fin0' {K : Frag} {mg : Str → Option Value} {al : Al} {H : Hp} {st : Store} {Ex : Value → Hp → Prop} {v : Val × Val} {P : V → V → Hp → Prop} (r : Rel K al H st) (h : PostR K mg al H Ex (fun (xy : Val × Val) _ H' => ∀ u w, RepW K al H' xy.1 u → RepW K al H' xy.2 w → P u w H') (.ok v st)) :
    ∀ u w, RepW K al H v.1 u → RepW K al H v.2 w → P u w H := h H r (Ext.refl _ _)
theorem s_par (i j : Nat) (a b : E) : SndS cx N (.par i j a b) := by
  intro X k sc st al H σ env sto W D g T po hc r hE tk h
  unfold chkS at hc
  split at hc
  · rename_i x px y py k1 pt ea eb k2 pt2 p
    simp only [Bool.and_eq_true, decide_eq_true_eq] at hc
    obtain ⟨⟨⟨⟨⟨⟨⟨⟨⟨hx, hy⟩, hij⟩, lx⟩, ly⟩, hln⟩, hxy⟩, ha⟩, hb⟩, hp⟩ := hc
    unfold isSet at hx hy
    simp only [Bool.and_eq_true, decide_eq_true_eq] at hx hy
    have nx : X.N[i]? = some x := by rw [g.n]; exact hx.1.1
    have ny : X.N[j]? = some y := by rw [g.n]; exact hy.1.1
    have kx := g.lcl x lx
    have ky := g.lcl y ly
    have kb : X.env.blockKind = .function := by
      unfold PySem.Env.blockKind
      rw [g.knd]
      rfl
    have kx' : X.env.kindOf x = some .local := kx
    have ky' : X.env.kindOf y = some .local := ky
    unfold okPar at hp
    simp only [Bool.and_eq_true, Bool.not_eq_true'] at hp
    obtain ⟨⟨hp1, hp2⟩, hp3⟩ := hp
    have hl2 : py.line = px.line := (beq_iff_eq.mp hln).symm
    have hw : swappedStores [.Tuple [.Name x px, .Name y py] k1 pt] (.Tuple [ea, eb] k2 pt2) X.env = pure (some [x, y]) := by
      have hyx : (y == x) = false := by
        rw [beq_eq_false_iff_ne]
        exact fun e => hxy e.symm
      have hd : ([x, y] : List Str).eraseDups.length = 2 := by
        simp [List.eraseDups, List.eraseDupsBy, List.eraseDupsBy.loop, hyx]
      have p1 : ([ea, eb] : List Expr).any (fun | .Starred .. => true | _ => false) = false := hp1
      have p2 : ([ea, eb] : List Expr).all (foldedForSure 8) = false := hp2
      have p3 : ([ea, eb] : List Expr).all (constantsAlone 8) = false := hp3
      have nm : ([.Name x px, .Name y py] : List Expr).filterMap (fun | .Name id pos => if X.env.kindOf id == some .local && pos.line == px.line then some id else none | _ => none) = [x, y] := by
        simp [kx', ky', hl2]
      have n2 : ((([x, y] : List Str).length != ([.Name x px, .Name y py] : List Expr).length) || (([x, y] : List Str).eraseDups.length != ([x, y] : List Str).length)) = false := by
        rw [hd]
        rfl
      unfold swappedStores
      show (if (!(([.Name x px, .Name y py] : List Expr).length == 2 || ([.Name x px, .Name y py] : List Expr).length == 3) || ([ea, eb] : List Expr).length != ([.Name x px, .Name y py] : List Expr).length || X.env.blockKind != .function) = true then _ else _) = _
      rw [if_neg (by rw [kb]; simp)]
      rw [if_neg (fun e => by
        have e' : ([ea, eb] : List Expr).any (fun | .Starred .. => true | _ => false) = true := e
        rw [p1] at e'
        cases e')]
      rw [show (Option.map (fun x : Expr => x.pos.line) ([Expr.Name x px, Expr.Name y py] : List Expr).head?).getD 0 = px.line from rfl]
      simp only [List.all_cons, List.all_nil, Bool.and_true] at p2 p3
      simp [kx', ky', hl2, hyx, p2, p3, List.eraseDups, List.eraseDupsBy, List.eraseDupsBy.loop]
    have sa := chk_shape a _ ha
    have sb := chk_shape b _ hb
    refine ⟨_, ps_par g.calm (by rw [g.n]; exact g.nd) nx ny hij kx ky (pa_cons pe_SE (pa_cons pe_SE pa_nil (hs := shape_star sb [] _)) (hs := shape_star sa [eb] _)) hw rfl, ?_⟩
    have h3 : PostR X.K X.mg al H (fun C H' => W C none σ H') (fun xy _ H' => ∀ u w, RepW X.K al H' xy.1 u → RepW X.K al H' xy.2 w → D.nx ((σ.set i (some u)).set j (some w)) H') ((evE cx a env sto).bind fun x s1 => (evE cx b env s1).bind fun y s2 => .ok (x, y) s2) := by
      unfold evS at h
      generalize ((evE cx a env sto).bind fun x s1 => (evE cx b env s1).bind fun y s2 => .ok (x, y) s2) = z at h ⊢
      cases z with
      | ok v s1 =>
        obtain ⟨v, w⟩ := v
        cases v with
        | d d1 =>
          cases w with
          | d d2 => exact fun H' r' x' u w ru rw' => h al H' _ r' (((hE.mono x').set (v := .d d1) rfl ru i).set (v := .d d2) rfl rw' j) x'
          | ref _ => exact h.elim
          | new _ => exact h.elim
        | ref _ => exact h.elim
        | new _ => exact h.elim
      | exc c s1 => exact fun H' C r' x' m => h al H' σ C r' (hE.mono x') x' m
      | err => exact h.elim
    refine snd_E a g T ha r hE tk (PostR.imp (PostR.bind h3) fun v s1 H1 r1 x1 q u ru => ?_)
    refine snd_E b g T hb r1 (hE.mono x1) tk (PostR.imp (PostR.bind q) fun w s2 H2 r2 x2 q2 u2 ru2 => ?_)
    exact ⟨_, _, rfl, fin0' r2 q2 _ _ (ru.weak.mono x2) ru2.weak⟩
  · cases hc
theorem s_setix (a i v : E) : SndS cx N (.setix a i v) := by
  intro X k sc st al H σ env sto W D g T po hc r hE tk h
  unfold chkS at hc
  split at hc
  · rename_i x' y' p ex q
    simp only [Bool.and_eq_true, Bool.not_eq_true'] at hc
    obtain ⟨⟨⟨ha, hi⟩, hv⟩, hl⟩ := hc
    have ok := chk_shape i _ hi
    refine ⟨_, ps_asg pe_SE (pg_sub pe_SE pe_SE set_list (by cases y' <;> first | (intro _; rfl) | (simp [okShape] at ok; done))) (sole_false hv hl _ _ _) (stores_none' _), ?_⟩
    have h2 : PostE X al H σ W (fun x H1 => gSub (SE X x') (SE X y') rSetL x σ H1 D.nx) (evE cx v env sto) := by
      unfold evS at h
      have h3 : PostR X.K X.mg al H (fun C H' => W C none σ H') (fun _ _ H' => D.nx σ H') ((evE cx v env sto).bind fun x s1 => (evE cx a env s1).bind fun o s2 => (evE cx i env s2).bind fun k s3 => setV x o k s3) := by
        generalize ((evE cx v env sto).bind fun x s1 => (evE cx a env s1).bind fun o s2 => (evE cx i env s2).bind fun k s3 => setV x o k s3) = z at h ⊢
        cases z with
        | ok v s1 => exact fun H' r' x' => h al H' σ r' (hE.mono x') x'
        | exc c s1 => exact fun H' C r' x' m => h al H' σ C r' (hE.mono x') x' m
        | err => exact h
      refine PostR.imp (PostR.bind h3) fun x s1 H1 r1 x1 q u ru => ?_
      refine snd_E a g T ha r1 (hE.mono x1) tk (PostR.imp (PostR.bind q) fun o s2 H2 r2 x2 q2 uo ro => ?_)
      refine SE.gh (snd_E i g T hi r2 ((hE.mono x1).mono x2) tk (PostR.imp (PostR.bind q2) fun kk s3 H3 r3 x3 q3 uk rk => ?_))
      have rx := (ru.weak.mono x2).mono x3
      have ro := ro.weak.mono x3
      unfold setV at q3
      split at q3
      · rename_i n
        cases rk
        split at q3
        · exact q3.elim
        · rename_i d s4 e4
          refine toD_gh r3 rx e4 fun H4 r4 x4 rd => ?_
          split at q3
          · rename_i xs hxs
            split at q3
            · rename_i j hj
              obtain ⟨p', hp, rfl⟩ := ro.mono x4
              obtain ⟨vs, h1, hr⟩ := r4.cell _ _ _ hxs hp
              have sb : Stab H4 (upd H4 p' (.lst (vs.set j u))) := stab_upd h1
              refine ⟨p', vs, _, j, rfl, rfl, h1, by rw [← hr.length]; exact hj, ?_⟩
              exact q3 _ (r4.upd hp sb ⟨_, upd_same, (hr.set rd j).mono sb⟩) (x4.trans (ext_cell (List.mem_of_getElem? hp) h1))
            · exact q3.elim
          · exact q3.elim
      · exact q3.elim
    exact snd_E v g T hv r hE tk h2
  · cases hc
def rGetL : V → V → Hp → VK → Prop := fun o i H Q => ∃ p xs k v, o = .ref p ∧ i = .int k ∧ 0 ≤ k ∧ H p = some (.lst xs) ∧ xs[k.toNat]? = some v ∧ Q v H
theorem pget_list {X : Cx} : PGet X rGetL := by
  intro pins s σ H o i ov iv Q I ro ri h
  obtain ⟨p, xs, k, v, rfl, rfl, h0, hp, hv, q⟩ := h
  cases ro
  obtain ⟨t, rfl⟩ := ri
  obtain ⟨its, r, pl, hz⟩ := I.list (Or.inl (Or.inl hp))
  obtain ⟨w, ew, rw'⟩ := r.get hv
  have hl := r.length
  have hn := L2.line63
  have hk : k.toNat < xs.length := (List.getElem?_eq_some_iff.mp hv).1
  exact wpAny_getItem_list (Q := fun r s' => EP X pins σ Q r s') pl.isList h0 (by omega) (by simpa using ew) ⟨v, H, I, rw', q⟩
theorem s_augix (a i e : E) : SndS cx N (.augix a i e) := by
  intro X k sc st al H σ env sto W D g T po hc r hE tk h
  unfold chkS at hc
  split at hc
  · rename_i x' y' p ex q
    simp only [Bool.and_eq_true, Bool.not_eq_true'] at hc
    obtain ⟨⟨⟨ha, hi⟩, hv⟩, hl⟩ := hc
    have ok := chk_shape i _ hi
    refine ⟨_, ps_augS pe_SE pe_SE pget_list pe_SE ip_add set_list (by cases y' <;> first | (intros; rfl) | (simp [okShape] at ok; done)), ?_⟩
    unfold evS at h
    have h3 : PostR X.K X.mg al H (fun C H' => W C none σ H') (fun _ _ H' => D.nx σ H') ((evE cx a env sto).bind fun o s1 => (evE cx i env s1).bind fun k s2 => match o, k with
      | .ref r, .d (.int n) => match s2[r]? with
        | some (.lst xs) => match xs[n.toNat]? with
          | some (.int x) => if 0 ≤ n then (evE cx e env s2).bind fun y s3 => match y with
              | .d (.int j) => setV (.d (.int (x + j))) (.ref r) (.d (.int n)) s3
              | _ => .err
            else .err
          | _ => .err
        | _ => .err
      | _, _ => .err) := by
      generalize ((evE cx a env sto).bind fun o s1 => (evE cx i env s1).bind fun k s2 => match o, k with
      | .ref r, .d (.int n) => match s2[r]? with
        | some (.lst xs) => match xs[n.toNat]? with
          | some (.int x) => if 0 ≤ n then (evE cx e env s2).bind fun y s3 => match y with
              | .d (.int j) => setV (.d (.int (x + j))) (.ref r) (.d (.int n)) s3
              | _ => .err
            else .err
          | _ => .err
        | _ => .err
      | _, _ => .err) = z at h ⊢
      cases z with
      | ok v s1 => exact fun H' r' x' => h al H' σ r' (hE.mono x') x'
      | exc c s1 => exact fun H' C r' x' m => h al H' σ C r' (hE.mono x') x' m
      | err => exact h
    refine snd_E a g T ha r hE tk (PostR.imp (PostR.bind h3) fun o s1 H1 r1 x1 q uo ro => ?_)
    refine SE.gh (snd_E i g T hi r1 (hE.mono x1) tk (PostR.imp (PostR.bind q) fun kk s2 H2 r2 x2 q2 uk rk => ?_))
    replace ro := ro.weak.mono x2
    split at q2
    · rename_i rr n
      cases rk
      split at q2
      · rename_i xs hxs
        split at q2
        · rename_i x hx
          split at q2
          · rename_i hn
            obtain ⟨p', hp, rfl⟩ := ro
            obtain ⟨vs, h1, hr⟩ := r2.cell _ _ _ hxs hp
            obtain ⟨v, hv1, hv2⟩ := hr.get hx
            cases hv2
            refine .here ⟨p', vs, n, _, rfl, rfl, hn, h1, hv1, ?_⟩
            refine snd_E e g T hv r2 ((hE.mono x1).mono x2) tk (PostR.imp (PostR.bind q2) fun y s3 H3 r3 x3 q3 uy ry => ?_)
            split at q3
            · rename_i j
              cases ry
              refine ⟨_, _, rfl, rfl, ?_⟩
              unfold setV at q3
              simp only [toD] at q3
              split at q3
              · rename_i xs3 hxs3
                split at q3
                · rename_i j3 hj3
                  obtain ⟨_, hp3, ep3⟩ := RepW.mono (K := X.K) (v := .ref rr) x3 (show RepW X.K al H2 (.ref rr) (.ref p') from ⟨p', hp, rfl⟩)
                  cases ep3
                  obtain ⟨vs3, h31, hr3⟩ := r3.cell _ _ _ hxs3 hp3
                  have sb : Stab H3 (upd H3 p' (.lst (vs3.set j3 (.int (x + j))))) := stab_upd h31
                  refine ⟨p', vs3, n, j3, rfl, rfl, h31, by rw [← hr3.length]; exact hj3, ?_⟩
                  exact q3 _ (r3.upd hp3 sb ⟨_, upd_same, (hr3.set (.int _) j3).mono sb⟩) (ext_cell (List.mem_of_getElem? hp3) h31)
                · exact q3.elim
              · exact q3.elim
            · exact q3.elim
          · exact q2.elim
        · exact q2.elim
      · exact q2.elim
    · exact q2.elim
  · cases hc
theorem EnvR.kill {K : Frag} {al al' : Al} {H : Hp} {env : Env} {σ : L2.St} {n : Nat} {β : List Addr} (h : EnvR K al' H env σ) (hc : al'.c = al.c ++ β) (hn : al.c.length = n) : EnvR K al H (env.map (kill n)) σ := by
  refine ⟨by rw [List.length_map]; exact h.len, fun i v e => ?_⟩
  rw [List.getElem?_map] at e
  cases q : env[i]? with
  | none => rw [q] at e; cases e
  | some o =>
    rw [q] at e
    have e : Pv.kill n o = some v := by simpa using e
    cases o with
    | none => cases e
    | some w =>
      obtain ⟨nw, u, h1, h2⟩ := h.get i w q
      cases w with
      | d d => cases e; exact ⟨rfl, u, h1, h2⟩
      | new xs => cases nw
      | ref j =>
        have e : (if j < n then some (Val.ref j) else none) = some v := e
        split at e
        · rename_i hj
          cases e
          obtain ⟨a, ha, rfl⟩ := h2
          refine ⟨rfl, _, h1, a, ?_, rfl⟩
          rw [hc, List.getElem?_append_left (by omega)] at ha
          exact ha
        · cases e
theorem Ext.drop {al al' : Al} {H H' : Hp} (x : Ext al H al' H') : Ext al H al H' := ⟨⟨[], by simp⟩, rfl, fun _ h n => absurd h n, x.prt, x.oth, x.stab⟩
theorem Rel.back {K : Frag} {al al' : Al} {H0 H : Hp} {st : Store} {n : Nat} (r : Rel K al' H st) (x : Ext al H0 al' H) (hn : al.c.length = n) : Rel K al H (st.take n) := by
  obtain ⟨β, hb⟩ := x.pre
  have rt := r.take n
  have e : al'.take n = al := by
    have h1 : al'.c.take n = al.c := by rw [hb, ← hn]; exact List.take_left
    have h2 := x.pp
    cases al
    cases al'
    simp only [Al.take] at *
    subst h2
    rw [h1]
  rw [e] at rt
  exact rt
theorem s_forr (tg : Tg) (it : It) {b : Ss} (ib : SndSs cx N b) : SndS cx N (.forr tg it b) := by
  intro X k sc st al H σ env sto W D g T po hc r hE tk h
  unfold chkS at hc
  split at hc
  · rename_i t ex body p
    rw [Bool.and_eq_true, Bool.and_eq_true] at hc
    obtain ⟨⟨hg, hi⟩, hb⟩ := hc
    refine ⟨_, ps_for (wi := SI X t ex) (g := SG X t) (tb := SSs X body) po.po g.calm pi_SI pg_SG pss_SSs (fun v => chkI_fold hi v), ?_⟩
    unfold evS at h
    refine snd_I it g T hi r hE tk ?_
    unfold PostI
    cases q : evI cx it env sto with
    | exc c s1 => simp only [q] at h; exact fun H' C r' x' m => h al H' σ C r' (hE.mono x') x' m
    | err => simp only [q] at h; exact h
    | ok w s1 =>
      simp only [q] at h
      intro H1 r1 x1 J hJ
      have le := r1.sureLe
      have hl := r1.len
      have h1 := (h.ext x1).lift le
      refine ⟨fun i m σ2 H2 => ∃ ds env2 st2, w.items.drop i = ds ∧ m = ds.length ∧ Rel X.K ⟨al.c, sureP al H1⟩ H2 st2 ∧ EnvR X.K ⟨al.c, sureP al H1⟩ H2 env2 σ2 ∧ Ext ⟨al.c, sureP al H1⟩ H1 ⟨al.c, sureP al H1⟩ H2 ∧
        PostS X ⟨al.c, sureP al H1⟩ H1 D W (forL w s1.length tg (fun e s => evSs cx b e s) ds env2 st2),
        ⟨w.items.length, w.items, env, s1, rfl, rfl, r1.sure, (hE.mono x1).sure, Ext.refl _ _, h1⟩, ?_⟩
      rintro i m σ2 H2 ⟨ds, env2, st2, hd, rfl, r2, e2, x2, p⟩
      have x2' : Ext al H1 al H2 := x2.less le
      cases ds with
      | nil =>
        rw [forL] at p
        split at p
        · rename_i ok
          obtain ⟨_, hstop⟩ := hJ ⟨al.c, sureP al H1⟩ H2 st2 x2' r2 ok
          refine .inl ⟨hstop i ?_, p _ H2 σ2 r2 e2 x2⟩
          have := congrArg List.length hd
          rw [List.length_drop] at this
          simp at this
          omega
        · exact p.elim
      | cons d ds =>
        rw [forL] at p
        split at p
        · rename_i ok
          obtain ⟨hgo, _⟩ := hJ ⟨al.c, sureP al H1⟩ H2 st2 x2' r2 ok
          have hdi : w.items[i]? = some d := by
            have := congrArg (fun l : List Pv.D => l[0]?) hd
            simp only [List.getElem?_drop, Nat.add_zero] at this
            exact this
          have hdrop : w.items.drop (i + 1) = ds := by
            have := congrArg (fun l : List Pv.D => l.drop 1) hd
            simp only [List.drop_drop] at this
            exact this
          obtain ⟨go, yl⟩ := hgo i d hdi
          refine .inr ⟨go, fun σ' H' => ∃ ds2 env2 st2, w.items.drop (i + 1) = ds2 ∧ ds.length = ds2.length ∧ Rel X.K ⟨al.c, sureP al H1⟩ H' st2 ∧ EnvR X.K ⟨al.c, sureP al H1⟩ H' env2 σ' ∧ Ext ⟨al.c, sureP al H1⟩ H1 ⟨al.c, sureP al H1⟩ H' ∧
            PostS X ⟨al.c, sureP al H1⟩ H1 D W (forL w s1.length tg (fun e s => evSs cx b e s) ds2 env2 st2), fun σ' H' hN => ⟨ds.length, by simp, hN⟩, fun v H3 hy => ?_⟩
          obtain ⟨r3, x3, rv⟩ := yl v H3 hy
          split at p
          · rename_i env1 hb1
            refine snd_G tg g hg (e2.mono x3) rv hb1 fun σ3 e3 w3 => ?_
            refine ib (D := { nx := _, rt := D.rt, ct := _, bk := _ }) g T po hb r3 e3 tk ?_
            have x13 := x2.trans x3
            cases qb : evSs cx b env1 st2 with
            | nx env4 st4 =>
              simp only [qb] at p
              intro al4 H4 σ4 r4 e4 x4
              obtain ⟨β, hβ⟩ := x4.pre
              exact ⟨ds, _, _, hdrop, rfl, r4.back x4 hl, e4.kill hβ hl, x13.trans x4.drop, p⟩
            | ct env4 st4 =>
              simp only [qb] at p
              intro al4 H4 σ4 r4 e4 x4
              obtain ⟨β, hβ⟩ := x4.pre
              exact ⟨ds, _, _, hdrop, rfl, r4.back x4 hl, e4.kill hβ hl, x13.trans x4.drop, p⟩
            | rt v s4 =>
              simp only [qb] at p
              exact fun al4 H4 u r4 x4 rv => p al4 H4 u r4 (x13.trans x4) rv
            | exc c env4 s4 =>
              simp only [qb] at p
              exact fun al4 H4 σ4 C r4 e4 x4 m => p al4 H4 σ4 C r4 e4 (x13.trans x4) m
            | err => simp only [qb] at p; exact p
          · exact p.elim
        · exact p.elim
  · cases hc
theorem s_whil (t : E) {b : Ss} (ib : SndSs cx N b) : SndS cx N (.whil t b) := by
  intro X k sc st al H σ env sto W D g T po hc r hE tk h
  unfold chkS at hc
  split at hc
  · rename_i x body p
    rw [Bool.and_eq_true] at hc
    obtain ⟨ht, hb⟩ := hc
    have hl := r.len
    unfold evS at h
    refine ⟨_, ps_while (tc := ST X x) (tb := SSs X body) po.po pt_ST pss_SSs, fun m σ2 H2 => ∃ env2 st2, Rel X.K al H2 st2 ∧ EnvR X.K al H2 env2 σ2 ∧ Ext al H al H2 ∧
      PostS X al H D W (whileL sto.length (fun e s => evT cx t e s) (fun e s => evSs cx b e s) m env2 st2), ⟨cx.fuel, env, sto, r, hE, Ext.refl _ _, h⟩, ?_⟩
    rintro m σ2 H2 ⟨env2, st2, r2, e2, x2, p⟩
    cases m with
    | zero => exact p.elim
    | succ m =>
      rw [whileL] at p
      refine snd_T t (W := W) g T ht r2 e2 tk ?_
      unfold PostB
      cases qt : evT cx t env2 st2 with
      | err => simp only [qt] at p; exact p
      | exc c s3 =>
        simp only [qt] at p
        exact fun H' C r' x' mm => p al H' σ2 C r' (e2.mono x') (x2.trans x') mm
      | ok kk s3 =>
        cases kk with
        | false =>
          simp only [qt] at p
          intro H3 r3 x3
          show (if false = true then _ else D.nx σ2 H3)
          rw [if_neg (by simp)]
          exact p al H3 σ2 r3 (e2.mono x3) (x2.trans x3)
        | true =>
          simp only [qt] at p
          intro H3 r3 x3
          show (if true = true then _ else D.nx σ2 H3)
          rw [if_pos rfl]
          refine ⟨fun σ' H' => ∃ env2 st2, Rel X.K al H' st2 ∧ EnvR X.K al H' env2 σ' ∧ Ext al H al H' ∧
            PostS X al H D W (whileL sto.length (fun e s => evT cx t e s) (fun e s => evSs cx b e s) m env2 st2), fun σ' H' hN => ⟨m, Nat.lt_succ_self m, hN⟩, ?_⟩
          refine ib (D := { nx := _, rt := D.rt, ct := _, bk := _ }) g T po hb r3 (e2.mono x3) tk ?_
          have x13 := x2.trans x3
          cases qb : evSs cx b env2 s3 with
          | nx env4 st4 =>
            simp only [qb] at p
            intro al4 H4 σ4 r4 e4 x4
            obtain ⟨β, hβ⟩ := x4.pre
            exact ⟨_, _, r4.back x4 hl, e4.kill hβ hl, x13.trans x4.drop, p⟩
          | ct env4 st4 =>
            simp only [qb] at p
            intro al4 H4 σ4 r4 e4 x4
            obtain ⟨β, hβ⟩ := x4.pre
            exact ⟨_, _, r4.back x4 hl, e4.kill hβ hl, x13.trans x4.drop, p⟩
          | rt v s4 =>
            simp only [qb] at p
            exact fun al4 H4 u r4 x4 rv => p al4 H4 u r4 (x13.trans x4) rv
          | exc c env4 s4 =>
            simp only [qb] at p
            exact fun al4 H4 σ4 C r4 e4 x4 mm => p al4 H4 σ4 C r4 e4 (x13.trans x4) mm
          | err => simp only [qb] at p; exact p
  · cases hc
theorem s_rais (c : String) : SndS cx N (.rais c) := by
  intro X k sc st al H σ env sto W D g T po hc r hE tk h
  unfold chkS at hc
  split at hc
  · rename_i x p1 m j p2 p3 p4
    simp only [Bool.and_eq_true, decide_eq_true_eq] at hc
    obtain ⟨⟨rfl, hg⟩, hp⟩ := hc
    unfold evS at h
    split at h
    · rename_i hx
      obtain ⟨C, m1, m2, m3, m4, m5⟩ := T.isx c hx
      obtain ⟨q1, _, _⟩ := plain1 hp
      exact ⟨_, ps_raise g.calm tk (pmk_own (PySem.F.excBase_ValueError) m2 m1 m3 (raises_own m4 m5) (g.gl _ hg) q1), h al H σ (.ref C) r hE (Ext.refl _ _) m1⟩
    · exact h.elim
  · cases hc
theorem s_err {s : S} (h0 : ∀ env st, evS cx s env st = .err) : SndS cx N s := by
  intro X k sc st al H σ env sto W D g T po hc r hE tk h
  rw [h0] at h
  exact h.elim
mutual
theorem snd_S : ∀ s : S, SndS cx N s
  | .set i e => s_set i e
  | .asg tg e => s_asg tg e
  | .par i j a b => s_par i j a b
  | .setix a i v => s_setix a i v
  | .augix a i e => s_augix a i e
  | .ex e => s_ex e
  | .ret e => s_ret e
  | .retN => s_retN
  | .ife t a b => s_ife t (snd_Ss a) (snd_Ss b)
  | .forr tg it b => s_forr tg it (snd_Ss b)
  | .whil t b => s_whil t (snd_Ss b)
  | .rais c => s_rais c
  | .trye b c i h => s_trye c i h (snd_Ss b)
  | .pass => s_pass
  | .cont => s_cont
theorem snd_Ss : ∀ s : Ss, SndSs cx N s
  | .nil => ss_nil
  | .cons s ss => ss_cons (snd_S s) (snd_Ss ss)
end
end
end Pv

/-! A program: each def keeps the evaluator's promise, by the depth of calls. -/
namespace Pv
open PySem PySem.Spec PyProof.Rows L2 TL

def Fn.N (F : Fn) : List Str := F.ns.map Str.ofString
def Fn.P (F : Fn) : List Str := F.ps.map Str.ofString
def chkFn (F : Fn) (st : Stmt) : Bool := chkF F st && chkScope F.N F.P (defScope st)

/-- a def stands where the top has left it -/
structure DefOk (K : Frag) (mg : Str → Option Value) (f : String) (F : Fn) : Prop where
  ex : ∃ (fa : Addr) (fd : FuncData) (qual : Str) (st : Stmt), mg (Str.ofString f) = some (.ref fa) ∧ Fun K (Str.ofString f) qual st fa fd ∧ chkFn F st = true ∧ Binds K fd F.P []
structure Top (Δ : Prog) (K : Frag) (mg : Str → Option Value) : Prop where
  fn : ∀ f F, Δ.fn f = some F → DefOk K mg f F
  glob : ∀ g d, Δ.glob g = some d → ∃ v u, mg (Str.ofString g) = some u ∧ RelV v u ∧ ∀ H, RepD K H d v
  blt : ∀ n ∈ bltNames, mg n = none
  isx : ∀ c, Δ.isx c = true → ∃ C, mg (Str.ofString c) = some (.ref C) ∧ PySem.W.excIn K C [.type "ValueError", .type "Exception", .type "BaseException", .type "object"] "ValueError.__new__" = true ∧ PySem.W.keepIn K (.ref C) = true ∧ PySem.W.subIn K (.ref C) (.type "BaseException") = some true ∧ PySem.W.typeIn K (.ref C) = some (.type "type")
  sub : ∀ c t b, Δ.sub c t = some b → ∃ C v u, mg (Str.ofString c) = some (.ref C) ∧ ExcC K C ∧ ClsV mg (Str.ofString t) v u ∧ PySem.W.kitOne K (.ref C) u = some b
  hnd : ∀ c t b, Δ.hnd c t = some b → ∃ C D, mg (Str.ofString c) = some (.ref C) ∧ mg (Str.ofString t) = some (.ref D) ∧ PySem.W.exmOne K (.ref C) (.ref D) = some b
  knd : ∀ f cs, Δ.knd f = some cs → ∃ (d : Kd) (fa : Addr) (fd : FuncData) (qual : Str) (st : Stmt), cs = d.cs ∧ mg (Str.ofString f) = some (.ref fa) ∧ Fun K (Str.ofString f) qual st fa fd ∧ chkKd d st = true ∧ Binds K fd [Str.ofString d.p] []

section
variable {P : Program} {w : World} {K : Frag} {mg : Str → Option Value} {base : Heap} {Δ : Prog} {m : Nat}
theorem post_len {call : String → List Val → Store → R Val} {f : String} {n : Nat} (h : ∀ args st, args.length ≠ n → call f args st = .err) : ∀ vs H Q E, spOf K mg call f vs H Q E → vs.length = n := by
  rintro vs H Q E ⟨al, args, st, r, ra, _, p⟩
  by_cases e : args.length = n
  · rw [← ra.length, e]
  · rw [h args st e] at p
    exact p.elim
theorem envR_start {F : Fn} {al : Al} {H : Hp} {args : List Val} {vs : List V} (ra : RepVs K al H args vs) (hn : ∀ a ∈ args, isNew a = false) : EnvR K al H (envF F args) (L2.start F.N vs) := by
  have hl := ra.length
  refine ⟨?_, fun i v e => ?_⟩
  · unfold envF L2.start Fn.N
    rw [List.length_append, List.length_append, List.length_map, List.length_map, List.length_replicate, List.length_replicate, List.length_map, hl]
  · unfold envF at e
    by_cases hi : i < args.length
    · rw [List.getElem?_append_left (by rw [List.length_map]; exact hi), List.getElem?_map] at e
      cases q : args[i]? with
      | none => rw [q] at e; cases e
      | some a =>
        rw [q] at e
        cases e
        obtain ⟨u, hu, ru⟩ := ra.get q
        refine ⟨hn _ (List.mem_of_getElem? q), u, ?_, ru⟩
        unfold L2.start
        rw [List.getElem?_append_left (by rw [List.length_map, ← hl]; exact hi), List.getElem?_map, hu]
        rfl
    · rw [List.getElem?_append_right (by rw [List.length_map]; omega), List.getElem?_replicate] at e
      split at e <;> cases e
/-- from a body's end to the def's answer -/
theorem post_body {X : Cx} {al : Al} {H : Hp} {Q : VK} {E : XK} {st : Store} {r : SR} (hr : Rel X.K al H st)
    (p : PostR X.K X.mg al H (fun C H' => E C none H') (fun v _ H' => ∀ u, RepV X.K al H' v u → Q u H') (endF r st.length)) :
    PostS X al H { nx := fun _ H' => Q .non H', rt := Q } (fun cls d _ H => E cls d H) r := by
  have hl := hr.len
  cases r with
  | nx env s => exact fun al' H' σ' r' e' x' => p H' (r'.back x' hl) x'.drop .non .non
  | ct env s => exact p.elim
  | exc c env s => exact fun al' H' σ' C r' e' x' mm => p H' C (r'.back x' hl) x'.drop mm
  | err => exact p.elim
  | rt v s =>
    intro al' H' u r' x' rv
    obtain ⟨β, hβ⟩ := x'.pre
    have rb := r'.back x' hl
    have p : PostR X.K X.mg al H (fun C H' => E C none H') (fun v _ H' => ∀ u, RepV X.K al H' v u → Q u H') (retV v st.length s) := p
    cases v with
    | d d => exact p H' rb x'.drop u rv
    | new xs =>
      obtain ⟨a, vs, e, h1, n, h2⟩ := rv
      refine p H' rb x'.drop u ⟨a, vs, e, h1, ⟨fun z => n.1 ?_, fun z => n.2 ?_⟩, h2⟩
      · rw [hβ]; exact List.mem_append_left _ z
      · rw [x'.pp]; exact z
    | ref i =>
      obtain ⟨a, ha, rfl⟩ := rv
      unfold retV at p
      split at p
      · rename_i d e; cases e
      · rename_i xs e; cases e
      · rename_i j e
        cases e
        split at p
        · rename_i hi
          refine p H' rb x'.drop _ ⟨a, ?_, rfl⟩
          rw [hβ, List.getElem?_append_left (by omega)] at ha
          exact ha
        · rename_i hi
          have hout : al.out a := by
            refine ⟨fun z => ?_, fun z => ?_⟩
            · obtain ⟨j, hj⟩ := List.getElem?_of_mem z
              have hjl : j < al.c.length := by
                rcases Nat.lt_or_ge j al.c.length with q | q
                · exact q
                · rw [List.getElem?_eq_none q] at hj; cases hj
              have hj' : al'.c[j]? = some a := by rw [hβ, List.getElem?_append_left hjl]; exact hj
              have := nodup_get r'.nd ha hj'
              omega
            · exact (r'.prot a (by rw [x'.pp]; exact z)).2 (List.mem_of_getElem? ha)
          split at p
          · rename_i xs hx
            obtain ⟨vs, h1, h2⟩ := r'.cell _ _ a hx ha
            exact p H' rb x'.drop _ ⟨a, vs, rfl, h1, hout, h2⟩
          · rename_i xs hx
            obtain ⟨o, vs, h1, h2⟩ := r'.cell _ _ a hx ha
            exact p H' rb x'.drop _ (.lst (.inl ⟨o, h1⟩) h2)
          · exact p.elim
theorem prog_ok (T : Top Δ K mg) : ∀ (n : Nat) (f : String) (F : Fn) (fa : Addr) (fd : FuncData) (qual : Str) (st : Stmt), Δ.fn f = some F → Fun K (Str.ofString f) qual st fa fd → chkFn F st = true → FnOk P w K mg base (L2.CX P w) n fa fd F.P (spOf K mg (Φ Δ m n) f)
  | 0, f, F, fa, fd, qual, st, _, _, _ => ⟨fun vs H Q E h => by obtain ⟨al, args, st, r, ra, _, p⟩ := h; exact p.elim, fun A outer s H args us vs Q E _ _ _ _ h => by obtain ⟨al, args, st, r, ra, _, p⟩ := h; exact p.elim⟩
  | n + 1, f, F, fa, fd, qual, st, hf, hF, hc => by
    unfold chkFn at hc
    rw [Bool.and_eq_true] at hc
    have S := scope_ok hc.2
    refine hF.okX (N := F.N) S (post_len fun args st e => ?_) (fun cdv A outer s H vs Q E hr h => ?_)
    · unfold Φ
      rw [hf]
      unfold runF
      show (if args.length = F.ps.length then _ else R.err) = .err
      rw [if_neg]
      intro q
      apply e
      rw [q]
      unfold Fn.P
      rw [List.length_map]
    · obtain ⟨al, args, sto, r, ra, hn, p⟩ := h
      have hl := ra.length
      refine ⟨_, pss_SSs, ?_⟩
      have T' : Tab ⟨Φ Δ m n, Δ.glob, m, Δ.isx, fun f => (Δ.fn f).isSome, Δ.sub, Δ.hnd, Δ.knd⟩ n P w K mg base := by
        refine ⟨fun g hg => ?_, T.glob, T.blt, T.isx, T.sub, T.hnd, T.knd⟩
        obtain ⟨G, hG⟩ := Option.isSome_iff_exists.mp hg
        obtain ⟨ga, gd, gq, gs, h1, h2, h3, h4⟩ := (T.fn g G hG).ex
        exact ⟨ga, gd, G.P, h1, h2.kp, h4, prog_ok T n g G ga gd gq gs hG h2 h3⟩
      have good : Good F.N (defScope st) n (cxOf (L2.CX P w) P w K mg base F.N qual (defScope st) fa cdv A outer s H E) := by
        refine ⟨rfl, S.nd, rfl, hr, fun x hx => ?_, fun x hx => ?_, fun x hx => hx, fun x hx => hx, fun x hx => ?_, fun x hx => hx, S.kind⟩
        · unfold Pv.vis at hx
          split at hx
          · rename_i q; exact .inl q
          · rename_i q; exact .inr (.inl q)
          · rename_i q; exact .inr (.inr q)
          · cases hx
        · unfold Pv.locl at hx
          split at hx
          · rename_i q; exact ⟨.inl q, .inl rfl⟩
          · rename_i q; exact ⟨.inr q, .inl rfl⟩
          · cases hx
        · unfold Pv.gl at hx
          split at hx
          · rename_i q; exact q
          · cases hx
      refine snd_Ss (cx := ⟨Φ Δ m n, Δ.glob, m, Δ.isx, fun f => (Δ.fn f).isSome, Δ.sub, Δ.hnd, Δ.knd⟩) F.body good T' ⟨passes_of rfl, rfl, rfl⟩ hc.1 r (envR_start ra hn) (takes_of rfl rfl rfl rfl) (post_body r ?_)
      have e : Φ Δ m (n + 1) f args sto = runF F ⟨Φ Δ m n, Δ.glob, m, Δ.isx, fun f => (Δ.fn f).isSome, Δ.sub, Δ.hnd, Δ.knd⟩ args sto := by
        unfold Φ
        rw [hf]
      rw [e] at p
      unfold runF at p
      by_cases q : args.length = F.ps.length
      · rw [if_pos q] at p
        exact p
      · rw [if_neg q] at p
        exact p.elim

/-- the law: the script's list, the answer True -/
def spLaw (K : Frag) : Sp := fun vs H Q _ => ∃ (a : Addr) (ns : List Int), vs = [.ref a] ∧ ns.length ≤ 63 ∧ Only H ∧ SqL K H a (ns.map V.int) ∧ ∀ H', Q (.bl true) H'
theorem only_fz {H : Hp} {a : Addr} {vs : List V} (o : Only H) (h : SqL K H a vs) : FzL K H a vs := by
  rcases h with (h | h) | h
  · rcases o a with q | ⟨ob, xs, q⟩ <;> rw [h] at q <;> cases q
  · exact .inl h
  · exact .inr h
theorem law_ok (T : Top Δ K mg) {n : Nat} {F : Fn} {fa : Addr} {fd : FuncData} {qual : Str} {st : Stmt} (hf : Δ.fn "law" = some F) (hF : Fun K (Str.ofString "law") qual st fa fd) (hc : chkFn F st = true)
    (law : ∀ ns : List Int, ns.length ≤ 63 → Φ Δ m n "law" [.d (.lst (ns.map .int))] [] = .ok (.d (.bl true)) []) : FnOk P w K mg base (L2.CX P w) n fa fd F.P (spLaw K) := by
  refine (prog_ok (m := m) T n "law" F fa fd qual st hf hF hc).imp ?_
  rintro vs H Q E ⟨a, ns, rfl, hl, ho, hs, q⟩
  refine ⟨⟨[], fun _ => False⟩, [.d (.lst (ns.map .int))], [], ⟨rfl, List.nodup_nil, fun i c a h => (by simp at h), fun a h => h.elim⟩, .cons (.lst (only_fz ho hs) (repInts ns)) .nil, fun a ha => ?_, ?_⟩
  · have : a = .d (.lst (ns.map .int)) := by simpa using ha
    subst this
    rfl
  · rw [law ns hl]
    intro H' _ _ u hu
    cases hu
    exact q H'
end
theorem walk_law {l : PySem.W.OpenLaw} {k : Nat} {q : Program} {loose : List Str} {XP : (Str → Option Value) → Heap → Prop} {YP : World → Heap → Prop} {d : DefRec} {K : Params → Frag} {x : Str} (hn : l.most = some 63) (hdf : d.params.defaults = []) (hk : k ≤ 230)
    (hY : ∀ (w : World) (h : Heap), YP w h → (K w.params).In h)
    (F : ∀ (w : World) (mg : Str → Option Value) (fa : Addr) (h : Heap), (K w.params).In h → h.Ns mainGlobals mg → mg d.name = some (.ref fa) →
      ∃ fd : FuncData, (∀ (s : Shared) (u : Value), BindsTo s fd ⟨[u], []⟩ [(x, u)]) ∧ ∀ base : Heap, (K w.params).In base → base.Ns mainGlobals mg → FnOk l.prog w (K w.params) mg base (L2.CX l.prog w) k fa fd [x] (spLaw (K w.params))) :
    PySem.W.WalkO q loose XP YP l.row.toRowW d [] (fun f vs => PySem.call f vs) :=
  L2.walk_of (n := 63) (k := k) (x := x) (CX := fun w => L2.CX l.prog w) (sp := fun w => spLaw (K w.params)) hn (by decide) hdf ((⟨rfl, by decide, by decide⟩ : Room 230 callerA).mono hk) hY F (fun _ _ a ns hl ho hS => ⟨a, ns, rfl, hl, ho, hS, fun _ => rfl⟩)
    fun _ _ _ _ _ z => by obtain ⟨_, _, _, _, _, _, _, _, _, _, _, _, z⟩ := z; exact z
end Pv

/-! Tools for reckoning with the evaluator. -/
namespace Pv
open PySem
/-- an equation that simp keeps as a proof -/
theorem nr {α : Sort u} {a b : α} (h : a = b) : a = b := h

@[simp] theorem R.bind_ok {α β : Type} (a : α) (s : Store) (f : α → Store → R β) : (R.ok a s).bind f = f a s := nr rfl
@[simp] theorem R.bind_exc {α β : Type} (c : String) (s : Store) (f : α → Store → R β) : (R.exc c s : R α).bind f = .exc c s := nr rfl
@[simp] theorem R.bind_err {α β : Type} (f : α → Store → R β) : (R.err : R α).bind f = .err := nr rfl

/-- it ends well, and so -/
def R.okP {α : Type} (r : R α) (P : α → Store → Prop) : Prop := match r with
  | .ok a s => P a s
  | _ => False
@[simp] theorem okP_ok {α : Type} (a : α) (s : Store) (P : α → Store → Prop) : (R.ok a s).okP P = P a s := nr rfl
theorem R.okP_ex {α : Type} {r : R α} {P : α → Store → Prop} (h : r.okP P) : ∃ a s, r = .ok a s ∧ P a s := by
  cases r with
  | ok a s => exact ⟨a, s, rfl, h⟩
  | exc c s => exact h.elim
  | err => exact h.elim
/-- a statement ends well, and so -/
def SR.nxP (r : SR) (P : Env → Store → Prop) : Prop := match r with
  | .nx e s => P e s
  | _ => False
@[simp] theorem nxP_nx (e : Env) (s : Store) (P : Env → Store → Prop) : (SR.nx e s).nxP P = P e s := nr rfl
theorem SR.nxP_ex {r : SR} {P : Env → Store → Prop} (h : r.nxP P) : ∃ e s, r = .nx e s ∧ P e s := by
  cases r with
  | nx e s => exact ⟨e, s, rfl, h⟩
  | ct e s => exact h.elim
  | rt v s => exact h.elim
  | exc c e s => exact h.elim
  | err => exact h.elim
/-! ### stores: what a def has made lies behind what stood -/
section
variable (s t : Store) (j : Nat) (c : Cell)
theorem st0 : (s ++ t)[s.length]? = t[0]? := by rw [List.getElem?_append_right (Nat.le_refl _), Nat.sub_self]
theorem stj : (s ++ t)[s.length + j]? = t[j]? := by rw [List.getElem?_append_right (Nat.le_add_right _ _), Nat.add_sub_cancel_left]
theorem set0 : (s ++ t).set s.length c = s ++ t.set 0 c := by rw [List.set_append_right _ _ (Nat.le_refl _), Nat.sub_self]
theorem setj : (s ++ t).set (s.length + j) c = s ++ t.set j c := by rw [List.set_append_right _ _ (Nat.le_add_right _ _), Nat.add_sub_cancel_left]
theorem tak0 : (s ++ t).take s.length = s := List.take_left
theorem takj : (s ++ t).take (s.length + j) = s ++ t.take j := by rw [List.take_append, List.take_of_length_le (Nat.le_add_right _ _), Nat.add_sub_cancel_left]
end
def SR.turn (r : SR) (P : Env → Store → Prop) : Prop := match r with
  | .nx e s => P e s
  | .ct e s => P e s
  | _ => False
@[simp] theorem turn_nx (e : Env) (s : Store) (P : Env → Store → Prop) : (SR.nx e s).turn P = P e s := nr rfl
@[simp] theorem turn_ct (e : Env) (s : Store) (P : Env → Store → Prop) : (SR.ct e s).turn P = P e s := nr rfl
theorem SR.turn_ex {r : SR} {P : Env → Store → Prop} (h : r.turn P) : ∃ e s, (r = .nx e s ∨ r = .ct e s) ∧ P e s := by
  cases r with
  | nx e s => exact ⟨e, s, .inl rfl, h⟩
  | ct e s => exact ⟨e, s, .inr rfl, h⟩
  | rt v s => exact h.elim
  | exc c e s => exact h.elim
  | err => exact h.elim
theorem SR.turn_imp {r : SR} {P Q : Env → Store → Prop} (h : r.turn P) (f : ∀ e s, P e s → Q e s) : r.turn Q := by
  cases r with
  | nx e s => exact f e s h
  | ct e s => exact f e s h
  | rt v s => exact h.elim
  | exc c e s => exact h.elim
  | err => exact h.elim
def SR.turn2 (r : SR) (P : Env → Store → Prop) (Q : SR → Prop) : Prop := match r with
  | .nx e s => P e s
  | .ct e s => P e s
  | r => Q r
@[simp] theorem turn2_nx (e : Env) (s : Store) (P : Env → Store → Prop) (Q : SR → Prop) : (SR.nx e s).turn2 P Q = P e s := nr rfl
@[simp] theorem turn2_ct (e : Env) (s : Store) (P : Env → Store → Prop) (Q : SR → Prop) : (SR.ct e s).turn2 P Q = P e s := nr rfl
@[simp] theorem turn2_rt (v : Val) (s : Store) (P : Env → Store → Prop) (Q : SR → Prop) : (SR.rt v s).turn2 P Q = Q (.rt v s) := nr rfl
@[simp] theorem turn2_exc (c : String) (e : Env) (s : Store) (P : Env → Store → Prop) (Q : SR → Prop) : (SR.exc c e s).turn2 P Q = Q (.exc c e s) := nr rfl
/-- a run of all turns -/
theorem forL_inv {w : Walk} {n : Nat} {tg : Tg} {body : Env → Store → SR} {env : Env} {s : Store} (I : Nat → Env → Store → Prop) (h0 : I 0 env s)
    (hs : ∀ i d env s, w.items[i]? = some d → I i env s → w.ok s = true ∧ ∃ e1, bindT tg d env = some e1 ∧ (body e1 s).turn fun e2 s2 => I (i + 1) (e2.map (kill n)) (s2.take n))
    (he : ∀ env s, I w.items.length env s → w.ok s = true) : ∃ env' s', forL w n tg body w.items env s = .nx env' s' ∧ I w.items.length env' s' := by
  have go : ∀ (ds : List D) (i : Nat) (env : Env) (s : Store), w.items.drop i = ds → i ≤ w.items.length → I i env s → ∃ env' s', forL w n tg body ds env s = .nx env' s' ∧ I w.items.length env' s' := by
    intro ds
    induction ds with
    | nil =>
      intro i env s hd hi h
      have : i = w.items.length := by
        have := congrArg List.length hd
        rw [List.length_drop] at this
        simp at this
        omega
      subst this
      exact ⟨env, s, by rw [forL, if_pos (he _ _ h)], h⟩
    | cons d ds ih =>
      intro i env s hd hi h
      have hdi : w.items[i]? = some d := by
        have := congrArg (fun l : List D => l[0]?) hd
        simp only [List.getElem?_drop, Nat.add_zero] at this
        exact this
      have hdrop : w.items.drop (i + 1) = ds := by
        have := congrArg (fun l : List D => l.drop 1) hd
        simp only [List.drop_drop] at this
        exact this
      have hil : i < w.items.length := by
        rcases Nat.lt_or_ge i w.items.length with q | q
        · exact q
        · rw [List.getElem?_eq_none q] at hdi; cases hdi
      obtain ⟨ok, e1, hb, ht⟩ := hs i d env s hdi h
      obtain ⟨e2, s2, hr, hI⟩ := SR.turn_ex ht
      obtain ⟨env', s', h1, h2⟩ := ih (i + 1) _ _ hdrop hil hI
      refine ⟨env', s', ?_, h2⟩
      rw [forL, if_pos ok, hb]
      rcases hr with hr | hr
      · simp only [hr]; exact h1
      · simp only [hr]; exact h1
  exact go w.items 0 env s rfl (Nat.zero_le _) h0
/-- .. that may return -/
theorem forL_inv2 {w : Walk} {n : Nat} {tg : Tg} {body : Env → Store → SR} {env : Env} {s : Store} (I : Nat → Env → Store → Prop) (Q : SR → Prop) (h0 : I 0 env s)
    (hs : ∀ i d env s, w.items[i]? = some d → I i env s → w.ok s = true ∧ ∃ e1, bindT tg d env = some e1 ∧ (body e1 s).turn2 (fun e2 s2 => I (i + 1) (e2.map (kill n)) (s2.take n)) Q)
    (he : ∀ env s, I w.items.length env s → w.ok s = true) : (∃ env' s', forL w n tg body w.items env s = .nx env' s' ∧ I w.items.length env' s') ∨ Q (forL w n tg body w.items env s) := by
  have go : ∀ (ds : List D) (i : Nat) (env : Env) (s : Store), w.items.drop i = ds → i ≤ w.items.length → I i env s → (∃ env' s', forL w n tg body ds env s = .nx env' s' ∧ I w.items.length env' s') ∨ Q (forL w n tg body ds env s) := by
    intro ds
    induction ds with
    | nil =>
      intro i env s hd hi h
      have : i = w.items.length := by
        have := congrArg List.length hd
        rw [List.length_drop] at this
        simp at this
        omega
      subst this
      exact .inl ⟨env, s, by rw [forL, if_pos (he _ _ h)], h⟩
    | cons d ds ih =>
      intro i env s hd hi h
      have hdi : w.items[i]? = some d := by
        have := congrArg (fun l : List D => l[0]?) hd
        simp only [List.getElem?_drop, Nat.add_zero] at this
        exact this
      have hdrop : w.items.drop (i + 1) = ds := by
        have := congrArg (fun l : List D => l.drop 1) hd
        simp only [List.drop_drop] at this
        exact this
      have hil : i < w.items.length := by
        rcases Nat.lt_or_ge i w.items.length with q | q
        · exact q
        · rw [List.getElem?_eq_none q] at hdi; cases hdi
      obtain ⟨ok, e1, hb, hr⟩ := hs i d env s hdi h
      rw [forL, if_pos ok, hb]
      show _ ∨ Q (match body e1 s with
          | .nx e2 s2 => forL w n tg body ds (e2.map (kill n)) (s2.take n)
          | .ct e2 s2 => forL w n tg body ds (e2.map (kill n)) (s2.take n)
          | r => r)
      cases e : body e1 s with
      | nx a b =>
        rw [e] at hr
        simp only [e]
        exact ih (i + 1) _ _ hdrop hil hr
      | ct a b =>
        rw [e] at hr
        simp only [e]
        exact ih (i + 1) _ _ hdrop hil hr
      | rt a b => rw [e] at hr; exact .inr hr
      | exc a b c => rw [e] at hr; exact .inr hr
      | err => rw [e] at hr; exact .inr hr
  exact go w.items 0 env s rfl (Nat.zero_le _) h0
/-- a comprehension whose parts leave the store -/
theorem lcL_map {w : Walk} {tg : Tg} {test : Env → Store → R Bool} {elt : Env → Store → R Val} {env : Env} {s : Store} (p : D → Bool) (f : D → D) (ds : List D) (acc : List D) (hw : w.ok s = true) (hl : acc.length + ds.length ≤ line)
    (h : ∀ d ∈ ds, ∃ e1, bindT tg d env = some e1 ∧ test e1 s = .ok (p d) s ∧ (p d = true → ∃ v, elt e1 s = .ok v s ∧ toD v s = some (f d, s))) :
    lcL w tg test elt env ds acc s = .ok (acc ++ (ds.filter p).map f) s := by
  induction ds generalizing acc with
  | nil => rw [lcL, if_pos hw]; simp
  | cons d ds ih =>
    obtain ⟨e1, hb, ht, he⟩ := h d List.mem_cons_self
    simp only [List.length_cons] at hl
    rw [lcL, if_pos (by rw [hw, Bool.true_and, decide_eq_true_eq]; omega), hb]
    cases hp : p d with
    | false =>
      rw [hp] at ht
      simp only [ht]
      rw [ih acc (by omega) fun x hx => h x (List.mem_cons_of_mem _ hx), List.filter_cons_of_neg (by rw [hp]; exact Bool.false_ne_true)]
    | true =>
      rw [hp] at ht
      obtain ⟨v, hv, hd⟩ := he hp
      simp only [ht, hv, hd]
      rw [ih (acc ++ [f d]) (by rw [List.length_append]; simp only [List.length_cons, List.length_nil]; omega) fun x hx => h x (List.mem_cons_of_mem _ hx), List.filter_cons_of_pos hp]
      simp
/-- a while loop: a measure -/
theorem whileL_inv {n : Nat} {test : Env → Store → R Bool} {body : Env → Store → SR} (I : Nat → Env → Store → Prop) (J : Env → Store → Prop)
    (hs : ∀ k env s, I k env s → (∃ s1, test env s = .ok false s1 ∧ J env s1) ∨ ∃ s1, test env s = .ok true s1 ∧ (body env s1).turn fun e2 s2 => ∃ k', k' < k ∧ I k' (e2.map (kill n)) (s2.take n)) :
    ∀ (fuel k : Nat) (env : Env) (s : Store), I k env s → k < fuel → ∃ env' s', whileL n test body fuel env s = .nx env' s' ∧ J env' s'
  | 0, k, env, s, _, h => absurd h (Nat.not_lt_zero _)
  | f + 1, k, env, s, h, hm => by
    rcases hs k env s h with ⟨s1, ht, hj⟩ | ⟨s1, ht, hb⟩
    · exact ⟨env, s1, by rw [whileL, ht], hj⟩
    · obtain ⟨e2, s2, hb, k', hk, hI⟩ := SR.turn_ex hb
      obtain ⟨env', s', h1, h2⟩ := whileL_inv I J hs f k' _ _ hI (by omega)
      refine ⟨env', s', ?_, h2⟩
      rw [whileL, ht]
      rcases hb with hb | hb
      · simp only [hb]; exact h1
      · simp only [hb]; exact h1

/-! ### calls -/
def cxΔ (Δ : Prog) (m n : Nat) : Cxt := ⟨Φ Δ m n, Δ.glob, m, Δ.isx, fun f => (Δ.fn f).isSome, Δ.sub, Δ.hnd, Δ.knd⟩
/-- the def stands there, with so many parameters and names -/
structure Has (Δ : Prog) (f : String) (k n : Nat) (b : Ss) : Prop where
  ex : ∃ ps ns, Δ.fn f = some ⟨ps, ns, b⟩ ∧ ps.length = k ∧ ns.length = n
theorem Has.run {Δ : Prog} {f : String} {k n m d : Nat} {b : Ss} {args : List Val} {s : Store} (h : Has Δ f k n b) (e : args.length = k) :
    Φ Δ m (d + 1) f args s = endF (evSs (cxΔ Δ m d) b (args.map some ++ List.replicate (n - args.length) none) s) s.length := by
  obtain ⟨ps, ns, hf, h1, h2⟩ := h.ex
  unfold Φ
  rw [hf]
  show runF ⟨ps, ns, b⟩ (cxΔ Δ m d) args s = _
  unfold runF
  rw [if_pos (by show args.length = ps.length; rw [e, h1])]
  unfold envF
  rw [show (⟨ps, ns, b⟩ : Fn).ns.length = n from h2]
theorem Has.has {Δ : Prog} {f : String} {k n m d : Nat} {b : Ss} (h : Has Δ f k n b) : (cxΔ Δ m d).has f = true := by
  obtain ⟨ps, ns, hf, _, _⟩ := h.ex
  show (Δ.fn f).isSome = true
  rw [hf]
  rfl
theorem cx_call (Δ : Prog) (m n : Nat) (f : String) (vs : List Val) (s : Store) : (cxΔ Δ m n).call f vs s = Φ Δ m n f vs s := nr rfl
@[simp] theorem cx_fuel (Δ : Prog) (m n : Nat) : (cxΔ Δ m n).fuel = m := nr rfl
@[simp] theorem cx_glob (Δ : Prog) (m n : Nat) (g : String) : (cxΔ Δ m n).glob g = Δ.glob g := nr rfl
end Pv

/-! Bodies of defs that many laws have (printed by gen.py). -/
namespace Pv
/- slots of links_of: 0 tree, 1 links, 2 tops, 3 place, 4 branches, 5 left, 6 right -/
def b_links_of_1 : Ss :=
 (.cons (.set 4 (.ix (.ix (.var 0) (.var 3)) (.int 0)))
 (.cons (.set 5 .non)
 (.cons (.set 6 .non)
 (.cons (.ife (.cmp .ge (.var 4) (.int 2)) (.cons (.set 6 (.meth .pop (.var 2) .nil))
 .nil) .nil)
 (.cons (.ife (.or (.cons (.cmp .eq (.var 4) (.int 1)) (.cons (.cmp .eq (.var 4) (.int 3)) .nil))) (.cons (.set 5 (.meth .pop (.var 2) .nil))
 .nil) .nil)
 (.cons (.ex (.meth .append (.var 1) (.cons (.tup (.cons (.var 5) (.cons (.var 6) .nil))) .nil)))
 (.cons (.ex (.meth .append (.var 2) (.cons (.var 3) .nil)))
 .nil)))))))
def b_links_of : Ss :=
 (.cons (.set 1 (.list .nil))
 (.cons (.set 2 (.list .nil))
 (.cons (.forr (.name 3) (.range (.cons (.blt .len (.cons (.var 0) .nil)) .nil)) b_links_of_1)
 (.cons (.ret (.blt .tuple (.cons (.var 1) .nil)))
 .nil))))
/- slots of sizes_of: 0 tree, 1 sizes, 2 left, 3 right, 4 size -/
def b_sizes_of_1 : Ss :=
 (.cons (.set 4 (.int 1))
 (.cons (.ife (.cmp .isnot (.var 2) .non) (.cons (.set 4 (.bin .add (.var 4) (.ix (.var 1) (.var 2))))
 .nil) .nil)
 (.cons (.ife (.cmp .isnot (.var 3) .non) (.cons (.set 4 (.bin .add (.var 4) (.ix (.var 1) (.var 3))))
 .nil) .nil)
 (.cons (.ex (.meth .append (.var 1) (.cons (.var 4) .nil)))
 .nil))))
def b_sizes_of : Ss :=
 (.cons (.set 1 (.list .nil))
 (.cons (.forr (.tup (.cons (.name 2) (.cons (.name 3) .nil))) (.val (.call "links_of" (.cons (.var 0) .nil))) b_sizes_of_1)
 (.cons (.ret (.blt .tuple (.cons (.var 1) .nil)))
 .nil)))
/- slots of _law_cell: 0 _law_script, 1 _law_k -/
def b__law_cell : Ss :=
 (.cons (.ife (.cmp .eq (.blt .len (.cons (.var 0) .nil)) (.int 0)) (.cons (.ret (.int 0))
 .nil) .nil)
 (.cons (.ret (.ix (.var 0) (.bin .mod (.var 1) (.blt .len (.cons (.var 0) .nil)))))
 .nil))
/- slots of _law_mixed: 0 _law_cell_here, 1 _law_k, 2 _law_salt, 3 _law_first -/
def b__law_mixed : Ss :=
 (.cons (.set 3 (.bin .mod (.bin .mul (.bin .add (.bin .add (.bin .add (.var 0) (.bin .mul (.bin .mul (.int 7) (.var 1)) (.var 1))) (.bin .mul (.int 13) (.var 1))) (.var 2)) (.int 69621)) (.int 2147483647)))
 (.cons (.ret (.bin .mod (.bin .mul (.bin .mod (.bin .add (.bin .add (.bin .mul (.var 3) (.bin .add (.bin .fdiv (.var 3) (.int 1009)) (.int 3))) (.bin .mul (.int 31) (.var 1))) (.var 2)) (.int 2147483629)) (.int 48271)) (.int 1000000007)))
 .nil))
/- slots of _law_draws: 0 _law_cell_here, 1 _law_many, 2 _law_salt, 3 _law_found, 4 _law_rest, 5 _law_k -/
def b__law_draws_1 : Ss :=
 (.cons (.ife (.cmp .gt (.var 4) (.int 0)) (.cons (.ex (.meth .append (.var 3) (.cons (.bin .mod (.var 4) (.int 64)) .nil)))
 (.cons (.set 4 (.bin .fdiv (.var 4) (.int 64)))
 .nil)) (.cons (.ex (.meth .append (.var 3) (.cons (.call "_law_mixed" (.cons (.var 0) (.cons (.var 5) (.cons (.var 2) .nil)))) .nil)))
 .nil))
 .nil)
def b__law_draws : Ss :=
 (.cons (.set 3 (.list .nil))
 (.cons (.set 4 (.int 0))
 (.cons (.ife (.cmp .ge (.var 0) (.bin .pow (.int 10) (.int 18))) (.cons (.set 4 (.var 0))
 .nil) .nil)
 (.cons (.forr (.name 5) (.range (.cons (.var 1) .nil)) b__law_draws_1)
 (.cons (.ret (.var 3))
 .nil)))))
/- slots of _law_size: 0 _law_cell_here, 1 _law_salt, 2 _law_most, 3 _law_draws_here, 4 _law_size_here -/
def b__law_size : Ss :=
 (.cons (.set 3 (.frz (.call "_law_draws" (.cons (.var 0) (.cons (.int 3) (.cons (.var 1) .nil))))))
 (.cons (.set 4 (.bin .mod (.bin .add (.ix (.var 3) (.int 0)) (.bin .mul (.int 64) (.ix (.var 3) (.int 1)))) (.bin .add (.var 2) (.int 1))))
 (.cons (.ife (.cmp .eq (.bin .mod (.ix (.var 3) (.int 2)) (.int 3)) (.int 0)) (.cons (.ret (.bin .mod (.var 4) (.int 7)))
 .nil) .nil)
 (.cons (.ret (.var 4))
 .nil))))
/- slots of _law_same: 0 _law_found, 1 _law_due, 2 _law_k -/
def b__law_same_1 : Ss :=
 (.cons (.ife (.not (.call "_law_same" (.cons (.ix (.var 0) (.var 2)) (.cons (.ix (.var 1) (.var 2)) .nil)))) (.cons (.ret (.bl false))
 .nil) .nil)
 .nil)
def b__law_same : Ss :=
 (.cons (.ife (.isi .tup (.var 1)) (.cons (.ife (.or (.cons (.not (.isi .tup (.var 0))) (.cons (.cmp .ne (.blt .len (.cons (.var 0) .nil)) (.blt .len (.cons (.var 1) .nil))) .nil))) (.cons (.ret (.bl false))
 .nil) .nil)
 (.cons (.forr (.name 2) (.range (.cons (.blt .len (.cons (.var 1) .nil)) .nil)) b__law_same_1)
 (.cons (.ret (.bl true))
 .nil))) .nil)
 (.cons (.ife (.cmp .is (.var 1) .non) (.cons (.ret (.cmp .is (.var 0) .non))
 .nil) .nil)
 (.cons (.ife (.isi .bool (.var 1)) (.cons (.ret (.and (.cons (.isi .bool (.var 0)) (.cons (.cmp .eq (.var 0) (.var 1)) .nil))))
 .nil) .nil)
 (.cons (.ife (.isi .int (.var 1)) (.cons (.ret (.and (.cons (.isi .int (.var 0)) (.cons (.not (.isi .bool (.var 0))) (.cons (.cmp .eq (.var 0) (.var 1)) .nil)))))
 .nil) .nil)
 (.cons (.ret (.and (.cons (.isi .str (.var 0)) (.cons (.cmp .eq (.var 0) (.var 1)) .nil))))
 .nil)))))
/- slots of _law_pool: 0 _law_cell_here, 1 _law_many, 2 _law_salt, 3 _law_rest, 4 _law_found, 5 _law_d, 6 _law_at -/
def b__law_pool_1 : Ss :=
 (.cons (.set 6 (.bin .mod (.var 5) (.blt .len (.cons (.var 3) .nil))))
 (.cons (.set 4 (.bin .add (.var 4) (.ix (.var 3) (.var 6))))
 (.cons (.set 3 (.bin .add (.slice0 (.var 3) (.var 6)) (.slice1 (.var 3) (.bin .add (.var 6) (.int 1)))))
 .nil)))
def b__law_pool : Ss :=
 (.cons (.set 3 (.str [65, 66, 67, 68, 69, 70, 71, 72, 73, 74, 75, 76, 77, 78, 79, 80, 81, 82, 83, 84, 85, 86, 87, 88, 89, 90, 97, 98, 99, 100, 101, 102, 103, 104, 105, 106, 107, 108, 109, 110, 111, 112, 113, 114, 115, 116, 117, 118, 119, 120, 121, 122]))
 (.cons (.set 4 (.str []))
 (.cons (.forr (.name 5) (.val (.call "_law_draws" (.cons (.var 0) (.cons (.var 1) (.cons (.var 2) .nil))))) b__law_pool_1)
 (.cons (.ret (.var 4))
 .nil))))
/- slots of _law_marks: 0 _law_pool_here, 1 _law_number, 2 _law_k -/
def x__law_marks_1 : E :=
 (.ix (.var 0) (.var 2))
def y__law_marks_1 : Es :=
 (.cons (.cmp .eq (.bin .band (.bin .shr (.var 1) (.var 2)) (.int 1)) (.int 1)) .nil)
def b__law_marks : Ss :=
 (.cons (.ret (.meth .join (.str []) (.cons (.blt .sorted (.cons (.lc x__law_marks_1 (.name 2) (.range (.cons (.blt .len (.cons (.var 0) .nil)) .nil)) y__law_marks_1) .nil)) .nil)))
 .nil)
/- slots of _law_wood: 0 _law_draws_here, 1 _law_pool_here, 2 _law_most, 3 _law_found, 4 _law_high, 5 _law_d, 6 _law_branches, 7 _law_many -/
def b__law_wood_1 : Ss :=
 (.cons (.set 6 (.bin .mod (.var 5) (.int 4)))
 (.cons (.ife (.cmp .gt (.bin .fdiv (.bin .add (.var 6) (.int 1)) (.int 2)) (.var 4)) (.cons (.set 6 (.int 0))
 .nil) .nil)
 (.cons (.ife (.and (.cons (.cmp .gt (.bin .sub (.bin .add (.bin .add (.blt .len (.cons (.var 3) .nil)) (.var 4)) (.int 1)) (.bin .fdiv (.bin .add (.var 6) (.int 1)) (.int 2))) (.var 2)) (.cons (.cmp .gt (.var 4) (.int 1)) .nil))) (.cons (.set 6 (.int 3))
 .nil) .nil)
 (.cons (.set 7 (.bin .fdiv (.bin .add (.var 6) (.int 1)) (.int 2)))
 (.cons (.ife (.cmp .le (.bin .sub (.bin .add (.bin .add (.blt .len (.cons (.var 3) .nil)) (.var 4)) (.int 1)) (.var 7)) (.var 2)) (.cons (.ex (.meth .append (.var 3) (.cons (.tup (.cons (.var 6) (.cons (.call "_law_marks" (.cons (.var 1) (.cons (.bin .mod (.bin .fdiv (.var 5) (.int 4)) (.int 16)) .nil))) .nil))) .nil)))
 (.cons (.set 4 (.bin .sub (.bin .add (.var 4) (.int 1)) (.var 7)))
 .nil)) .nil)
 .nil)))))
def t__law_wood_2 : E :=
 (.cmp .gt (.var 4) (.int 1))
def b__law_wood_3 : Ss :=
 (.cons (.ex (.meth .append (.var 3) (.cons (.tup (.cons (.int 3) (.cons (.ix (.ix (.var 3) (.bin .sub (.var 4) (.int 1))) (.int 1)) .nil))) .nil)))
 (.cons (.set 4 (.bin .sub (.var 4) (.int 1)))
 .nil))
def b__law_wood : Ss :=
 (.cons (.set 3 (.list .nil))
 (.cons (.set 4 (.int 0))
 (.cons (.forr (.name 5) (.val (.var 0)) b__law_wood_1)
 (.cons (.whil t__law_wood_2 b__law_wood_3)
 (.cons (.ret (.blt .tuple (.cons (.var 3) .nil)))
 .nil)))))
end Pv

/-! The evaluator's rows, as simp reads them. -/
namespace Pv
open PySem
def optR (o : Option Bool) (s : Store) : R Bool := match o with
  | some b => .ok b s
  | none => .err
def optV (o : Option Bool) (s : Store) : R Val := match o with
  | some b => .ok (.d (.bl b)) s
  | none => .err
@[simp] theorem optR_some (b : Bool) (s : Store) : optR (some b) s = .ok b s := nr rfl
@[simp] theorem optV_some (b : Bool) (s : Store) : optV (some b) s = .ok (.d (.bl b)) s := nr rfl
def SR.seq (r : SR) (f : Env → Store → SR) : SR := match r with
  | .nx e s => f e s
  | r => r
@[simp] theorem seq_nx (e : Env) (s : Store) (f : Env → Store → SR) : (SR.nx e s).seq f = f e s := nr rfl
@[simp] theorem seq_rt (v : Val) (s : Store) (f : Env → Store → SR) : (SR.rt v s).seq f = .rt v s := nr rfl
@[simp] theorem seq_ct (e : Env) (s : Store) (f : Env → Store → SR) : (SR.ct e s).seq f = .ct e s := nr rfl
@[simp] theorem seq_exc (c : String) (e : Env) (s : Store) (f : Env → Store → SR) : (SR.exc c e s).seq f = .exc c e s := nr rfl
def R.test (r : R Bool) (env : Env) (f g : Store → SR) : SR := match r with
  | .ok true s => f s
  | .ok false s => g s
  | .exc c s => .exc c env s
  | .err => .err
@[simp] theorem test_ok (b : Bool) (s : Store) (env : Env) (f g : Store → SR) : (R.ok b s).test env f g = if b = true then f s else g s := by cases b <;> rfl
@[simp] theorem test_exc (c : String) (s : Store) (env : Env) (f g : Store → SR) : (R.exc c s).test env f g = .exc c env s := nr rfl
def R.setR (r : R Val) (i : Nat) (env : Env) : SR := match r with
  | .ok (.new xs) s1 => .nx (env.set i (some (.ref s1.length))) (s1 ++ [.lst xs])
  | .ok v s1 => .nx (env.set i (some v)) s1
  | .exc c s1 => .exc c env s1
  | .err => .err
@[simp] theorem setR_d (d : D) (s : Store) (i : Nat) (env : Env) : (R.ok (.d d) s).setR i env = .nx (env.set i (some (.d d))) s := nr rfl
@[simp] theorem setR_ref (j : Nat) (s : Store) (i : Nat) (env : Env) : (R.ok (.ref j) s).setR i env = .nx (env.set i (some (.ref j))) s := nr rfl
@[simp] theorem setR_new (xs : List D) (s : Store) (i : Nat) (env : Env) : (R.ok (.new xs) s).setR i env = .nx (env.set i (some (.ref s.length))) (s ++ [.lst xs]) := nr rfl
@[simp] theorem setR_exc (c : String) (s : Store) (i : Nat) (env : Env) : (R.exc c s).setR i env = .exc c env s := nr rfl
def R.asgR (r : R Val) (tg : Tg) (env : Env) : SR := match r with
  | .ok (.d d) s1 => match bindT tg d env with
    | some e1 => .nx e1 s1
    | none => .err
  | .exc c s1 => .exc c env s1
  | _ => .err
@[simp] theorem asgR_d (d : D) (s : Store) (tg : Tg) (env : Env) : (R.ok (.d d) s).asgR tg env = match bindT tg d env with | some e1 => .nx e1 s | none => .err := nr rfl
@[simp] theorem asgR_exc (c : String) (s : Store) (tg : Tg) (env : Env) : (R.exc c s).asgR tg env = .exc c env s := nr rfl
def R.parR (r : R (Val × Val)) (i j : Nat) (env : Env) : SR := match r with
  | .ok (.d x, .d y) s1 => .nx ((env.set i (some (.d x))).set j (some (.d y))) s1
  | .exc c s1 => .exc c env s1
  | _ => .err
@[simp] theorem parR_ok (x y : D) (s : Store) (i j : Nat) (env : Env) : (R.ok (Val.d x, Val.d y) s).parR i j env = .nx ((env.set i (some (.d x))).set j (some (.d y))) s := nr rfl
def R.drop (r : R Val) (env : Env) : SR := match r with
  | .ok _ s1 => .nx env s1
  | .exc c s1 => .exc c env s1
  | .err => .err
@[simp] theorem drop_ok (v : Val) (s : Store) (env : Env) : (R.ok v s).drop env = .nx env s := nr rfl
@[simp] theorem drop_exc (c : String) (s : Store) (env : Env) : (R.exc c s : R Val).drop env = .exc c env s := nr rfl
def R.retR (r : R Val) (env : Env) : SR := match r with
  | .ok v s1 => .rt v s1
  | .exc c s1 => .exc c env s1
  | .err => .err
@[simp] theorem retR_ok (v : Val) (s : Store) (env : Env) : (R.ok v s).retR env = .rt v s := nr rfl
@[simp] theorem retR_exc (c : String) (s : Store) (env : Env) : (R.exc c s : R Val).retR env = .exc c env s := nr rfl
def R.walk (r : R Walk) (env : Env) (f : Walk → Store → SR) : SR := match r with
  | .ok w s1 => f w s1
  | .exc c s1 => .exc c env s1
  | .err => .err
@[simp] theorem walk_ok' (w : Walk) (s : Store) (env : Env) (f : Walk → Store → SR) : (R.ok w s).walk env f = f w s := nr rfl
@[simp] theorem walk_exc (c : String) (s : Store) (env : Env) (f : Walk → Store → SR) : (R.exc c s : R Walk).walk env f = .exc c env s := nr rfl
def D.shut (o : Option (D × Store)) : R Val := match o with
  | some (d, s2) => .ok (.d d) s2
  | none => .err
@[simp] theorem shut_some (d : D) (s : Store) : D.shut (some (d, s)) = .ok (.d d) s := nr rfl

def guardL (ds : List D) (r : R Val) : R Val := if ds.length ≤ line then r else .err
@[simp] theorem guardL_ok (ds : List D) (r : R Val) (h : ds.length ≤ line) : guardL ds r = r := if_pos h
def appG (xs : List D) (r : R Val) : R Val := if xs.length < line then r else .err
@[simp] theorem appG_ok (xs : List D) (r : R Val) (h : xs.length < line) : appG xs r = r := if_pos h
section
variable (cx : Cxt) (env : Env) (s : Store)
@[simp] theorem e_var (i : Nat) : evE cx (.var i) env s = match env[i]? with | some (some v) => .ok v s | _ => .err := by rw [evE] <;> rfl
@[simp] theorem e_int (i : Int) : evE cx (.int i) env s = .ok (.d (.int i)) s := by rw [evE]
@[simp] theorem e_str (x : Tx) : evE cx (.str x) env s = .ok (.d (.str x)) s := by rw [evE]
@[simp] theorem e_bl (b : Bool) : evE cx (.bl b) env s = .ok (.d (.bl b)) s := by rw [evE]
@[simp] theorem e_non : evE cx .non env s = .ok (.d .non) s := by rw [evE]
@[simp] theorem e_glob (g : String) : evE cx (.glob g) env s = match cx.glob g with | some d => .ok (.d d) s | none => .err := by rw [evE] <;> rfl
@[simp] theorem e_bin (o : Bop) (a b : E) : evE cx (.bin o a b) env s = (evE cx a env s).bind fun x s1 => (evE cx b env s1).bind fun y s2 => binV o x y s2 := by rw [evE]
@[simp] theorem e_neg (a : E) : evE cx (.neg a) env s = (evE cx a env s).bind fun x s1 => match x with | .d (.int i) => .ok (.d (.int (-i))) s1 | _ => .err := by rw [evE] <;> rfl
@[simp] theorem e_inv (a : E) : evE cx (.inv a) env s = (evE cx a env s).bind fun x s1 => match x with | .d (.int i) => .ok (.d (.int (Builtin.bitNot i))) s1 | _ => .err := by rw [evE] <;> rfl
@[simp] theorem e_not (a : E) : evE cx (.not a) env s = (evE cx a env s).bind fun x s1 => match x with | .d (.bl b) => .ok (.d (.bl (!b))) s1 | _ => .err := by rw [evE] <;> rfl
@[simp] theorem e_cmp (o : Cop) (a b : E) : evE cx (.cmp o a b) env s = (evE cx a env s).bind fun x s1 => (evE cx b env s1).bind fun y s2 => optV (cmpV o x y s2) s2 := by rw [evE] <;> rfl
@[simp] theorem e_chain (o1 o2 : Cop) (a b c : E) : evE cx (.chain o1 o2 a b c) env s = (evE cx a env s).bind fun x s1 => (evE cx b env s1).bind fun y s2 => match cmpV o1 x y s2 with
    | some true => (evE cx c env s2).bind fun z s3 => optV (cmpV o2 y z s3) s3
    | some false => .ok (.d (.bl false)) s2
    | none => .err := by rw [evE] <;> rfl
@[simp] theorem e_and (es : Es) : evE cx (.and es) env s = evAnd cx es env s := by rw [evE]
@[simp] theorem e_or (es : Es) : evE cx (.or es) env s = evOr cx es env s := by rw [evE]
@[simp] theorem e_ite (t a b : E) : evE cx (.ite t a b) env s = (evT cx t env s).bind fun k s1 => if k = true then evE cx a env s1 else evE cx b env s1 := by rw [evE]
@[simp] theorem e_tup (es : Es) : evE cx (.tup es) env s = (evEs cx es env s).bind fun vs s1 => match toDs vs s1 with
    | some (ds, s2) => guardL ds (.ok (.d (.tup ds)) s2)
    | none => .err := by rw [evE] <;> rfl
@[simp] theorem e_list (es : Es) : evE cx (.list es) env s = (evEs cx es env s).bind fun vs s1 => match toDs vs s1 with
    | some (ds, s2) => guardL ds (.ok (.new ds) s2)
    | none => .err := by rw [evE] <;> rfl
@[simp] theorem e_ix (a i : E) : evE cx (.ix a i) env s = (evE cx a env s).bind fun x s1 => (evE cx i env s1).bind fun y s2 => ixV x y s2 := by rw [evE]
@[simp] theorem e_slice (a lo hi : E) : evE cx (.slice a lo hi) env s = (evE cx a env s).bind fun x s1 => (evE cx lo env s1).bind fun l s2 => match l with
    | .d (.int i) => (evE cx hi env s2).bind fun h s3 => match h with
      | .d (.int j) => sliceV x (some i) (some j) s3
      | _ => .err
    | _ => .err := by rw [evE] <;> rfl
@[simp] theorem e_slice0 (a hi : E) : evE cx (.slice0 a hi) env s = (evE cx a env s).bind fun x s1 => (evE cx hi env s1).bind fun h s2 => match h with
    | .d (.int j) => sliceV x none (some j) s2
    | _ => .err := by rw [evE] <;> rfl
@[simp] theorem e_slice1 (a lo : E) : evE cx (.slice1 a lo) env s = (evE cx a env s).bind fun x s1 => (evE cx lo env s1).bind fun l s2 => match l with
    | .d (.int i) => sliceV x (some i) none s2
    | _ => .err := by rw [evE] <;> rfl
@[simp] theorem e_rev (a : E) : evE cx (.rev a) env s = (evE cx a env s).bind fun x s1 => revV x s1 := by rw [evE]
theorem e_call' (f : String) (es : Es) : evE cx (.call f es) env s = if cx.has f = true then (evEs cx es env s).bind fun vs s1 => cx.call f (vs.map argV) s1 else .err := by rw [evE]
@[simp] theorem e_call (Δ : Prog) (m d : Nat) (f : String) (es : Es) : evE (cxΔ Δ m d) (.call f es) env s = if (cxΔ Δ m d).has f = true then (evEs (cxΔ Δ m d) es env s).bind fun vs s1 => Φ Δ m d f (vs.map argV) s1 else .err := by rw [evE] <;> rfl
@[simp] theorem e_blt (f : Blt) (es : Es) : evE cx (.blt f es) env s = (evEs cx es env s).bind fun vs s1 => bltV f vs s1 := by rw [evE]
@[simp] theorem e_meth (mm : Mt) (a : E) (es : Es) : evE cx (.meth mm a es) env s = (evE cx a env s).bind fun x s1 => if recvOk mm x s1 = true then (evEs cx es env s1).bind fun vs s2 => methV mm x vs s2 else .err := by rw [evE]
@[simp] theorem e_lc (elt : E) (tg : Tg) (it : It) (ifs : Es) : evE cx (.lc elt tg it ifs) env s = (evI cx it env s).bind fun w s1 =>
      (lcL w tg (fun e s => evC cx ifs e s) (fun e s => evE cx elt e s) (wipeE env (slotsT tg)) w.items [] s1).bind fun ds s2 => .ok (.new ds) s2 := by rw [evE]
@[simp] theorem e_frz (a : E) : evE cx (.frz a) env s = (evE cx a env s).bind fun v s1 => D.shut (toD v s1) := by rw [evE] <;> rfl
@[simp] theorem e_isi (t : Ty) (a : E) : evE cx (.isi t a) env s = (evE cx a env s).bind fun v s1 => optV (isiV t v) s1 := by rw [evE] <;> rfl
@[simp] theorem es_nil : evEs cx .nil env s = .ok [] s := by rw [evEs]
@[simp] theorem es_cons (e : E) (es : Es) : evEs cx (.cons e es) env s = (evE cx e env s).bind fun v s1 => (evEs cx es env s1).bind fun vs s2 => .ok (v :: vs) s2 := by rw [evEs]
@[simp] theorem and_one (e : E) : evAnd cx (.cons e .nil) env s = evE cx e env s := by rw [evAnd]
@[simp] theorem and_more (e e1 : E) (es : Es) : evAnd cx (.cons e (.cons e1 es)) env s = (evE cx e env s).bind fun x s1 => match x with
      | .d (.bl true) => evAnd cx (.cons e1 es) env s1
      | .d (.bl false) => .ok (.d (.bl false)) s1
      | _ => .err := by rw [evAnd] <;> rfl
@[simp] theorem or_one (e : E) : evOr cx (.cons e .nil) env s = evE cx e env s := by rw [evOr]
@[simp] theorem or_more (e e1 : E) (es : Es) : evOr cx (.cons e (.cons e1 es)) env s = (evE cx e env s).bind fun x s1 => match x with
      | .d (.bl true) => .ok (.d (.bl true)) s1
      | .d (.bl false) => evOr cx (.cons e1 es) env s1
      | _ => .err := by rw [evOr] <;> rfl
@[simp] theorem i_val' (e : E) : evI cx (.val e) env s = (evE cx e env s).bind fun v s1 => walkV v s1 := by rw [evI]
@[simp] theorem i_enum' (e : E) : evI cx (.enum e) env s = (evE cx e env s).bind fun v s1 => enumV v s1 := by rw [evI]
@[simp] theorem i_range' (es : Es) : evI cx (.range es) env s = (evEs cx es env s).bind fun vs s1 => rangeV vs s1 := by rw [evI]
@[simp] theorem t_not' (a : E) : evT cx (.not a) env s = (evT cx a env s).bind fun k s1 => .ok (!k) s1 := by rw [evT]
@[simp] theorem t_and' (es : Es) : evT cx (.and es) env s = evTA cx es env s := by rw [evT]
@[simp] theorem t_or' (es : Es) : evT cx (.or es) env s = evTO cx es env s := by rw [evT]
@[simp] theorem t_cmp' (o : Cop) (a b : E) : evT cx (.cmp o a b) env s = (evE cx a env s).bind fun x s1 => (evE cx b env s1).bind fun y s2 => optR (cmpV o x y s2) s2 := by rw [evT] <;> rfl
@[simp] theorem t_chain' (o1 o2 : Cop) (a b c : E) : evT cx (.chain o1 o2 a b c) env s = (evE cx a env s).bind fun x s1 => (evE cx b env s1).bind fun y s2 => match cmpV o1 x y s2 with
    | some true => (evE cx c env s2).bind fun z s3 => optR (cmpV o2 y z s3) s3
    | some false => .ok false s2
    | none => .err := by rw [evT] <;> rfl
@[simp] theorem t_isi' (t : Ty) (a : E) : evT cx (.isi t a) env s = (evE cx a env s).bind fun v s1 => optR (isiV t v) s1 := by rw [evT] <;> rfl
@[simp] theorem t_var' (i : Nat) : evT cx (.var i) env s = match env[i]? with | some (some v) => optR (truV v s) s | _ => .err := by rw [evT] <;> rfl
@[simp] theorem t_ix' (a i : E) : evT cx (.ix a i) env s = (evE cx a env s).bind fun x s1 => (evE cx i env s1).bind fun y s2 => (ixV x y s2).bind fun v s3 => optR (truV v s3) s3 := by rw [evT] <;> rfl
@[simp] theorem t_call' (Δ : Prog) (m d : Nat) (f : String) (es : Es) : evT (cxΔ Δ m d) (.call f es) env s = if (cxΔ Δ m d).has f = true then (evEs (cxΔ Δ m d) es env s).bind fun vs s1 => (Φ Δ m d f (vs.map argV) s1).bind fun v s2 => optR (truV v s2) s2 else .err := by rw [evT] <;> rfl
@[simp] theorem t_blt' (f : Blt) (es : Es) : evT cx (.blt f es) env s = (evEs cx es env s).bind fun vs s1 => (bltV f vs s1).bind fun v s2 => optR (truV v s2) s2 := by rw [evT] <;> rfl
@[simp] theorem ta_nil' : evTA cx .nil env s = .ok true s := by rw [evTA]
@[simp] theorem ta_cons' (e : E) (es : Es) : evTA cx (.cons e es) env s = (evT cx e env s).bind fun k s1 => if k = true then evTA cx es env s1 else .ok false s1 := by rw [evTA]
@[simp] theorem to_nil' : evTO cx .nil env s = .ok false s := by rw [evTO]
@[simp] theorem to_cons' (e : E) (es : Es) : evTO cx (.cons e es) env s = (evT cx e env s).bind fun k s1 => if k = true then .ok true s1 else evTO cx es env s1 := by rw [evTO]
@[simp] theorem c_nil' : evC cx .nil env s = .ok true s := by rw [evC]
@[simp] theorem c_one' (e : E) : evC cx (.cons e .nil) env s = evT cx e env s := by rw [evC]
@[simp] theorem s_set' (i : Nat) (e : E) : evS cx (.set i e) env s = (evE cx e env s).setR i env := by rw [evS] <;> rfl
@[simp] theorem s_asg' (tg : Tg) (e : E) : evS cx (.asg tg e) env s = (evE cx e env s).asgR tg env := by rw [evS] <;> rfl
@[simp] theorem s_par' (i j : Nat) (a b : E) : evS cx (.par i j a b) env s = ((evE cx a env s).bind fun x s1 => (evE cx b env s1).bind fun y s2 => .ok (x, y) s2).parR i j env := by
  rw [evS]
  generalize ((evE cx a env s).bind fun x s1 => (evE cx b env s1).bind fun y s2 => R.ok (x, y) s2) = z
  rcases z with ⟨⟨x, y⟩, s1⟩ | ⟨c, s1⟩ | _
  · cases x <;> cases y <;> rfl
  · rfl
  · rfl
@[simp] theorem s_setix' (a i v : E) : evS cx (.setix a i v) env s = ((evE cx v env s).bind fun x s1 => (evE cx a env s1).bind fun o s2 => (evE cx i env s2).bind fun k s3 => setV x o k s3).drop env := by rw [evS] <;> rfl
@[simp] theorem s_augix' (a i e : E) : evS cx (.augix a i e) env s = ((evE cx a env s).bind fun o s1 => (evE cx i env s1).bind fun k s2 => match o, k with
      | .ref r, .d (.int n) => match s2[r]? with
        | some (.lst xs) => match xs[n.toNat]? with
          | some (.int x) => if 0 ≤ n then (evE cx e env s2).bind fun y s3 => match y with
              | .d (.int j) => setV (.d (.int (x + j))) (.ref r) (.d (.int n)) s3
              | _ => .err
            else .err
          | _ => .err
        | _ => .err
      | _, _ => .err).drop env := by rw [evS] <;> rfl
@[simp] theorem s_ex' (e : E) : evS cx (.ex e) env s = (evE cx e env s).drop env := by rw [evS] <;> rfl
@[simp] theorem s_ret' (e : E) : evS cx (.ret e) env s = (evE cx e env s).retR env := by rw [evS] <;> rfl
@[simp] theorem s_retN' : evS cx .retN env s = .rt (.d .non) s := by rw [evS]
@[simp] theorem s_ife' (t : E) (a b : Ss) : evS cx (.ife t a b) env s = (evT cx t env s).test env (fun s1 => evSs cx a env s1) (fun s1 => evSs cx b env s1) := by rw [evS] <;> rfl
@[simp] theorem s_for' (tg : Tg) (it : It) (b : Ss) : evS cx (.forr tg it b) env s = (evI cx it env s).walk env fun w s1 => forL w s1.length tg (fun e s => evSs cx b e s) w.items env s1 := by rw [evS] <;> rfl
@[simp] theorem s_whil' (t : E) (b : Ss) : evS cx (.whil t b) env s = whileL s.length (fun e s => evT cx t e s) (fun e s => evSs cx b e s) cx.fuel env s := by rw [evS]
@[simp] theorem s_rais' (c : String) : evS cx (.rais c) env s = if cx.isx c = true then .exc c env s else .err := by rw [evS]
@[simp] theorem s_pass' : evS cx .pass env s = .nx env s := by rw [evS]
@[simp] theorem s_cont' : evS cx .cont env s = .ct env s := by rw [evS]
@[simp] theorem ss_nil' : evSs cx .nil env s = .nx env s := by rw [evSs]
@[simp] theorem ss_cons' (st : S) (ss : Ss) : evSs cx (.cons st ss) env s = (evS cx st env s).seq (evSs cx ss) := by rw [evSs] <;> rfl
end

@[simp] theorem cx_isx (Δ : Prog) (m n : Nat) (c : String) : (cxΔ Δ m n).isx c = Δ.isx c := nr rfl
@[simp] theorem cx_sub (Δ : Prog) (m n : Nat) (c t : String) : (cxΔ Δ m n).sub c t = Δ.sub c t := nr rfl
@[simp] theorem cx_hnd (Δ : Prog) (m n : Nat) (c t : String) : (cxΔ Δ m n).hnd c t = Δ.hnd c t := nr rfl
@[simp] theorem cx_knd (Δ : Prog) (m n : Nat) (f : String) : (cxΔ Δ m n).knd f = Δ.knd f := nr rfl
/-- a body that runs through -/
theorem tryN {cx : Cxt} {b : Ss} {c : String} {i : Nat} {h : List HS} {env e1 : Env} {s s1 : Store} (hc : (cx.hnd c c).isSome = true) (e : evSs cx b env s = .nx e1 s1) : evS cx (.trye b c i h) env s = .nx e1 s1 := by
  rw [evS, if_pos hc, e]
theorem tryX {cx : Cxt} {b : Ss} {c c' : String} {i : Nat} {h : List HS} {env e1 : Env} {s s1 : Store} (hc : (cx.hnd c c).isSome = true) (e : evSs cx b env s = .exc c' e1 s1) (hh : cx.hnd c' c = some true) (hi : i < e1.length) :
    evS cx (.trye b c i h) env s = evHS cx c' h (e1.set i none) s1 := by
  rw [evS, if_pos hc, e]
  simp only [hh]
  rw [if_pos hi]
/-- return ('refused', kinds(e)) -/
theorem hs_kinds {cx : Cxt} {c f : String} {x : Tx} {ts : List String} {bs : List D} {env : Env} {s : Store} (hk : cx.knd f = some ts) (hb : subs cx c ts = some bs) (hl : bs.length ≤ line) :
    evHS cx c [.ret (.tup (.cons (.str x) (.cons (.kinds f) .nil)))] env s = .rt (.d (.tup [.str x, .tup bs])) s := by
  have h1 : evH cx c env (.kinds f) = some (.tup bs) := by
    rw [evH, hk]
    simp only [hb]
    rw [if_pos hl]
  have h2 : evHs cx c env (.cons (.str x) (.cons (.kinds f) .nil)) = some [.str x, .tup bs] := by
    rw [evHs, evH]
    simp only []
    rw [evHs, h1]
    simp only []
    rw [evHs]
  have h3 : evH cx c env (.tup (.cons (.str x) (.cons (.kinds f) .nil))) = some (.tup [.str x, .tup bs]) := by
    rw [evH, h2]
    simp only []
    exact if_pos (show 2 ≤ line by decide)
  rw [evHS, h3]
theorem seqE {cx : Cxt} {st : S} {ss : Ss} {env e1 : Env} {s s1 : Store} (h : evS cx st env s = .nx e1 s1) : evSs cx (.cons st ss) env s = evSs cx ss e1 s1 := by
  rw [ss_cons', h, seq_nx]
theorem seqR {cx : Cxt} {st : S} {ss : Ss} {env : Env} {s s1 : Store} {v : Val} (h : evS cx st env s = .rt v s1) : evSs cx (.cons st ss) env s = .rt v s1 := by
  rw [ss_cons', h, seq_rt]
theorem ifT {cx : Cxt} {t : E} {a b : Ss} {env : Env} {s s1 : Store} (h : evT cx t env s = .ok true s1) : evS cx (.ife t a b) env s = evSs cx a env s1 := by
  rw [s_ife', h, test_ok, if_pos rfl]
theorem ifF {cx : Cxt} {t : E} {a b : Ss} {env : Env} {s s1 : Store} (h : evT cx t env s = .ok false s1) : evS cx (.ife t a b) env s = evSs cx b env s1 := by
  rw [s_ife', h, test_ok, if_neg (by simp)]
/-! ### operators -/
section
variable (s t : Store) (i j : Int) (x y : Tx) (xs ys : List D) (d : D) (r : Nat) (b : Bool)
@[simp] theorem bin_add : binV .add (.d (.int i)) (.d (.int j)) s = .ok (.d (.int (i + j))) s := nr rfl
@[simp] theorem bin_sub : binV .sub (.d (.int i)) (.d (.int j)) s = .ok (.d (.int (i - j))) s := nr rfl
@[simp] theorem bin_mul (h : okMul i j = true) : binV .mul (.d (.int i)) (.d (.int j)) s = .ok (.d (.int (i * j))) s := by
  show (match (if okMul i j = true then some (i * j) else none) with | some k => _ | none => _) = _
  rw [if_pos h]
theorem okDiv1 {j : Int} (h1 : 0 < j) (h2 : j < 1073741824) : okDiv j = true := by
  unfold okDiv
  rw [Bool.and_eq_true, decide_eq_true_eq, decide_eq_true_eq]
  refine ⟨h1, ?_⟩
  have : j.natAbs.log2 < 30 := (Nat.log2_lt (by omega)).2 (by show j.natAbs < 1073741824; omega)
  omega
theorem bin_fdiv' (h : okDiv j = true) : binV .fdiv (.d (.int i)) (.d (.int j)) s = .ok (.d (.int (i / j))) s := by
  show (match (if okDiv j = true then some (i / j) else none) with | some k => _ | none => _) = _
  rw [if_pos h]
@[simp] theorem bin_fdiv (h1 : 0 < j) (h2 : j < 1073741824) : binV .fdiv (.d (.int i)) (.d (.int j)) s = .ok (.d (.int (i / j))) s := bin_fdiv' s i j (okDiv1 h1 h2)
@[simp] theorem bin_mod (h : 0 < j) : binV .mod (.d (.int i)) (.d (.int j)) s = .ok (.d (.int (i % j))) s := by
  show (match (if 0 < j then some (i % j) else none) with | some k => _ | none => _) = _
  rw [if_pos h]
@[simp] theorem bin_pow (h : okPow i j = true) : binV .pow (.d (.int i)) (.d (.int j)) s = .ok (.d (.int (i ^ j.toNat))) s := by
  show (match (if okPow i j = true then some (i ^ j.toNat) else none) with | some k => _ | none => _) = _
  rw [if_pos h]
@[simp] theorem bin_shl (h : okShl i j = true) : binV .shl (.d (.int i)) (.d (.int j)) s = .ok (.d (.int (i * 2 ^ j.toNat))) s := by
  show (match (if okShl i j = true then some (i * 2 ^ j.toNat) else none) with | some k => _ | none => _) = _
  rw [if_pos h]
@[simp] theorem bin_shr (h : 0 ≤ j) : binV .shr (.d (.int i)) (.d (.int j)) s = .ok (.d (.int (i / 2 ^ j.toNat))) s := by
  show (match (if 0 ≤ j then some (i / 2 ^ j.toNat) else none) with | some k => _ | none => _) = _
  rw [if_pos h]
@[simp] theorem bin_band : binV .band (.d (.int i)) (.d (.int j)) s = .ok (.d (.int (Builtin.bitAnd i j))) s := nr rfl
@[simp] theorem bin_bor : binV .bor (.d (.int i)) (.d (.int j)) s = .ok (.d (.int (Builtin.bitOr i j))) s := nr rfl
@[simp] theorem bin_bxor : binV .bxor (.d (.int i)) (.d (.int j)) s = .ok (.d (.int (Builtin.bitXor i j))) s := nr rfl
@[simp] theorem bin_str (h : x.length + y.length ≤ line) : binV .add (.d (.str x)) (.d (.str y)) s = .ok (.d (.str (x ++ y))) s := if_pos h
@[simp] theorem bin_tup (h : xs.length + ys.length ≤ line) : binV .add (.d (.tup xs)) (.d (.tup ys)) s = .ok (.d (.tup (xs ++ ys))) s := if_pos h
/-- lists put together -/
def catR (a b : Option (List D)) (s : Store) : R Val := match a, b with
  | some a, some b => if a.length + b.length ≤ line then .ok (.new (a ++ b)) s else .err
  | _, _ => .err
@[simp] theorem catR_some (h : xs.length + ys.length ≤ line) : catR (some xs) (some ys) s = .ok (.new (xs ++ ys)) s := if_pos h
@[simp] theorem lo_d : lstOf (.d (.lst xs)) s = some xs := nr rfl
@[simp] theorem lo_new : lstOf (.new xs) s = some xs := nr rfl
@[simp] theorem lo_ref : lstOf (.ref r) s = (s[r]?).map Cell.items := nr rfl
@[simp] theorem so_tup : seqOf (.d (.tup xs)) s = some xs := nr rfl
@[simp] theorem so_d : seqOf (.d (.lst xs)) s = some xs := nr rfl
@[simp] theorem so_new : seqOf (.new xs) s = some xs := nr rfl
@[simp] theorem so_ref : seqOf (.ref r) s = (s[r]?).map Cell.items := nr rfl
@[simp] theorem pk_d : peek (.d d) s = some d := nr rfl
@[simp] theorem pk_new : peek (.new xs) s = some (.lst xs) := nr rfl
@[simp] theorem pk_ref : peek (.ref r) s = (s[r]?).map fun c => D.lst c.items := nr rfl
@[simp] theorem it_l : (Cell.lst xs).items = xs := nr rfl
@[simp] theorem it_f : (Cell.flst xs).items = xs := nr rfl
@[simp] theorem bin_rd (v : Nat) : binV .add (.ref v) (.d (.lst ys)) s = catR ((s[v]?).map Cell.items) (some ys) s := nr rfl
@[simp] theorem bin_rn (v : Nat) : binV .add (.ref v) (.new ys) s = catR ((s[v]?).map Cell.items) (some ys) s := nr rfl
@[simp] theorem bin_rr (v w : Nat) : binV .add (.ref v) (.ref w) s = catR ((s[v]?).map Cell.items) ((s[w]?).map Cell.items) s := nr rfl
@[simp] theorem bin_dr (w : Nat) : binV .add (.d (.lst xs)) (.ref w) s = catR (some xs) ((s[w]?).map Cell.items) s := nr rfl
@[simp] theorem bin_nr (w : Nat) : binV .add (.new xs) (.ref w) s = catR (some xs) ((s[w]?).map Cell.items) s := nr rfl
@[simp] theorem bin_dd : binV .add (.d (.lst xs)) (.d (.lst ys)) s = catR (some xs) (some ys) s := nr rfl
@[simp] theorem bin_dn : binV .add (.d (.lst xs)) (.new ys) s = catR (some xs) (some ys) s := nr rfl
@[simp] theorem bin_nd : binV .add (.new xs) (.d (.lst ys)) s = catR (some xs) (some ys) s := nr rfl
@[simp] theorem bin_nn : binV .add (.new xs) (.new ys) s = catR (some xs) (some ys) s := nr rfl
@[simp] theorem bin_reps (x : Tx) : binV .mul (.d (.str x)) (.d (.int i)) s = if x.length * i.toNat ≤ line ∧ i < 9223372036854775808 ∧ -9223372036854775808 ≤ i then .ok (.d (.str (List.replicate i.toNat x).flatten)) s else .err := nr rfl
@[simp] theorem bin_rep : binV .mul (.new xs) (.d (.int i)) s = if xs.length * i.toNat ≤ line ∧ i < 9223372036854775808 ∧ -9223372036854775808 ≤ i then .ok (.new (List.replicate i.toNat xs).flatten) s else .err := nr rfl
@[simp] theorem td_d : toD (.d d) s = some (d, s) := nr rfl
@[simp] theorem td_new : toD (.new xs) s = some (.lst xs, s) := nr rfl
@[simp] theorem td_ref : toD (.ref r) s = match s[r]? with
    | some (.lst xs) => some (.lst xs, s.set r (.flst xs))
    | some (.flst xs) => some (.lst xs, s)
    | none => none := by unfold toD; rfl
@[simp] theorem tds_nil : toDs [] s = some ([], s) := nr rfl
@[simp] theorem tds_cons (v : Val) (vs : List Val) : toDs (v :: vs) s = match toD v s with
    | none => none
    | some (d, s1) => match toDs vs s1 with
      | none => none
      | some (ds, s2) => some (d :: ds, s2) := by rw [toDs] <;> rfl
@[simp] theorem av_d : argV (.d d) = .d d := nr rfl
@[simp] theorem av_ref : argV (.ref r) = .ref r := nr rfl
@[simp] theorem av_new : argV (.new xs) = .d (.lst xs) := nr rfl
@[simp] theorem cmp_lt : cmpV .lt (.d (.int i)) (.d (.int j)) s = some (decide (i < j)) := nr rfl
@[simp] theorem cmp_le : cmpV .le (.d (.int i)) (.d (.int j)) s = some (decide (i ≤ j)) := nr rfl
@[simp] theorem cmp_gt : cmpV .gt (.d (.int i)) (.d (.int j)) s = some (decide (j < i)) := nr rfl
@[simp] theorem cmp_ge : cmpV .ge (.d (.int i)) (.d (.int j)) s = some (decide (j ≤ i)) := nr rfl
@[simp] theorem cmp_lts : cmpV .lt (.d (.str x)) (.d (.str y)) s = some (decide (x < y)) := nr rfl
@[simp] theorem cmp_eqi : cmpV .eq (.d (.int i)) (.d (.int j)) s = some (decide (i = j)) := by
  have e : decide ((D.int i) = (D.int j)) = decide (i = j) := decide_eq_decide.mpr ⟨fun h => by cases h; rfl, fun h => by rw [h]⟩
  exact congrArg some e
@[simp] theorem cmp_nei : cmpV .ne (.d (.int i)) (.d (.int j)) s = some (!decide (i = j)) := by
  have e : decide ((D.int i) = (D.int j)) = decide (i = j) := decide_eq_decide.mpr ⟨fun h => by cases h; rfl, fun h => by rw [h]⟩
  exact congrArg (fun z => some (!z)) e
@[simp] theorem cmp_eqs : cmpV .eq (.d (.str x)) (.d (.str y)) s = some (decide (x = y)) := by
  have e : decide ((D.str x) = (D.str y)) = decide (x = y) := decide_eq_decide.mpr ⟨fun h => by cases h; rfl, fun h => by rw [h]⟩
  exact congrArg some e
@[simp] theorem cmp_nes : cmpV .ne (.d (.str x)) (.d (.str y)) s = some (!decide (x = y)) := by
  have e : decide ((D.str x) = (D.str y)) = decide (x = y) := decide_eq_decide.mpr ⟨fun h => by cases h; rfl, fun h => by rw [h]⟩
  exact congrArg (fun z => some (!z)) e
@[simp] theorem cmp_eqb (a : Bool) : cmpV .eq (.d (.bl a)) (.d (.bl b)) s = some (decide (a = b)) := by
  have e : decide ((D.bl a) = (D.bl b)) = decide (a = b) := decide_eq_decide.mpr ⟨fun h => by cases h; rfl, fun h => by rw [h]⟩
  exact congrArg some e
@[simp] theorem cmp_neb (a : Bool) : cmpV .ne (.d (.bl a)) (.d (.bl b)) s = some (!decide (a = b)) := by
  have e : decide ((D.bl a) = (D.bl b)) = decide (a = b) := decide_eq_decide.mpr ⟨fun h => by cases h; rfl, fun h => by rw [h]⟩
  exact congrArg (fun z => some (!z)) e
@[simp] theorem cmp_isn : cmpV .is (.d .non) (.d .non) s = some true := nr rfl
@[simp] theorem cmp_isi : cmpV .is (.d (.int i)) (.d .non) s = some false := nr rfl
@[simp] theorem cmp_iss : cmpV .is (.d (.str x)) (.d .non) s = some false := nr rfl
@[simp] theorem cmp_isb : cmpV .is (.d (.bl b)) (.d .non) s = some false := nr rfl
@[simp] theorem cmp_ist : cmpV .is (.d (.tup xs)) (.d .non) s = some false := nr rfl
@[simp] theorem cmp_isl : cmpV .is (.d (.lst xs)) (.d .non) s = some false := nr rfl
@[simp] theorem cmp_isr : cmpV .is (.ref r) (.d .non) s = some false := nr rfl
@[simp] theorem cmp_nsn : cmpV .isnot (.d .non) (.d .non) s = some false := nr rfl
@[simp] theorem cmp_nsi : cmpV .isnot (.d (.int i)) (.d .non) s = some true := nr rfl
@[simp] theorem cmp_nss : cmpV .isnot (.d (.str x)) (.d .non) s = some true := nr rfl
@[simp] theorem cmp_nst : cmpV .isnot (.d (.tup xs)) (.d .non) s = some true := nr rfl
@[simp] theorem cmp_nsl : cmpV .isnot (.d (.lst xs)) (.d .non) s = some true := nr rfl
@[simp] theorem cmp_in : cmpV .isin (.d (.str [r])) (.d (.str y)) s = some (decide (r ∈ y)) := by
  simp only [cmpV, memV]
@[simp] theorem cmp_notin : cmpV .notin (.d (.str [r])) (.d (.str y)) s = some (!decide (r ∈ y)) := by
  simp only [cmpV, memV, Option.map_some]
theorem cmp_ini0 : cmpV .isin (.d (.int i)) (.d (.tup xs)) s = if xs.all flatD then some (inD (.int i) xs) else none := by
  simp [cmpV, memV, flatD]
@[simp] theorem cmp_ini : cmpV .isin (.d (.int i)) (.d (.tup xs)) s = if xs.all flatD = true then some (inD (.int i) xs) else none := by
  rw [cmp_ini0]
@[simp] theorem fl_i : flatD (.int i) = true := nr rfl
@[simp] theorem fl_s : flatD (.str x) = true := nr rfl
@[simp] theorem fl_n : flatD .non = true := nr rfl
@[simp] theorem fl_b : flatD (.bl b) = true := nr rfl
@[simp] theorem inD_nil (a : D) : inD a [] = false := nr rfl
@[simp] theorem inD_cons (a : D) : inD a (d :: xs) = (eqF d a || inD a xs) := nr rfl
@[simp] theorem eqF_ii : eqF (.int i) (.int j) = (i == j) := nr rfl
@[simp] theorem eqF_ss : eqF (.str x) (.str y) = (x == y) := nr rfl
/-- a piece of a list -/
def ixR (xs : Option (List D)) (i : Int) (s : Store) : R Val := match xs with
  | some xs => match L2.atI xs i with
    | some d => .ok (.d d) s
    | none => .err
  | none => .err
@[simp] theorem ixR_some : ixR (some xs) i s = match L2.atI xs i with | some d => .ok (.d d) s | none => .err := nr rfl
@[simp] theorem ix_str (h : x.length ≤ line) : ixV (.d (.str x)) (.d (.int i)) s = (match L2.atI x i with | some c => .ok (.d (.str [c])) s | none => .err) := if_pos h
@[simp] theorem ix_tup : ixV (.d (.tup xs)) (.d (.int i)) s = ixR (some xs) i s := nr rfl
@[simp] theorem ix_lst : ixV (.d (.lst xs)) (.d (.int i)) s = ixR (some xs) i s := nr rfl
@[simp] theorem ix_new : ixV (.new xs) (.d (.int i)) s = ixR (some xs) i s := nr rfl
@[simp] theorem ix_ref : ixV (.ref r) (.d (.int i)) s = ixR ((s[r]?).map Cell.items) i s := nr rfl
@[simp] theorem sl_s (lo hi : Option Int) (h : x.length ≤ line) : sliceV (.d (.str x)) lo hi s = .ok (.d (.str (cutL x lo hi))) s := if_pos h
@[simp] theorem sl_t (lo hi : Option Int) : sliceV (.d (.tup xs)) lo hi s = .ok (.d (.tup (cutL xs lo hi))) s := nr rfl
@[simp] theorem sl_l (lo hi : Option Int) : sliceV (.d (.lst xs)) lo hi s = .ok (.new (cutL xs lo hi)) s := nr rfl
@[simp] theorem sl_n (lo hi : Option Int) : sliceV (.new xs) lo hi s = .ok (.new (cutL xs lo hi)) s := nr rfl
@[simp] theorem sl_r (lo hi : Option Int) : sliceV (.ref r) lo hi s = match (s[r]?).map Cell.items with | some z => .ok (.new (cutL z lo hi)) s | none => .err := nr rfl
@[simp] theorem rev_l : revV (.d (.lst xs)) s = .ok (.new xs.reverse) s := nr rfl
@[simp] theorem rev_s (h : x.length ≤ line) : revV (.d (.str x)) s = .ok (.d (.str x.reverse)) s := if_pos h
@[simp] theorem rev_n : revV (.new xs) s = .ok (.new xs.reverse) s := nr rfl
@[simp] theorem rev_r : revV (.ref r) s = match (s[r]?).map Cell.items with | some z => .ok (.new z.reverse) s | none => .err := nr rfl
@[simp] theorem isi_d (ty : Ty) : isiV ty (.d d) = some (tyIs ty (.d d)) := nr rfl
@[simp] theorem ty_ii : tyIs .int (.d (.int i)) = true := nr rfl
@[simp] theorem ty_ib : tyIs .int (.d (.bl b)) = true := nr rfl
@[simp] theorem ty_is : tyIs .int (.d (.str x)) = false := nr rfl
@[simp] theorem ty_it : tyIs .int (.d (.tup xs)) = false := nr rfl
@[simp] theorem ty_in : tyIs .int (.d .non) = false := nr rfl
@[simp] theorem ty_bi : tyIs .bool (.d (.int i)) = false := nr rfl
@[simp] theorem ty_bb : tyIs .bool (.d (.bl b)) = true := nr rfl
@[simp] theorem ty_bs : tyIs .bool (.d (.str x)) = false := nr rfl
@[simp] theorem ty_bt : tyIs .bool (.d (.tup xs)) = false := nr rfl
@[simp] theorem ty_bn : tyIs .bool (.d .non) = false := nr rfl
@[simp] theorem ty_si : tyIs .str (.d (.int i)) = false := nr rfl
@[simp] theorem ty_sb : tyIs .str (.d (.bl b)) = false := nr rfl
@[simp] theorem ty_ss : tyIs .str (.d (.str x)) = true := nr rfl
@[simp] theorem ty_st : tyIs .str (.d (.tup xs)) = false := nr rfl
@[simp] theorem ty_sn : tyIs .str (.d .non) = false := nr rfl
@[simp] theorem ty_ti : tyIs .tup (.d (.int i)) = false := nr rfl
@[simp] theorem ty_tb : tyIs .tup (.d (.bl b)) = false := nr rfl
@[simp] theorem ty_ts : tyIs .tup (.d (.str x)) = false := nr rfl
@[simp] theorem ty_tt : tyIs .tup (.d (.tup xs)) = true := nr rfl
@[simp] theorem ty_tn : tyIs .tup (.d .non) = false := nr rfl
@[simp] theorem tru_b : truV (.d (.bl b)) s = some b := nr rfl
@[simp] theorem tru_i : truV (.d (.int i)) s = some (i != 0) := nr rfl
def lenR (o : Option (List D)) (s : Store) : R Val := match o with
  | some xs => .ok (.d (.int xs.length)) s
  | none => .err
@[simp] theorem lenR_some : lenR (some xs) s = .ok (.d (.int xs.length)) s := nr rfl
@[simp] theorem len_s (h : x.length ≤ line) : bltV .len [.d (.str x)] s = .ok (.d (.int x.length)) s := if_pos h
@[simp] theorem len_t : bltV .len [.d (.tup xs)] s = .ok (.d (.int xs.length)) s := nr rfl
@[simp] theorem len_l : bltV .len [.d (.lst xs)] s = .ok (.d (.int xs.length)) s := nr rfl
@[simp] theorem len_n : bltV .len [.new xs] s = .ok (.d (.int xs.length)) s := nr rfl
@[simp] theorem len_r : bltV .len [.ref r] s = lenR ((s[r]?).map Cell.items) s := nr rfl
def tupR (o : Option (List D)) (s : Store) : R Val := match o with
  | some xs => .ok (.d (.tup xs)) s
  | none => .err
@[simp] theorem tupR_some : tupR (some xs) s = .ok (.d (.tup xs)) s := nr rfl
@[simp] theorem tup_t : bltV .tuple [.d (.tup xs)] s = .ok (.d (.tup xs)) s := nr rfl
@[simp] theorem tup_l : bltV .tuple [.d (.lst xs)] s = .ok (.d (.tup xs)) s := nr rfl
@[simp] theorem tup_n : bltV .tuple [.new xs] s = .ok (.d (.tup xs)) s := nr rfl
@[simp] theorem tup_r : bltV .tuple [.ref r] s = tupR ((s[r]?).map Cell.items) s := nr rfl
def newR (o : Option (List D)) (s : Store) : R Val := match o with
  | some xs => .ok (.new xs) s
  | none => .err
@[simp] theorem newR_some : newR (some xs) s = .ok (.new xs) s := nr rfl
@[simp] theorem lst_t : bltV .list [.d (.tup xs)] s = .ok (.new xs) s := nr rfl
@[simp] theorem lst_l : bltV .list [.d (.lst xs)] s = .ok (.new xs) s := nr rfl
@[simp] theorem lst_n : bltV .list [.new xs] s = .ok (.new xs) s := nr rfl
@[simp] theorem lst_r : bltV .list [.ref r] s = newR ((s[r]?).map Cell.items) s := nr rfl
@[simp] theorem max_i : bltV .max [.d (.int i), .d (.int j)] s = .ok (.d (.int (if j > i then j else i))) s := nr rfl
@[simp] theorem min_i : bltV .min [.d (.int i), .d (.int j)] s = .ok (.d (.int (if j < i then j else i))) s := nr rfl
@[simp] theorem int_i : bltV .int [.d (.int i)] s = .ok (.d (.int i)) s := nr rfl
@[simp] theorem int_b : bltV .int [.d (.bl b)] s = .ok (.d (.int (if b then 1 else 0))) s := nr rfl
@[simp] theorem ord_s : bltV .ord [.d (.str [r])] s = .ok (.d (.int r)) s := nr rfl
theorem allM_txt : ∀ ts : List Tx, allM txOf (ts.map D.str) = some ts
  | [] => rfl
  | t :: ts => by
    have ih := allM_txt ts
    simp only [List.map_cons, allM, txOf, ih]
theorem allM_int : ∀ ts : List Int, allM intOf (ts.map D.int) = some ts
  | [] => rfl
  | t :: ts => by
    have ih := allM_int ts
    simp only [List.map_cons, allM, intOf, ih]
theorem sorted_sgn (z : Tx) (h : z.length < 64) : bltV .sorted [.d (.str z)] s = .ok (.new ((sortT (z.map fun c => [c])).map D.str)) s := if_pos h
theorem sorted_txt (ts : List Tx) (h : ts.length < 64) : bltV .sorted [.new (ts.map D.str)] s = .ok (.new ((sortT ts).map D.str)) s := by
  show (if (ts.map D.str).length < 64 then _ else _) = _
  rw [if_pos (by rw [List.length_map]; exact h), allM_txt]
@[simp] theorem join_tx (sep z : Tx) : methV .join (.d (.str sep)) [.d (.str z)] s = if z.length + z.length * sep.length ≤ line then .ok (.d (.str (joinT sep (z.map fun c => [c])))) s else .err := nr rfl
theorem joinR (sep : Tx) (ts : List Tx) (h : (ts.map List.length).sum + ts.length * sep.length ≤ line) : methV .join (.d (.str sep)) [.new (ts.map D.str)] s = .ok (.d (.str (joinT sep ts))) s := by
  show (match allM txOf (ts.map D.str) with | some ts => _ | none => _) = _
  rw [allM_txt]
  exact if_pos h
/-! ### lists that change -/
def appR (o : Option (D × Store)) (r : Nat) : R Val := match o with
  | some (d, s1) => match s1[r]? with
    | some (.lst xs) => if xs.length < line then .ok (.d .non) (s1.set r (.lst (xs ++ [d]))) else .err
    | _ => .err
  | none => .err
@[simp] theorem appR_some : appR (some (d, s)) r = match s[r]? with
    | some (.lst xs) => appG xs (.ok (.d .non) (s.set r (.lst (xs ++ [d]))))
    | _ => .err := nr rfl
@[simp] theorem m_app (v : Val) : methV .append (.ref r) [v] s = appR (toD v s) r := by
  simp only [methV, appR]
  cases toD v s with
  | none => rfl
  | some p => rfl
@[simp] theorem m_popAt (k : Int) : methV .pop (.ref r) [.d (.int k)] s = match s[r]? with
    | some (.lst xs) => if xs.length ≤ line then match L2.ixN xs.length k with
      | some j => match xs[j]? with
        | some d => .ok (.d d) (s.set r (.lst (xs.eraseIdx j)))
        | none => .err
      | none => .err
      else .err
    | _ => .err := nr rfl
@[simp] theorem m_pop : methV .pop (.ref r) [] s = match s[r]? with
    | some (.lst xs) => match xs.getLast? with
      | some d => .ok (.d d) (s.set r (.lst xs.dropLast))
      | none => .err
    | _ => .err := by
  simp only [methV] <;> rfl
def stR (o : Option (D × Store)) (r : Nat) (n : Int) : R Val := match o with
  | none => .err
  | some (d, s4) => match s4[r]? with
    | some (.lst xs) => match L2.ixN xs.length n with
      | some j => .ok (.d .non) (s4.set r (.lst (xs.set j d)))
      | none => .err
    | _ => .err
@[simp] theorem stR_some (n : Int) : stR (some (d, s)) r n = match s[r]? with
    | some (.lst xs) => match L2.ixN xs.length n with
      | some j => .ok (.d .non) (s.set r (.lst (xs.set j d)))
      | none => .err
    | _ => .err := nr rfl
@[simp] theorem set_r (v : Val) (n : Int) : setV v (.ref r) (.d (.int n)) s = stR (toD v s) r n := by
  unfold setV stR
  cases toD v s with
  | none => rfl
  | some p => rfl
@[simp] theorem rc_app : recvOk .append (.ref r) s = (s[r]?).isSome := by unfold recvOk; simp [isSup, isLm]
@[simp] theorem rc_pop : recvOk .pop (.ref r) s = (s[r]?).isSome := by unfold recvOk; simp [isSup, isLm]
@[simp] theorem m_split (c : Nat) (h : x.length + 2 ≤ line) : methV .split (.d (.str x)) [.d (.str [c])] s = .ok (.new ((splitC c x).map D.str)) s := if_pos h
@[simp] theorem rc_split : recvOk .split (.d (.str x)) s = true := nr rfl
@[simp] theorem m_find (c : Nat) : methV .find (.d (.str x)) [.d (.str [c])] s = .ok (.d (.int (findC c x))) s := nr rfl
@[simp] theorem rc_find : recvOk .find (.d (.str x)) s = true := nr rfl
@[simp] theorem m_count (c : Nat) : methV .count (.d (.str x)) [.d (.str [c])] s = .ok (.d (.int ((splitC c x).length - 1 : Nat))) s := nr rfl
@[simp] theorem rc_count : recvOk .count (.d (.str x)) s = true := nr rfl
@[simp] theorem rc_join : recvOk .join (.d (.str x)) s = true := nr rfl
@[simp] theorem rc_ins : recvOk .insert (.ref r) s = (s[r]?).isSome := by unfold recvOk; simp [isSup, isLm]
def insR (o : Option (D × Store)) (r : Nat) (k : Int) : R Val := match o with
  | some (d, s1) => match s1[r]? with
    | some (.lst xs) => if xs.length < line ∧ 0 ≤ k ∧ k < 9223372036854775808 then .ok (.d .non) (s1.set r (.lst (xs.take k.toNat ++ [d] ++ xs.drop k.toNat))) else .err
    | _ => .err
  | none => .err
@[simp] theorem m_ins (v : Val) (k : Int) : methV .insert (.ref r) [.d (.int k), v] s = insR (toD v s) r k := by
  simp only [methV, insR]
  cases toD v s with
  | none => rfl
  | some p => rfl
def insP (xs : List D) (k : Int) (a : R Val) : R Val := if xs.length < line ∧ 0 ≤ k ∧ k < 9223372036854775808 then a else .err
theorem insP_ok {xs : List D} {k : Int} {a : R Val} (h : xs.length < line) (h0 : 0 ≤ k) (h1 : k < 9223372036854775808) : insP xs k a = a := if_pos ⟨h, h0, h1⟩
@[simp] theorem insR_some (k : Int) : insR (some (d, s)) r k = match s[r]? with
    | some (.lst xs) => insP xs k (.ok (.d .non) (s.set r (.lst (xs.take k.toNat ++ [d] ++ xs.drop k.toNat))))
    | _ => .err := nr rfl
@[simp] theorem int_dig (c : Nat) (h0 : 48 ≤ c) (h1 : c < 58) : bltV .int [.d (.str [c])] s = .ok (.d (.int ((c : Int) - 48))) s := if_pos ⟨h0, h1⟩
@[simp] theorem str_dig (i : Int) (h0 : 0 ≤ i) (h1 : i < 10) : bltV .str [.d (.int i)] s = .ok (.d (.str [48 + i.toNat])) s := if_pos ⟨h0, h1⟩
@[simp] theorem kill_n (n : Nat) : kill n none = none := nr rfl
@[simp] theorem kill_d (n : Nat) : kill n (some (.d d)) = some (.d d) := nr rfl
@[simp] theorem kill_new (n : Nat) : kill n (some (.new xs)) = some (.new xs) := nr rfl
@[simp] theorem kill_r (n : Nat) : kill n (some (.ref r)) = if r < n then some (.ref r) else none := nr rfl
@[simp] theorem wlk_s : walkV (.d (.str x)) s = .ok ⟨x.map fun c => D.str [c], none⟩ s := nr rfl
@[simp] theorem wlk_t : walkV (.d (.tup xs)) s = .ok ⟨xs, none⟩ s := nr rfl
@[simp] theorem wlk_l : walkV (.d (.lst xs)) s = .ok ⟨xs, none⟩ s := nr rfl
@[simp] theorem wlk_n : walkV (.new xs) s = .ok ⟨xs, none⟩ s := nr rfl
@[simp] theorem wlk_r : walkV (.ref r) s = match s[r]? with | some c => .ok ⟨c.items, some (r, c.items)⟩ s | none => .err := nr rfl
@[simp] theorem rng1 (h : okR j = true) : rangeV [.d (.int j)] s = .ok ⟨rangeL 0 j.toNat, none⟩ s := if_pos h
@[simp] theorem rng2 (h : okR i = true) (h2 : okR j = true) : rangeV [.d (.int i), .d (.int j)] s = .ok ⟨rangeL i (j - i).toNat, none⟩ s := if_pos (by rw [h, h2]; rfl)
@[simp] theorem rng3 (h : okR i = true) (h2 : okR j = true) : rangeV [.d (.int i), .d (.int j), .d (.int (-1))] s = .ok ⟨rangeD i (-1) (i - j).toNat, none⟩ s := if_pos (by rw [h, h2]; rfl)
@[simp] theorem wok_n : Walk.ok ⟨xs, none⟩ s = true := nr rfl
@[simp] theorem wok_r : Walk.ok ⟨xs, some (r, ys)⟩ s = match s[r]? with | some c => decide (c.items = ys) | none => false := nr rfl
@[simp] theorem endF_nx (e : Env) (n : Nat) : endF (.nx e s) n = .ok (.d .non) (s.take n) := nr rfl
@[simp] theorem endF_rt (v : Val) (n : Nat) : endF (.rt v s) n = retV v n s := nr rfl
@[simp] theorem endF_exc (c : String) (e : Env) (n : Nat) : endF (.exc c e s) n = .exc c (s.take n) := nr rfl
@[simp] theorem retV_d (n : Nat) : retV (.d d) n s = .ok (.d d) (s.take n) := nr rfl
@[simp] theorem retV_n (n : Nat) : retV (.new xs) n s = .ok (.new xs) (s.take n) := nr rfl
@[simp] theorem retV_r (n : Nat) : retV (.ref r) n s = if r < n then .ok (.ref r) (s.take n) else match s[r]? with
    | some (.lst xs) => .ok (.new xs) (s.take n)
    | some (.flst xs) => .ok (.d (.lst xs)) (s.take n)
    | none => .err := nr rfl
@[simp] theorem bT_name (k : Nat) (env : Env) : bindT (.name k) d env = some (env.set k (some (.d d))) := by rw [bindT]
@[simp] theorem bT_tup (ts : Tgs) (env : Env) : bindT (.tup ts) (.tup xs) env = bindTs ts xs env := by rw [bindT]
@[simp] theorem bTs_nil (env : Env) : bindTs .nil [] env = some env := by rw [bindTs]
@[simp] theorem bTs_cons (tg : Tg) (ts : Tgs) (env : Env) : bindTs (.cons tg ts) (d :: xs) env = match bindT tg d env with | some e1 => bindTs ts xs e1 | none => none := by rw [bindTs] <;> rfl
@[simp] theorem slT_name (k : Nat) : slotsT (.name k) = [k] := by rw [slotsT]
@[simp] theorem wp_nil (env : Env) : wipeE env [] = env := nr rfl
@[simp] theorem wp_cons (env : Env) (v : Nat) (vs : List Nat) : wipeE env (v :: vs) = (wipeE env vs).set v none := nr rfl
@[simp] theorem rl_len (n : Nat) : (rangeL i n).length = n := by unfold rangeL; simp
@[simp] theorem rd_len (c : Int) (n : Nat) : (rangeD i c n).length = n := by unfold rangeD; simp
theorem rl_get {n k : Nat} {d : D} (h : (rangeL i n)[k]? = some d) : k < n ∧ d = .int (i + k) := by
  unfold rangeL at h
  rw [List.getElem?_map] at h
  by_cases hk : k < n
  · rw [List.getElem?_range hk] at h
    exact ⟨hk, by cases h; rfl⟩
  · rw [List.getElem?_eq_none (by simp; omega)] at h
    cases h
theorem rd_get {c : Int} {n k : Nat} {d : D} (h : (rangeD i c n)[k]? = some d) : k < n ∧ d = .int (i + k * c) := by
  unfold rangeD at h
  rw [List.getElem?_map] at h
  by_cases hk : k < n
  · rw [List.getElem?_range hk] at h
    exact ⟨hk, by cases h; rfl⟩
  · rw [List.getElem?_eq_none (by simp; omega)] at h
    cases h
theorem atI_nat {α : Type} {l : List α} {k : Nat} (hk : k < l.length) : L2.atI l (k : Int) = l[k]? := by
  unfold L2.atI L2.ixN
  rw [if_pos (Int.natCast_nonneg k), if_pos (by omega)]
  rfl
theorem atI_pos {α : Type} {l : List α} {i : Int} (h0 : 0 ≤ i) (h1 : i < l.length) : L2.atI l i = l[i.toNat]? := by
  unfold L2.atI L2.ixN
  rw [if_pos h0, if_pos h1]
  rfl
theorem atI_mp {α β : Type} (f : α → β) (l : List α) (i : Int) : L2.atI (l.map f) i = (L2.atI l i).map f := by
  unfold L2.atI
  rw [List.length_map]
  cases L2.ixN l.length i with
  | none => rfl
  | some j => show (l.map f)[j]? = (l[j]?).map f; rw [List.getElem?_map]
theorem atI_some {α : Type} {l : List α} {i : Int} (h0 : 0 ≤ i) (h1 : i < l.length) : ∃ a, L2.atI l i = some a ∧ l[i.toNat]? = some a := by
  rw [atI_pos h0 h1]
  have : i.toNat < l.length := by omega
  exact ⟨l[i.toNat], List.getElem?_eq_getElem this, List.getElem?_eq_getElem this⟩
end
end Pv

/-! What the laws' common defs answer. -/
namespace Pv
open PySem
theorem okM1 {i j : Int} (h : -18446744073709551616 < i ∧ i < 18446744073709551616) : okMul i j = true := by
  unfold okMul
  simp [h.1, h.2]
theorem okM2 {i j : Int} (h : -18446744073709551616 < j ∧ j < 18446744073709551616) : okMul i j = true := by
  unfold okMul
  simp [h.1, h.2]
theorem okR1 {j : Int} (h1 : -4611686018427387904 ≤ j) (h2 : j < 4611686018427387904) : okR j = true := by
  unfold okR
  simp [h1, h2]
section
variable {Δ : Prog} {m d : Nat}
/-- the script's cell -/
theorem sp_cell (h : Has Δ "_law_cell" 2 2 b__law_cell) (ns : List Int) (k : Int) : ∃ c : Int, ∀ s, Φ Δ m (d + 1) "_law_cell" [.d (.lst (ns.map .int)), .d (.int k)] s = .ok (.d (.int c)) s := by
  cases ns with
  | nil =>
    refine ⟨0, fun s => ?_⟩
    rw [h.run rfl]
    unfold b__law_cell
    simp
  | cons n r =>
    have hp : (0 : Int) < (r.length : Int) + 1 := by omega
    obtain ⟨a, ha, _⟩ := atI_some (l := (n :: r)) (i := k % ((r.length : Int) + 1)) (Int.emod_nonneg _ (by omega)) (by have := Int.emod_lt_of_pos k hp; simpa using this)
    refine ⟨a, fun s => ?_⟩
    rw [h.run rfl]
    unfold b__law_cell
    have e : L2.atI (D.int n :: r.map D.int) (k % ((r.length : Int) + 1)) = some (.int a) := by
      have := atI_mp D.int (n :: r) (k % ((r.length : Int) + 1))
      rw [ha] at this
      exact this
    have hne : ¬ ((r.length : Int) + 1 = 0) := by omega
    simp [hp, e, hne]
def mixF (c k t : Int) : Int := (c + 7 * k * k + 13 * k + t) * 69621 % 2147483647
def mixI (c k t : Int) : Int := (mixF c k t * (mixF c k t / 1009 + 3) + 31 * k + t) % 2147483629 * 48271 % 1000000007
theorem mixI_nn (c k t : Int) : 0 ≤ mixI c k t ∧ mixI c k t < 1000000007 := by
  unfold mixI
  exact ⟨Int.emod_nonneg _ (by omega), Int.emod_lt_of_pos _ (by omega)⟩
theorem sp_mixed (h : Has Δ "_law_mixed" 3 4 b__law_mixed) (c k t : Int) (hk : 0 ≤ k) (hk2 : k < 1000000000) (s : Store) :
    Φ Δ m (d + 1) "_law_mixed" [.d (.int c), .d (.int k), .d (.int t)] s = .ok (.d (.int (mixI c k t))) s := by
  rw [h.run rfl]
  unfold b__law_mixed
  have f1 : 0 ≤ mixF c k t := Int.emod_nonneg _ (by omega)
  have f2 : mixF c k t < 2147483647 := Int.emod_lt_of_pos _ (by omega)
  have e1 : okMul (7 * k) k = true := okM2 (by omega)
  have e2 : okMul 13 k = true := okM1 (by omega)
  have e3 : okMul 7 k = true := okM1 (by omega)
  have e4 : ∀ x, okMul x 69621 = true := fun x => okM2 (by omega)
  have e5 : okMul (mixF c k t) (mixF c k t / 1009 + 3) = true := okM1 (by omega)
  have e6 : okMul 31 k = true := okM1 (by omega)
  have e7 : ∀ x, okMul x 48271 = true := fun x => okM2 (by omega)
  unfold mixF at e5
  simp [e1, e2, e3, e4, e5, e6, e7, mixI, mixF]
/-- the row of draws: what is left, what is found -/
def drawSt (c t r0 : Int) : Nat → Int × List Int
  | 0 => (r0, [])
  | i + 1 => if 0 < (drawSt c t r0 i).1 then ((drawSt c t r0 i).1 / 64, (drawSt c t r0 i).2 ++ [(drawSt c t r0 i).1 % 64]) else ((drawSt c t r0 i).1, (drawSt c t r0 i).2 ++ [mixI c i t])
theorem drawSt_len (c t r0 : Int) : ∀ i, (drawSt c t r0 i).2.length = i
  | 0 => rfl
  | i + 1 => by
    rw [drawSt]
    split <;> simp [drawSt_len c t r0 i]
theorem drawSt_nn (c t r0 : Int) : ∀ i, ∀ x ∈ (drawSt c t r0 i).2, 0 ≤ x ∧ x < 1000000007
  | 0 => fun x h => by cases h
  | i + 1 => fun x h => by
    rw [drawSt] at h
    split at h
    · simp only [List.mem_append, List.mem_singleton] at h
      rcases h with h | h
      · exact drawSt_nn c t r0 i x h
      · omega
    · simp only [List.mem_append, List.mem_singleton] at h
      rcases h with h | h
      · exact drawSt_nn c t r0 i x h
      · rw [h]; exact mixI_nn c i t
def drawsI (c n t : Int) : List Int := (drawSt c t (if 1000000000000000000 ≤ c then c else 0) n.toNat).2
theorem drawsI_len (c n t : Int) : (drawsI c n t).length = n.toNat := drawSt_len _ _ _ _
theorem drawsI_nn (c n t : Int) : ∀ x ∈ drawsI c n t, 0 ≤ x ∧ x < 1000000007 := drawSt_nn _ _ _ _
theorem sp_draws (h : Has Δ "_law_draws" 3 6 b__law_draws) (hm : Has Δ "_law_mixed" 3 4 b__law_mixed) (c n t : Int) (hn : n < 10000000) (hn0 : -10000000 < n) (s : Store) :
    Φ Δ m (d + 2) "_law_draws" [.d (.int c), .d (.int n), .d (.int t)] s = .ok (.new ((drawsI c n t).map .int)) s := by
  rw [h.run rfl]
  unfold b__law_draws
  have loop : ∀ r0 g, ∃ env', forL ⟨rangeL 0 n.toNat, none⟩ (s.length + 1) (.name 5) (fun e s => evSs (cxΔ Δ m (d + 1)) b__law_draws_1 e s) (rangeL 0 n.toNat)
      [some (.d (.int c)), some (.d (.int n)), some (.d (.int t)), some (.ref s.length), some (.d (.int r0)), g] (s ++ [.lst []]) = .nx env' (s ++ [.lst ((drawSt c t r0 n.toNat).2.map .int)]) ∧ env'[3]? = some (some (.ref s.length)) := by
    intro r0 g
    have key := forL_inv (w := ⟨rangeL 0 n.toNat, none⟩) (n := s.length + 1) (tg := .name 5) (body := fun e s => evSs (cxΔ Δ m (d + 1)) b__law_draws_1 e s)
      (env := [some (.d (.int c)), some (.d (.int n)), some (.d (.int t)), some (.ref s.length), some (.d (.int r0)), g]) (s := s ++ [.lst []])
      (fun i env s1 => ∃ g, env = [some (.d (.int c)), some (.d (.int n)), some (.d (.int t)), some (.ref s.length), some (.d (.int (drawSt c t r0 i).1)), g] ∧ s1 = s ++ [.lst ((drawSt c t r0 i).2.map .int)])
      ⟨g, rfl, rfl⟩ (by
      rintro i dd env s1 hd ⟨g, rfl, rfl⟩
      obtain ⟨hi, rfl⟩ := rl_get _ hd
      have hl : (drawSt c t r0 i).2.length < line := by rw [drawSt_len]; show i < 16777216; omega
      refine ⟨rfl, _, rfl, ?_⟩
      unfold b__law_draws_1
      by_cases hr : 0 < (drawSt c t r0 i).1
      · simp [hr, st0, set0, takj, hl, drawSt]
      · have hm := sp_mixed (m := m) (d := d) hm c i t (by omega) (by omega)
        simp [hr, st0, set0, takj, hl, drawSt, hm, Has.has ‹Has Δ "_law_mixed" 3 4 b__law_mixed›]) (fun _ _ _ => rfl)
    obtain ⟨env', s', h1, g', h2, h3⟩ := key
    simp only [rl_len] at h2 h3
    subst h2 h3
    exact ⟨_, h1, rfl⟩
  have hr := okR1 (j := n) (by omega) (by omega)
  have hp : okPow 10 18 = true := by decide
  by_cases hc : 1000000000000000000 ≤ c
  · obtain ⟨env', h1, h2⟩ := loop c none
    simp [hr, hp, hc, h1, h2, st0, tak0, drawsI]
  · obtain ⟨env', h1, h2⟩ := loop 0 none
    simp [hr, hp, hc, h1, h2, st0, tak0, drawsI]
theorem len3 {α : Type} {l : List α} (h : l.length = 3) : ∃ a b c, l = [a, b, c] := by
  match l, h with
  | [a, b, c], _ => exact ⟨a, b, c, rfl⟩
def sizeI (c t n : Int) : Int := match drawsI c 3 t with
  | [a, b, e] => if e % 3 = 0 then (a + 64 * b) % (n + 1) % 7 else (a + 64 * b) % (n + 1)
  | _ => 0
theorem sp_size (h : Has Δ "_law_size" 3 5 b__law_size) (hd : Has Δ "_law_draws" 3 6 b__law_draws) (hm : Has Δ "_law_mixed" 3 4 b__law_mixed) (c t n : Int) (hn : 0 ≤ n) (s : Store) :
    0 ≤ sizeI c t n ∧ sizeI c t n ≤ n ∧ Φ Δ m (d + 3) "_law_size" [.d (.int c), .d (.int t), .d (.int n)] s = .ok (.d (.int (sizeI c t n))) s := by
  obtain ⟨a, b, e, hl⟩ := len3 (drawsI_len c 3 t)
  have hr := sp_draws (m := m) (d := d) hd hm c 3 t (by omega) (by omega)
  rw [hl] at hr
  unfold sizeI
  rw [hl]
  have h1 : 0 ≤ (a + 64 * b) % (n + 1) := Int.emod_nonneg _ (by omega)
  have h2 : (a + 64 * b) % (n + 1) < n + 1 := Int.emod_lt_of_pos _ (by omega)
  have hp : 0 < n + 1 := by omega
  have e1 : okMul 64 b = true := okM1 (by omega)
  have a0 : L2.atI [D.int a, D.int b, D.int e] 0 = some (D.int a) := rfl
  have a1 : L2.atI [D.int a, D.int b, D.int e] 1 = some (D.int b) := rfl
  have a2 : L2.atI [D.int a, D.int b, D.int e] 2 = some (D.int e) := rfl
  rw [h.run rfl]
  unfold b__law_size
  by_cases he : e % 3 = 0
  · simp only [he, if_true]
    refine ⟨by omega, by omega, ?_⟩
    simp [hr, hd.has, a0, a1, a2, e1, hp, he]
  · simp only [he, if_false]
    refine ⟨by omega, by omega, ?_⟩
    simp [hr, hd.has, a0, a1, a2, e1, hp, he]
/-- plain data of so many levels -/
def okD : Nat → D → Prop
  | 0, _ => False
  | n + 1, x => match x with
    | .tup xs => xs.length ≤ line ∧ ∀ y ∈ xs, okD n y
    | .lst _ => False
    | _ => True
theorem lenR_ok {n : Nat} (h : n ≤ line) : okR (n : Int) = true := by
  have h : n ≤ 16777216 := h
  exact okR1 (by omega) (by omega)
theorem sp_same (h : Has Δ "_law_same" 2 3 b__law_same) (n : Nat) : ∀ (x : D) (s : Store), okD n x → Φ Δ m (d + n) "_law_same" [.d x, .d x] s = .ok (.d (.bl true)) s := by
  induction n with
  | zero => exact fun x s h0 => h0.elim
  | succ n ih =>
    intro x s h0
    show Φ Δ m (d + n + 1) "_law_same" _ s = _
    rw [h.run rfl]
    unfold b__law_same
    cases x with
    | non => simp
    | bl b => simp
    | int i => simp
    | str t => simp
    | lst xs => exact h0.elim
    | tup xs =>
      obtain ⟨hl, hx⟩ := h0
      have key := forL_inv (w := ⟨rangeL 0 xs.length, none⟩) (n := s.length) (tg := .name 2) (body := fun e s => evSs (cxΔ Δ m (d + n)) b__law_same_1 e s)
        (env := [some (.d (.tup xs)), some (.d (.tup xs)), none]) (s := s) (fun i env s1 => (∃ g, env = [some (.d (.tup xs)), some (.d (.tup xs)), g]) ∧ s1 = s) ⟨⟨_, rfl⟩, rfl⟩ (by
        rintro i dd env s1 hd ⟨⟨g, rfl⟩, rfl⟩
        obtain ⟨hi, rfl⟩ := rl_get _ hd
        refine ⟨rfl, _, rfl, ?_⟩
        unfold b__law_same_1
        obtain ⟨y, hy, hy'⟩ := atI_some (l := xs) (i := (i : Int)) (by omega) (by omega)
        have ih := ih y s1 (hx y (List.mem_of_getElem? hy'))
        simp [hy, ih, h.has]) (fun _ _ _ => rfl)
      obtain ⟨env', s', h1, ⟨g, h2⟩, h3⟩ := key
      have hr := lenR_ok hl
      subst h2 h3
      simp [hr, h1]
def LETTERS : Tx := [65, 66, 67, 68, 69, 70, 71, 72, 73, 74, 75, 76, 77, 78, 79, 80, 81, 82, 83, 84, 85, 86, 87, 88, 89, 90, 97, 98, 99, 100, 101, 102, 103, 104, 105, 106, 107, 108, 109, 110, 111, 112, 113, 114, 115, 116, 117, 118, 119, 120, 121, 122]
theorem cut_to {α : Type} (l : List α) {j : Int} (h0 : 0 ≤ j) : cutL l none (some j) = l.take j.toNat := by
  unfold cutL
  rw [HT.sIx_none, show j = ((j.toNat : Nat) : Int) by omega, HT.sIx_nat, Nat.sub_zero, List.drop_zero, Int.toNat_natCast]
  rcases Nat.le_total j.toNat l.length with h | h
  · rw [Nat.min_eq_left h]
  · rw [Nat.min_eq_right h, List.take_length, List.take_of_length_le h]
theorem cut_from {α : Type} (l : List α) {j : Int} (h0 : 0 ≤ j) : cutL l (some j) none = l.drop j.toNat := by
  unfold cutL
  rw [HT.sIx_none, show j = ((j.toNat : Nat) : Int) by omega, HT.sIx_nat, Int.toNat_natCast]
  rcases Nat.le_total j.toNat l.length with h | h
  · rw [Nat.min_eq_left h, List.take_of_length_le (by rw [List.length_drop]; exact Nat.le_refl _)]
  · rw [Nat.min_eq_right h, Nat.sub_self, List.take_zero, List.drop_of_length_le h]
theorem cut_mid {α : Type} (l : List α) {i j : Int} (h0 : 0 ≤ i) (h1 : 0 ≤ j) : cutL l (some i) (some j) = (l.take j.toNat).drop i.toNat := by
  unfold cutL
  rw [show i = ((i.toNat : Nat) : Int) by omega, show j = ((j.toNat : Nat) : Int) by omega, HT.sIx_nat, HT.sIx_nat, Int.toNat_natCast, Int.toNat_natCast, List.drop_take]
  rcases Nat.le_total i.toNat l.length with h | h
  · rw [Nat.min_eq_left h]
    rcases Nat.le_total j.toNat l.length with h2 | h2
    · rw [Nat.min_eq_left h2]
    · rw [Nat.min_eq_right h2, List.take_of_length_le (by rw [List.length_drop]; exact Nat.le_refl _), List.take_of_length_le (by rw [List.length_drop]; omega)]
  · rw [Nat.min_eq_right h, List.drop_of_length_le (Nat.le_refl _), List.drop_of_length_le h]
    simp
theorem perm_out {α : Type} {l : List α} {k : Nat} (h : k < l.length) : (l[k] :: l.eraseIdx k).Perm l := by
  rw [List.eraseIdx_eq_take_drop_succ]
  have e : l = l.take k ++ l[k] :: l.drop (k + 1) := by rw [← List.drop_eq_getElem_cons h, List.take_append_drop]
  exact (List.perm_middle.symm).trans (by rw [← e])
/-- letters drawn: found, left -/
def poolSt (ds : List Int) : Nat → Tx × Tx
  | 0 => ([], LETTERS)
  | i + 1 => ((poolSt ds i).1 ++ [(poolSt ds i).2.getD ((ds.getD i 0) % ((poolSt ds i).2.length : Int)).toNat 0], (poolSt ds i).2.eraseIdx ((ds.getD i 0) % ((poolSt ds i).2.length : Int)).toNat)
theorem poolSt_perm (ds : List Int) : ∀ i, i ≤ 52 → ((poolSt ds i).1 ++ (poolSt ds i).2).Perm LETTERS ∧ (poolSt ds i).1.length = i
  | 0, _ => ⟨List.Perm.refl _, rfl⟩
  | i + 1, h => by
    obtain ⟨ih, il⟩ := poolSt_perm ds i (by omega)
    have hl := ih.length_eq
    rw [List.length_append, il] at hl
    have hl : i + (poolSt ds i).2.length = 52 := hl
    rw [poolSt]
    generalize hk : ((ds.getD i 0) % ((poolSt ds i).2.length : Int)).toNat = k
    have hk2 : k < (poolSt ds i).2.length := by
      have h1 := Int.emod_lt_of_pos (ds.getD i 0) (b := ((poolSt ds i).2.length : Int)) (by omega)
      have h2 := Int.emod_nonneg (ds.getD i 0) (b := ((poolSt ds i).2.length : Int)) (by omega)
      omega
    refine ⟨?_, by rw [List.length_append, il]; rfl⟩
    have e : (poolSt ds i).2.getD k 0 = (poolSt ds i).2[k] := by rw [List.getD_eq_getElem?_getD, List.getElem?_eq_getElem hk2]; rfl
    show ((poolSt ds i).1 ++ [(poolSt ds i).2.getD k 0] ++ (poolSt ds i).2.eraseIdx k).Perm LETTERS
    rw [e, List.append_assoc]
    exact (List.Perm.append_left (poolSt ds i).1 (perm_out hk2)).trans ih
def poolI (c n t : Int) : Tx := (poolSt (drawsI c n t) n.toNat).1
theorem poolI_len (c n t : Int) (h : n ≤ 52) : (poolI c n t).length = n.toNat := (poolSt_perm _ _ (by omega)).2
theorem sp_pool (h : Has Δ "_law_pool" 3 7 b__law_pool) (hd : Has Δ "_law_draws" 3 6 b__law_draws) (hm : Has Δ "_law_mixed" 3 4 b__law_mixed) (c n t : Int) (h0 : 0 ≤ n) (hn : n ≤ 52) (s : Store) :
    Φ Δ m (d + 3) "_law_pool" [.d (.int c), .d (.int n), .d (.int t)] s = .ok (.d (.str (poolI c n t))) s := by
  rw [h.run rfl]
  unfold b__law_pool
  have hr := sp_draws (m := m) (d := d) hd hm c n t (by omega) (by omega)
  have hl := drawsI_len c n t
  unfold poolI
  generalize drawsI c n t = ds at hr hl
  have key := forL_inv (w := ⟨ds.map .int, none⟩) (n := s.length) (tg := .name 5) (body := fun e s => evSs (cxΔ Δ m (d + 2)) b__law_pool_1 e s)
    (env := [some (.d (.int c)), some (.d (.int n)), some (.d (.int t)), some (.d (.str LETTERS)), some (.d (.str [])), none, none]) (s := s)
    (fun i env s1 => (∃ g g', env = [some (.d (.int c)), some (.d (.int n)), some (.d (.int t)), some (.d (.str (poolSt ds i).2)), some (.d (.str (poolSt ds i).1)), g, g']) ∧ s1 = s) ⟨⟨_, _, rfl⟩, rfl⟩ (by
    rintro i dd env s1 hdd ⟨⟨g, g', rfl⟩, rfl⟩
    have hdd : (ds.map D.int)[i]? = some dd := hdd
    rw [List.getElem?_map] at hdd
    have hi : i < ds.length := by
      rcases Nat.lt_or_ge i ds.length with q | q
      · exact q
      · rw [List.getElem?_eq_none q] at hdd; cases hdd
    rw [List.getElem?_eq_getElem hi] at hdd
    cases hdd
    refine ⟨rfl, _, rfl, ?_⟩
    obtain ⟨ih, il⟩ := poolSt_perm ds i (by omega)
    have hl2 := ih.length_eq
    rw [List.length_append, il] at hl2
    have hl2 : i + (poolSt ds i).2.length = 52 := hl2
    have hgd : ds.getD i 0 = ds[i] := by rw [List.getD_eq_getElem?_getD, List.getElem?_eq_getElem hi]; rfl
    rw [show poolSt ds (i + 1) = ((poolSt ds i).1 ++ [(poolSt ds i).2.getD (ds[i] % ((poolSt ds i).2.length : Int)).toNat 0], (poolSt ds i).2.eraseIdx (ds[i] % ((poolSt ds i).2.length : Int)).toNat) by rw [poolSt, hgd]]
    generalize poolSt ds i = q at il hl2
    obtain ⟨f, re⟩ := q
    simp only at il hl2 ⊢
    have hp : (0 : Int) < (re.length : Int) := by omega
    have hpN : 0 < re.length := by omega
    have k1 := Int.emod_lt_of_pos ds[i] hp
    have k0 := Int.emod_nonneg ds[i] (b := (re.length : Int)) (by omega)
    generalize hk : ds[i] % (re.length : Int) = k at k0 k1
    obtain ⟨a, ha, ha'⟩ := atI_some (l := re) k0 k1
    have hla : re.length ≤ line := by show re.length ≤ 16777216; omega
    have hlb : f.length + 1 ≤ line := by show f.length + 1 ≤ 16777216; omega
    have hlc : (min k.toNat re.length) + (re.length - (k + 1).toNat) ≤ line := by show _ ≤ 16777216; omega
    have e1 : (k + 1).toNat = k.toNat + 1 := by omega
    have e2 : re.getD k.toNat 0 = a := by rw [List.getD_eq_getElem?_getD, ha']; rfl
    have c1 := cut_to re k0
    have c2 := cut_from re (j := k + 1) (by omega)
    unfold b__law_pool_1
    rw [e1] at c2 hlc
    simp [hla, hpN, hk, ha, ha', hlb, c1, c2, hlc, List.eraseIdx_eq_take_drop_succ]) (fun _ _ _ => rfl)
  obtain ⟨env', s', h1, ⟨g, g', h2⟩, h3⟩ := key
  simp only [List.length_map] at h2
  subst h2 h3
  unfold LETTERS at h1
  simp [hr, hd.has, h1, hl]
/-- the bit k of n -/
def bitP (n : Int) (k : Nat) : Bool := decide (Builtin.bitAnd (n / 2 ^ k) 1 = 1)
def chosenI (p : Tx) (n : Int) : List Tx := ((List.range p.length).filter (bitP n)).map fun k => [p.getD k 0]
def marksI (p : Tx) (n : Int) : Tx := joinT [] (sortT (chosenI p n))
theorem insG_len {α : Type} (lt : α → α → Bool) (x : α) : ∀ l : List α, (insG lt x l).length = l.length + 1
  | [] => rfl
  | y :: ys => by
    rw [insG]
    split
    · rw [List.length_cons, insG_len lt x ys]; rfl
    · rfl
theorem sortG_len {α : Type} (lt : α → α → Bool) : ∀ l : List α, (sortG lt l).length = l.length
  | [] => rfl
  | x :: xs => by rw [sortG, insG_len, sortG_len lt xs]; rfl
theorem sp_marks (h : Has Δ "_law_marks" 2 3 b__law_marks) (p : Tx) (n : Int) (hp : p.length < 64) (s : Store) :
    Φ Δ m (d + 1) "_law_marks" [.d (.str p), .d (.int n)] s = .ok (.d (.str (marksI p n))) s := by
  rw [h.run rfl]
  unfold b__law_marks
  have hl : p.length ≤ line := by show p.length ≤ 16777216; omega
  have key := lcL_map (w := ⟨rangeL 0 p.length, none⟩) (tg := .name 2) (test := fun e s => evC (cxΔ Δ m d) y__law_marks_1 e s) (elt := fun e s => evE (cxΔ Δ m d) x__law_marks_1 e s)
    (env := [some (.d (.str p)), some (.d (.int n)), none]) (s := s) (fun d => match d with | .int k => bitP n k.toNat | _ => false) (fun d => match d with | .int k => .str [p.getD k.toNat 0] | _ => .non)
    (rangeL 0 p.length) [] rfl (by rw [rl_len]; simpa using hl) (by
      intro x hx
      obtain ⟨i, hi⟩ := List.getElem?_of_mem hx
      obtain ⟨hi, rfl⟩ := rl_get _ hi
      refine ⟨_, rfl, ?_, fun _ => ⟨.d (.str [p.getD i 0]), ?_, ?_⟩⟩
      · unfold y__law_marks_1
        simp [bitP]
      · unfold x__law_marks_1
        obtain ⟨a, ha, ha'⟩ := atI_some (l := p) (i := (i : Int)) (by omega) (by omega)
        simp [hl, ha]
        rw [show p[i]? = some a by simpa using ha']
        rfl
      · simp)
  have e : (List.map (fun d => match d with | D.int k => D.str [p.getD k.toNat 0] | _ => .non) (List.filter (fun d => match d with | D.int k => bitP n k.toNat | _ => false) (rangeL 0 p.length))) = (chosenI p n).map .str := by
    unfold rangeL chosenI
    rw [List.filter_map, List.map_map, List.map_map]
    have e1 : ((fun d => match d with | D.int k => bitP n k.toNat | _ => false) ∘ fun (k : Nat) => D.int (0 + (k : Int))) = bitP n := by
      funext k
      show bitP n (0 + (k : Int)).toNat = _
      rw [Int.zero_add, Int.toNat_natCast]
    rw [e1]
    refine List.map_congr_left fun k _ => ?_
    show D.str [p.getD (0 + (k : Int)).toNat 0] = _
    rw [Int.zero_add, Int.toNat_natCast]
    rfl
  rw [List.nil_append, e] at key
  have hc : (chosenI p n).length ≤ p.length := by
    unfold chosenI
    rw [List.length_map]
    exact Nat.le_trans (List.length_filter_le _ _) (by rw [List.length_range]; exact Nat.le_refl _)
  have hs := sorted_txt s (chosenI p n) (by omega)
  have one : ∀ l : List Nat, (l.map fun k => ([p.getD k 0] : Tx)).map List.length = l.map fun _ => 1 := fun l => by rw [List.map_map]; rfl
  have hj := joinR s [] (sortT (chosenI p n)) (by
    have h1 := ((sortG_perm (lt := ltT) (chosenI p n)).map List.length).sum_nat
    have h2 : ((chosenI p n).map List.length).sum = (chosenI p n).length := by
      unfold chosenI
      rw [one, List.length_map]
      generalize (List.filter (bitP n) (List.range p.length)) = l
      induction l with
      | nil => rfl
      | cons x xs ih => rw [List.map_cons, List.sum_cons, ih, List.length_cons]; omega
    show (List.map List.length (sortG ltT (chosenI p n))).sum + _ ≤ 16777216
    rw [h1, h2]
    simp
    omega)
  have hr := lenR_ok hl
  simp [hl, hr, key, hs, hj, marksI]
end
end Pv

/-! Trees that are drawn. -/
namespace Pv
open PySem
/-- trees still to be put below something -/
def mny (b : Int) : Int := (b + 1) / 2
def hgt : List Int → Int
  | [] => 0
  | b :: bs => hgt bs + 1 - mny b
/-- places, the last one first: each has the branches that it wants -/
def Wd : List Int → Prop
  | [] => True
  | b :: bs => 0 ≤ b ∧ b ≤ 3 ∧ mny b ≤ hgt bs ∧ Wd bs
theorem hgt_le : ∀ {bs : List Int}, Wd bs → 0 ≤ hgt bs ∧ hgt bs ≤ bs.length
  | [], _ => by simp [hgt]
  | b :: bs, h => by
    obtain ⟨h0, h3, h1, h2⟩ := h
    have ih := hgt_le h2
    rw [hgt, List.length_cons]
    have : 0 ≤ mny b := by unfold mny; omega
    omega
abbrev Plc := Int × Tx
def plD (x : Plc) : D := .tup [.int x.1, .str x.2]
/-- found (the last one first), high -/
def woodStep (pool : Tx) (most : Int) (q : List Plc × Int) (dr : Int) : List Plc × Int :=
  let b0 := dr % 4
  let b1 := if mny b0 > q.2 then 0 else b0
  let b2 := if (q.1.length : Int) + q.2 + 1 - mny b1 > most ∧ q.2 > 1 then 3 else b1
  if (q.1.length : Int) + q.2 + 1 - mny b2 ≤ most then ((b2, marksI pool (dr / 4 % 16)) :: q.1, q.2 + 1 - mny b2) else q
def woodSt (pool : Tx) (most : Int) (ds : List Int) : Nat → List Plc × Int
  | 0 => ([], 0)
  | i + 1 => woodStep pool most (woodSt pool most ds i) (ds.getD i 0)
def WI (q : List Plc × Int) : Prop := Wd (q.1.map (·.1)) ∧ hgt (q.1.map (·.1)) = q.2
theorem woodStep_ok {pool : Tx} {most : Int} {q : List Plc × Int} (dr : Int) (h : WI q) : WI (woodStep pool most q dr) ∧ (woodStep pool most q dr).1.length ≤ q.1.length + 1 := by
  obtain ⟨f, hi⟩ := q
  obtain ⟨h1, h2⟩ := h
  have hh := hgt_le h1
  simp only at h1 h2 hh
  unfold woodStep
  have d0 : 0 ≤ dr % 4 := Int.emod_nonneg _ (by omega)
  have d1 : dr % 4 < 4 := Int.emod_lt_of_pos _ (by omega)
  simp only
  generalize hb1 : (if mny (dr % 4) > hi then 0 else dr % 4) = b1
  have q1 : 0 ≤ b1 ∧ b1 ≤ 3 ∧ mny b1 ≤ hi := by
    subst hb1
    split
    · refine ⟨by omega, by omega, ?_⟩
      unfold mny; omega
    · refine ⟨d0, by omega, by omega⟩
  generalize hb2 : (if (f.length : Int) + hi + 1 - mny b1 > most ∧ hi > 1 then 3 else b1) = b2
  have q2 : 0 ≤ b2 ∧ b2 ≤ 3 ∧ mny b2 ≤ hi := by
    subst hb2
    split
    · refine ⟨by omega, by omega, ?_⟩
      unfold mny; omega
    · exact q1
  split
  · refine ⟨⟨?_, ?_⟩, by simp⟩
    · exact ⟨q2.1, q2.2.1, by rw [h2]; exact q2.2.2, h1⟩
    · show hgt (List.map (·.1) f) + 1 - mny b2 = _
      rw [h2]
  · exact ⟨⟨h1, h2⟩, by simp⟩
theorem woodSt_ok (pool : Tx) (most : Int) (ds : List Int) : ∀ i, WI (woodSt pool most ds i) ∧ (woodSt pool most ds i).1.length ≤ i
  | 0 => ⟨⟨trivial, rfl⟩, Nat.le_refl _⟩
  | i + 1 => by
    obtain ⟨h1, h2⟩ := woodSt_ok pool most ds i
    have := woodStep_ok (pool := pool) (most := most) (ds.getD i 0) h1
    exact ⟨this.1, by have := this.2; rw [woodSt]; omega⟩
/-- two trees are made one till one is left -/
def woodEnd (f : List Plc) : Nat → List Plc
  | 0 => f
  | 1 => f
  | h + 2 => woodEnd ((3, ((f.reverse[h + 1]?).getD (0, [])).2) :: f) (h + 1)
theorem woodEnd_ok : ∀ (h : Nat) (f : List Plc), WI (f, (h : Int)) → Wd ((woodEnd f h).map (·.1)) ∧ hgt ((woodEnd f h).map (·.1)) = (if h = 0 then 0 else 1) ∧ (woodEnd f h).length ≤ f.length + h
  | 0, f, w => ⟨w.1, w.2, Nat.le_refl _⟩
  | 1, f, w => ⟨w.1, w.2, Nat.le_add_right _ _⟩
  | h + 2, f, w => by
    rw [woodEnd]
    have := woodEnd_ok (h + 1) ((3, ((f.reverse[h + 1]?).getD (0, [])).2) :: f) ⟨⟨by show (0 : Int) ≤ 3; omega, by show (3 : Int) ≤ 3; omega, by
      have := w.2
      simp only at this
      rw [this]
      show (3 + 1) / 2 ≤ _
      omega, w.1⟩, by
      have := w.2
      simp only at this
      show hgt (f.map (·.1)) + 1 - mny 3 = _
      rw [this]
      show _ - (3 + 1) / 2 = _
      omega⟩
    refine ⟨this.1, by rw [this.2.1]; simp, by have := this.2.2; simp only [List.length_cons] at this; omega⟩
/-- the places in their order -/
def woodI (pool : Tx) (most : Int) (ds : List Int) : List Plc := (woodEnd (woodSt pool most ds ds.length).1 (woodSt pool most ds ds.length).2.toNat).reverse
/-- a tree's places -/
def IsTree (t : List Plc) : Prop := Wd (t.map (·.1)).reverse ∧ hgt (t.map (·.1)).reverse = (if t = [] then 0 else 1)
theorem woodI_ok (pool : Tx) (most : Int) (ds : List Int) : IsTree (woodI pool most ds) ∧ (woodI pool most ds).length ≤ 2 * ds.length := by
  obtain ⟨h1, h2⟩ := woodSt_ok pool most ds ds.length
  unfold woodI
  generalize woodSt pool most ds ds.length = q at h1 h2
  obtain ⟨f, hi⟩ := q
  have hh := hgt_le h1.1
  have e : hgt (f.map (·.1)) = hi := h1.2
  rw [e] at hh
  simp only [List.length_map] at hh h2
  obtain ⟨w1, w2, w3⟩ := woodEnd_ok hi.toNat f ⟨h1.1, by rw [show ((hi.toNat : Nat) : Int) = hi by omega]; exact e⟩
  refine ⟨⟨?_, ?_⟩, by rw [List.length_reverse]; simp only; omega⟩
  · rw [List.map_reverse, List.reverse_reverse]; exact w1
  · rw [List.map_reverse, List.reverse_reverse, w2]
    by_cases hz : hi.toNat = 0
    · rw [if_pos hz]
      rw [hz] at w2 ⊢
      have : f = [] := by
        by_cases q : f = []
        · exact q
        · exfalso
          -- a wood that stands has a top
          have pos : ∀ bs : List Int, Wd bs → bs ≠ [] → 0 < hgt bs := by
            intro bs w n
            cases bs with
            | nil => exact absurd rfl n
            | cons b r =>
              obtain ⟨_, _, m1, w'⟩ := w
              rw [hgt]
              omega
          have := pos _ h1.1 (by simpa using q)
          rw [e] at this
          omega
      subst this
      simp [woodEnd]
    · rw [if_neg hz, if_neg]
      intro q
      have : woodEnd f hi.toNat = [] := by simpa using q
      rw [this] at w2
      simp [hgt, hz] at w2
section
variable {Δ : Prog} {m d : Nat}
theorem sp_wood (h : Has Δ "_law_wood" 3 8 b__law_wood) (hmk : Has Δ "_law_marks" 2 3 b__law_marks) (ds : List Int) (pool : Tx) (most : Int) (hp : pool.length < 64) (hl : ds.length ≤ 100000) (hf : 200000 < m) (s : Store) :
    Φ Δ m (d + 2) "_law_wood" [.d (.lst (ds.map .int)), .d (.str pool), .d (.int most)] s = .ok (.d (.tup ((woodI pool most ds).map plD))) s := by
  rw [h.run rfl]
  unfold b__law_wood
  have key := forL_inv (w := ⟨ds.map .int, none⟩) (n := s.length + 1) (tg := .name 5) (body := fun e s => evSs (cxΔ Δ m (d + 1)) b__law_wood_1 e s)
    (env := [some (.d (.lst (ds.map .int))), some (.d (.str pool)), some (.d (.int most)), some (.ref s.length), some (.d (.int 0)), none, none, none]) (s := s ++ [.lst []])
    (fun i env s1 => (∃ g1 g2 g3, env = [some (.d (.lst (ds.map .int))), some (.d (.str pool)), some (.d (.int most)), some (.ref s.length), some (.d (.int (woodSt pool most ds i).2)), g1, g2, g3]) ∧ s1 = s ++ [.lst ((woodSt pool most ds i).1.reverse.map plD)])
    ⟨⟨_, _, _, rfl⟩, rfl⟩ (by
    rintro i dd env s1 hdd ⟨⟨g1, g2, g3, rfl⟩, rfl⟩
    have hdd : (ds.map D.int)[i]? = some dd := hdd
    rw [List.getElem?_map] at hdd
    have hi : i < ds.length := by
      rcases Nat.lt_or_ge i ds.length with q | q
      · exact q
      · rw [List.getElem?_eq_none q] at hdd; cases hdd
    rw [List.getElem?_eq_getElem hi] at hdd
    cases hdd
    refine ⟨rfl, _, rfl, ?_⟩
    have hgd : ds.getD i 0 = ds[i] := by rw [List.getD_eq_getElem?_getD, List.getElem?_eq_getElem hi]; rfl
    rw [woodSt, hgd]
    have hlen := (woodSt_ok pool most ds i).2
    generalize woodSt pool most ds i = q at hlen
    obtain ⟨f, hi'⟩ := q
    simp only at hlen
    have hll : f.length < line := by show f.length < 16777216; omega
    have hlb : 2 ≤ line := by decide
    have mk := sp_marks (m := m) (d := d) hmk pool (ds[i] / 4 % 16) hp
    unfold woodStep b__law_wood_1
    simp only [mny]
    have mny3 : ((3 : Int) + 1) / 2 = 2 := by omega
    by_cases c1 : hi' < (ds[i] % 4 + 1) / 2
    · by_cases A : most < (f.length : Int) + hi' + 1
      · by_cases B : 1 < hi'
        · by_cases C : (f.length : Int) + hi' + 1 - 2 ≤ most
          · simp [c1, A, B, C, mk, hmk.has, st0, set0, takj, hll, hlb, plD]
          · simp [c1, A, B, C, mk, hmk.has, st0, set0, takj, hll, hlb, plD]
        · have C : ¬ (f.length : Int) + hi' + 1 ≤ most := by omega
          simp [c1, A, B, C, mk, hmk.has, st0, set0, takj, hll, hlb, plD]
      · have C : (f.length : Int) + hi' + 1 ≤ most := by omega
        have B := True.intro
        simp [c1, A, B, C, mk, hmk.has, st0, set0, takj, hll, hlb, plD]
    · by_cases A : most < (f.length : Int) + hi' + 1 - (ds[i] % 4 + 1) / 2
      · by_cases B : 1 < hi'
        · by_cases C : (f.length : Int) + hi' + 1 - 2 ≤ most
          · simp [c1, A, B, C, mk, hmk.has, st0, set0, takj, hll, hlb, plD]
          · simp [c1, A, B, C, mk, hmk.has, st0, set0, takj, hll, hlb, plD]
        · have C : ¬ (f.length : Int) + hi' + 1 - (ds[i] % 4 + 1) / 2 ≤ most := by omega
          simp [c1, A, B, C, mk, hmk.has, st0, set0, takj, hll, hlb, plD]
      · have C : (f.length : Int) + hi' + 1 - (ds[i] % 4 + 1) / 2 ≤ most := by omega
        have B := True.intro
        simp [c1, A, B, C, mk, hmk.has, st0, set0, takj, hll, hlb, plD]) (fun _ _ _ => rfl)
  obtain ⟨env', s', h1, ⟨g1, g2, g3, h2⟩, h3⟩ := key
  simp only [List.length_map] at h2 h3
  unfold woodI
  obtain ⟨w1, w2⟩ := woodSt_ok pool most ds ds.length
  generalize woodSt pool most ds ds.length = q at h2 h3 w1 w2
  obtain ⟨f, hi⟩ := q
  have hh := hgt_le w1.1
  have e : hgt (f.map (·.1)) = hi := w1.2
  rw [e] at hh
  simp only [List.length_map] at hh w2 h2 h3 ⊢
  subst h2 h3
  have k2 := whileL_inv (n := s.length + 1) (test := fun e s => evT (cxΔ Δ m (d + 1)) t__law_wood_2 e s) (body := fun e s => evSs (cxΔ Δ m (d + 1)) b__law_wood_3 e s)
    (I := fun h env s1 => ∃ (f' : List Plc), (∃ g1 g2 g3, env = [some (.d (.lst (ds.map .int))), some (.d (.str pool)), some (.d (.int most)), some (.ref s.length), some (.d (.int (h : Int))), g1, g2, g3]) ∧ s1 = s ++ [.lst (f'.reverse.map plD)] ∧ woodEnd f' h = woodEnd f hi.toNat ∧ h ≤ f'.length ∧ f'.length + h ≤ 300000)
    (J := fun env s1 => (∃ g0 g1 g2 g3, env = [some (.d (.lst (ds.map .int))), some (.d (.str pool)), some (.d (.int most)), some (.ref s.length), g0, g1, g2, g3]) ∧ s1 = s ++ [.lst ((woodEnd f hi.toNat).reverse.map plD)]) (by
    rintro h env s1 ⟨f', ⟨g1, g2, g3, rfl⟩, rfl, hw, hle, hle2⟩
    by_cases c : 1 < h
    · right
      have c' : (1 : Int) < (h : Int) := by omega
      refine ⟨s ++ [.lst (f'.reverse.map plD)], by unfold t__law_wood_2; simp [c'], ?_⟩
      obtain ⟨h', rfl⟩ : ∃ h', h = h' + 2 := ⟨h - 2, by omega⟩
      rw [woodEnd] at hw
      have hil : h' + 1 < f'.reverse.length := by rw [List.length_reverse]; omega
      have hge : (f'.reverse)[h' + 1]? = some ((f'.reverse)[h' + 1]'hil) := List.getElem?_eq_getElem hil
      rw [hge] at hw
      generalize (f'.reverse)[h' + 1]'hil = p at hge hw
      obtain ⟨pb, pm⟩ := p
      have hat : L2.atI ((f'.reverse).map plD) ((h' : Int) + 2 - 1) = some (plD (pb, pm)) := by
        rw [show (h' : Int) + 2 - 1 = ((h' + 1 : Nat) : Int) by omega, atI_nat (by rw [List.length_map, List.length_reverse]; omega), List.getElem?_map, hge]
        rfl
      have a1 : L2.atI [D.int pb, D.str pm] 1 = some (D.str pm) := rfl
      have hll : f'.length < line := by show f'.length < 16777216; omega
      have hlb : 2 ≤ line := by decide
      rw [List.map_reverse] at hat
      unfold b__law_wood_3
      have hat2 : L2.atI (List.map plD f').reverse ((h' : Int) + 1 + 1 - 1) = some (plD (pb, pm)) := by rw [show (h' : Int) + 1 + 1 - 1 = h' + 2 - 1 by omega]; exact hat
      simp [st0, set0, takj, hat, hat2, plD, a1, hll, hlb]
      refine ⟨h' + 1, by omega, by omega, (3, pm) :: f', by simp [plD], hw, by simp; omega, by simp; omega⟩
    · left
      refine ⟨s ++ [.lst (f'.reverse.map plD)], by unfold t__law_wood_2; simp; omega, ⟨_, _, _, _, rfl⟩, ?_⟩
      have : woodEnd f' h = f' := by
        match h, c with
        | 0, _ => rw [woodEnd]
        | 1, _ => rw [woodEnd]
        | h + 2, c => exact absurd c (by omega)
      rw [← hw, this])
    m hi.toNat [some (.d (.lst (ds.map .int))), some (.d (.str pool)), some (.d (.int most)), some (.ref s.length), some (.d (.int hi)), g1, g2, g3] (s ++ [.lst (f.reverse.map plD)])
    ⟨f, ⟨_, _, _, by rw [show ((hi.toNat : Nat) : Int) = hi by omega]⟩, rfl, rfl, by omega, by omega⟩ (by omega)
  obtain ⟨env', s', k1, ⟨g0, g1', g2', g3', k2⟩, k3⟩ := k2
  subst k2 k3
  rw [List.map_reverse] at h1 k1
  rw [List.map_reverse]
  simp [h1, k1, st0, tak0]
end
end Pv

/-! Links and sizes. -/
namespace Pv
open PySem
/-- the tops that wait behind the places r (the last first) -/
def stk : List Int → List Int
  | [] => []
  | b :: r => (r.length : Int) :: (stk r).drop (mny b).toNat
def lft (b : Int) (r : List Int) : Option Int := if b = 1 then (stk r)[0]? else if b = 3 then (stk r)[1]? else none
def rgt (b : Int) (r : List Int) : Option Int := if 2 ≤ b then (stk r)[0]? else none
def oD : Option Int → D
  | some i => .int i
  | none => .non
def lnkR : List Int → List D
  | [] => []
  | b :: r => .tup [oD (lft b r), oD (rgt b r)] :: lnkR r
def atR (l : List Int) (p : Int) : Int := (l.reverse[p.toNat]?).getD 0
def szR : List Int → List Int
  | [] => []
  | b :: r => (1 + (match lft b r with | some p => atR (szR r) p | none => 0) + (match rgt b r with | some p => atR (szR r) p | none => 0)) :: szR r
theorem szR_len : ∀ r, (szR r).length = r.length
  | [] => rfl
  | b :: r => by rw [szR, List.length_cons, List.length_cons, szR_len r]
theorem lnkR_len : ∀ r, (lnkR r).length = r.length
  | [] => rfl
  | b :: r => by rw [lnkR, List.length_cons, List.length_cons, lnkR_len r]
theorem stk_len : ∀ {r : List Int}, Wd r → ((stk r).length : Int) = hgt r
  | [], _ => rfl
  | b :: r, h => by
    obtain ⟨h0, h3, h1, h2⟩ := h
    have ih := stk_len h2
    rw [stk, List.length_cons, List.length_drop, hgt]
    have : 0 ≤ mny b := by unfold mny; omega
    omega
/-- the chain of tops: each one right ahead of the part above it -/
def Chn (sz : Int → Int) : Int → List Int → Prop
  | p, [] => p = -1
  | p, q :: l => q = p ∧ 0 ≤ p ∧ Chn sz (p - sz p) l
theorem Chn.congr {sz sz' : Int → Int} : ∀ {l : List Int} {p n : Int}, Chn sz p l → p < n → (∀ i, 0 ≤ i → i < n → sz i = sz' i ∧ 1 ≤ sz i) → Chn sz' p l
  | [], p, n, h, _, _ => h
  | q :: l, p, n, h, hp, e => by
    obtain ⟨h1, h2, h3⟩ := h
    have := e p h2 hp
    refine ⟨h1, h2, ?_⟩
    rw [← this.1]
    exact Chn.congr (n := n) h3 (by omega) e
theorem Chn.le {sz : Int → Int} : ∀ {l : List Int} {p n : Int}, Chn sz p l → p < n → (∀ i, 0 ≤ i → i < n → 1 ≤ sz i) → ∀ q ∈ l, 0 ≤ q ∧ q ≤ p
  | [], p, n, h, _, _ => fun q hq => by cases hq
  | x :: l, p, n, h, hp, e => by
    obtain ⟨rfl, h2, h3⟩ := h
    intro q hq
    rcases List.mem_cons.mp hq with rfl | hq
    · omega
    · have h1 := e x h2 hp
      have := Chn.le (n := n) h3 (by omega) e q hq
      omega
theorem atR_old {l : List Int} {x p : Int} (h0 : 0 ≤ p) (h1 : p < l.length) : atR (x :: l) p = atR l p := by
  unfold atR
  rw [List.reverse_cons, List.getElem?_append_left (by rw [List.length_reverse]; omega)]
theorem atR_new {l : List Int} {x : Int} : atR (x :: l) l.length = x := by
  unfold atR
  rw [List.reverse_cons, Int.toNat_natCast, List.getElem?_append_right (by rw [List.length_reverse]; exact Nat.le_refl _), List.length_reverse, Nat.sub_self]
  rfl
theorem four {b : Int} (h0 : 0 ≤ b) (h3 : b ≤ 3) : b = 0 ∨ b = 1 ∨ b = 2 ∨ b = 3 := by omega
theorem tree_chain : ∀ {r : List Int}, Wd r → Chn (atR (szR r)) ((r.length : Int) - 1) (stk r) ∧ ∀ i, 0 ≤ i → i < (r.length : Int) → 1 ≤ atR (szR r) i
  | [], _ => ⟨rfl, fun i h0 h1 => absurd h1 (by simp; omega)⟩
  | b :: r, w => by
    obtain ⟨h0, h3, h1, h2⟩ := w
    obtain ⟨ch, ps⟩ := tree_chain h2
    have hl := stk_len h2
    have sl := szR_len r
    have pos : ∀ p ∈ stk r, 1 ≤ atR (szR r) p := fun p hp => by
      have := Chn.le (n := r.length) ch (by omega) ps p hp
      exact ps p this.1 (by omega)
    have le := Chn.le (n := r.length) ch (by omega) ps
    have old : ∀ x i, 0 ≤ i → i < (r.length : Int) → atR (szR r) i = atR (x :: szR r) i ∧ 1 ≤ atR (szR r) i := fun x i a b => ⟨(atR_old a (by rw [sl]; exact b)).symm, ps i a b⟩
    have new : ∀ x, atR (x :: szR r) (r.length : Int) = x := fun x => by rw [← sl]; exact atR_new
    refine ⟨?_, ?_⟩
    · rw [stk, szR, List.length_cons]
      refine ⟨by omega, by omega, ?_⟩
      rw [show ((r.length + 1 : Nat) : Int) - 1 = r.length by omega, new]
      rcases four h0 h3 with rfl | rfl | rfl | rfl
      · rw [show (r.length : Int) - _ = r.length - 1 by simp [lft, rgt]]
        exact ch.congr (n := r.length) (by omega) (old _)
      · cases hs : stk r with
        | nil => rw [hs] at hl; simp [mny] at h1 hl; omega
        | cons t l =>
          rw [hs] at ch
          obtain ⟨e, e0, c⟩ := ch
          rw [show (r.length : Int) - _ = r.length - 1 - atR (szR r) (r.length - 1) by simp [lft, rgt, hs, e]; omega]
          have := ps _ e0 (by omega)
          exact c.congr (n := r.length) (by omega) (old _)
      · cases hs : stk r with
        | nil => rw [hs] at hl; simp [mny] at h1 hl; omega
        | cons t l =>
          rw [hs] at ch
          obtain ⟨e, e0, c⟩ := ch
          rw [show (r.length : Int) - _ = r.length - 1 - atR (szR r) (r.length - 1) by simp [lft, rgt, hs, e]; omega]
          have := ps _ e0 (by omega)
          exact c.congr (n := r.length) (by omega) (old _)
      · match hs : stk r with
        | [] => rw [hs] at hl; simp [mny] at h1 hl; omega
        | [t] => rw [hs] at hl; simp [mny] at h1 hl; omega
        | t :: t1 :: l =>
          rw [hs] at ch
          obtain ⟨e, e0, e1, e2, c⟩ := ch
          have q1 := ps _ e0 (by omega)
          have q2 := ps _ e2 (by omega)
          rw [show (r.length : Int) - _ = r.length - 1 - atR (szR r) (r.length - 1) - atR (szR r) (r.length - 1 - atR (szR r) (r.length - 1)) by simp [lft, rgt, hs, e, e1]; omega]
          exact c.congr (n := r.length) (by omega) (old _)
    · intro i a b'
      rw [List.length_cons] at b'
      rw [szR]
      by_cases q : i < r.length
      · rw [← (old _ i a q).1]; exact ps i a q
      · have : i = r.length := by omega
        subst this
        rw [new]
        have l0 : ∀ p, lft b r = some p → 1 ≤ atR (szR r) p := fun p hp => by
          unfold lft at hp
          split at hp
          · exact pos p (List.mem_of_getElem? hp)
          · split at hp
            · exact pos p (List.mem_of_getElem? hp)
            · cases hp
        have r0 : ∀ p, rgt b r = some p → 1 ≤ atR (szR r) p := fun p hp => by
          unfold rgt at hp
          split at hp
          · exact pos p (List.mem_of_getElem? hp)
          · cases hp
        split <;> split <;> rename_i x y <;> first | omega | (have := l0 _ ‹_›; have := r0 _ ‹_›; omega) | (have := l0 _ ‹_›; omega) | (have := r0 _ ‹_›; omega)
/-- the last one first: the places up to i -/
def pre (t : List Plc) (i : Nat) : List Int := ((t.take i).map (·.1)).reverse
theorem pre_succ {t : List Plc} {i : Nat} (h : i < t.length) : pre t (i + 1) = t[i].1 :: pre t i := by
  unfold pre
  rw [List.take_succ_eq_append_getElem h, List.map_append, List.reverse_append]
  rfl
theorem pre_len {t : List Plc} {i : Nat} (h : i ≤ t.length) : (pre t i).length = i := by
  unfold pre
  rw [List.length_reverse, List.length_map, List.length_take, Nat.min_eq_left h]
theorem Wd.tail {a : List Int} : ∀ {p : List Int}, Wd (p ++ a) → Wd a
  | [], h => h
  | _ :: p, h => Wd.tail (p := p) h.2.2.2
theorem pre_wd {t : List Plc} (w : Wd (t.map (·.1)).reverse) (i : Nat) : Wd (pre t i) := by
  have e : (t.map (·.1)).reverse = ((t.drop i).map (·.1)).reverse ++ pre t i := by
    unfold pre
    rw [← List.reverse_append, ← List.map_append, List.take_append_drop]
  rw [e] at w
  exact w.tail
theorem pre_all (t : List Plc) : pre t t.length = (t.map (·.1)).reverse := by unfold pre; rw [List.take_length]
def linksI (t : List Plc) : List D := (lnkR (t.map (·.1)).reverse).reverse
def sizesI (t : List Plc) : List Int := (szR (t.map (·.1)).reverse).reverse
theorem stk_in {r : List Int} (w : Wd r) : ∀ q ∈ stk r, 0 ≤ q ∧ q < (r.length : Int) := fun q hq => by
  obtain ⟨ch, ps⟩ := tree_chain w
  have := Chn.le (n := r.length) ch (by omega) ps q hq
  omega
theorem ixD {t : List Plc} {i : Nat} (h : i < t.length) : L2.atI (t.map plD) (i : Int) = some (plD t[i]) := by
  rw [atI_nat (by rw [List.length_map]; exact h), List.getElem?_map, List.getElem?_eq_getElem h]
  rfl
section
variable {Δ : Prog} {m d : Nat}
theorem ix0 (a b : D) : L2.atI [a, b] 0 = some a := rfl
theorem ix1 (a b : D) : L2.atI [a, b] 1 = some b := rfl
theorem sp_links (h : Has Δ "links_of" 1 7 b_links_of) (t : List Plc) (w : Wd (t.map (·.1)).reverse) (hl : t.length < line) (s : Store) :
    Φ Δ m (d + 1) "links_of" [.d (.tup (t.map plD))] s = .ok (.d (.tup (linksI t))) s := by
  rw [h.run rfl]
  unfold b_links_of
  have key := forL_inv (w := ⟨rangeL 0 t.length, none⟩) (n := s.length + 2) (tg := .name 3) (body := fun e s => evSs (cxΔ Δ m d) b_links_of_1 e s)
    (env := [some (.d (.tup (t.map plD))), some (.ref s.length), some (.ref (s.length + 1)), none, none, none, none]) (s := s ++ [.lst [], .lst []])
    (fun i env s1 => (∃ g1 g2 g3 g4, env = [some (.d (.tup (t.map plD))), some (.ref s.length), some (.ref (s.length + 1)), g1, g2, g3, g4]) ∧ s1 = s ++ [.lst (lnkR (pre t i)).reverse, .lst ((stk (pre t i)).reverse.map .int)])
    ⟨⟨_, _, _, _, rfl⟩, rfl⟩ (by
    rintro i dd env s1 hdd ⟨⟨g1, g2, g3, g4, rfl⟩, rfl⟩
    obtain ⟨hi, rfl⟩ := rl_get _ hdd
    refine ⟨rfl, _, rfl, ?_⟩
    have hix := ixD hi
    have wd := pre_wd w (i + 1)
    rw [pre_succ hi] at wd ⊢
    have pl := pre_len (t := t) (i := i) (by omega)
    obtain ⟨w0, w3, w1, w2⟩ := wd
    have sl := stk_len w2
    have hll : (lnkR (pre t i)).length < line := by rw [lnkR_len, pl]; omega
    have hls : (stk (pre t i)).length < line := by have := hgt_le w2; rw [pl] at this; omega
    have hlb : 2 ≤ line := by decide
    unfold b_links_of_1
    rw [lnkR, stk, pl]
    generalize hb : t[i].1 = b at w0 w3 w1
    have hix : L2.atI (t.map plD) (i : Int) = some (.tup [.int b, .str t[i].2]) := by rw [hix, ← hb]; rfl
    generalize pre t i = r at *
    have h20 : ¬ (2 : Int) ≤ 0 := by omega
    have h21 : ¬ (2 : Int) ≤ 1 := by omega
    rcases four w0 w3 with rfl | rfl | rfl | rfl
    · simp [hix, ix0, st0, stj, set0, setj, takj, hll, hls, hlb, lft, rgt, oD, mny]
    · cases hs : stk r with
      | nil => rw [hs] at sl; simp [mny] at w1 sl; omega
      | cons t0 l =>
        rw [hs] at hls
        simp only [List.length_cons] at hls
        have hls' : l.length < line := by omega
        simp [hix, ix0, st0, stj, set0, setj, takj, hll, hls', hlb, lft, rgt, oD, mny, hs]
    · cases hs : stk r with
      | nil => rw [hs] at sl; simp [mny] at w1 sl; omega
      | cons t0 l =>
        rw [hs] at hls
        simp only [List.length_cons] at hls
        have hls' : l.length < line := by omega
        simp [hix, ix0, st0, stj, set0, setj, takj, hll, hls', hlb, lft, rgt, oD, mny, hs]
    · match hs : stk r with
      | [] => rw [hs] at sl; simp [mny] at w1 sl; omega
      | [t0] => rw [hs] at sl; simp [mny] at w1 sl; omega
      | t0 :: t1 :: l =>
        rw [hs] at hls
        simp only [List.length_cons] at hls
        have hls' : l.length < line := by omega
        simp [hix, ix0, st0, stj, set0, setj, takj, hll, hls', hlb, lft, rgt, oD, mny, hs]) (fun _ _ _ => rfl)
  obtain ⟨env', s', h1, ⟨g1, g2, g3, g4, h2⟩, h3⟩ := key
  simp only [rl_len] at h2 h3
  subst h2 h3
  have hr := lenR_ok (Nat.le_of_lt hl)
  rw [pre_all] at h1
  simp [hr, h1, st0, tak0, linksI]
theorem lnkR_at (b : Int) (r : List Int) : ∀ p : List Int, (lnkR (p ++ b :: r)).reverse[r.length]? = some (.tup [oD (lft b r), oD (rgt b r)])
  | [] => by
    show ((.tup [oD (lft b r), oD (rgt b r)] :: lnkR r).reverse)[r.length]? = _
    rw [List.reverse_cons, List.getElem?_append_right (by rw [List.length_reverse, lnkR_len]; exact Nat.le_refl _), List.length_reverse, lnkR_len, Nat.sub_self]
    rfl
  | x :: p => by
    show ((.tup [oD (lft x (p ++ b :: r)), oD (rgt x (p ++ b :: r))] :: lnkR (p ++ b :: r)).reverse)[r.length]? = _
    rw [List.reverse_cons, List.getElem?_append_left (by rw [List.length_reverse, lnkR_len, List.length_append, List.length_cons]; omega)]
    exact lnkR_at b r p
theorem pre_split {t : List Plc} {i : Nat} (h : i < t.length) : ∃ p, (t.map (·.1)).reverse = p ++ t[i].1 :: pre t i := by
  refine ⟨((t.drop (i + 1)).map (·.1)).reverse, ?_⟩
  rw [← pre_succ h]
  unfold pre
  rw [← List.reverse_append, ← List.map_append, List.take_append_drop]
theorem linksI_at {t : List Plc} {i : Nat} (h : i < t.length) : (linksI t)[i]? = some (.tup [oD (lft t[i].1 (pre t i)), oD (rgt t[i].1 (pre t i))]) := by
  obtain ⟨p, e⟩ := pre_split h
  unfold linksI
  rw [e]
  have := lnkR_at t[i].1 (pre t i) p
  rw [pre_len (by omega)] at this
  exact this
theorem linksI_len (t : List Plc) : (linksI t).length = t.length := by
  unfold linksI
  rw [List.length_reverse, lnkR_len, List.length_reverse, List.length_map]
theorem atR_ix {r : List Int} {p : Int} (h0 : 0 ≤ p) (h1 : p < r.length) : L2.atI (List.map D.int r).reverse p = some (.int (atR r p)) := by
  rw [atI_pos h0 (by rw [List.length_reverse, List.length_map]; exact h1), ← List.map_reverse, List.getElem?_map]
  unfold atR
  have : p.toNat < r.reverse.length := by rw [List.length_reverse]; omega
  rw [List.getElem?_eq_getElem this]
  rfl
theorem lft_in {b : Int} {r : List Int} (w : Wd r) {p : Int} (h : lft b r = some p) : 0 ≤ p ∧ p < (r.length : Int) := by
  unfold lft at h
  split at h
  · exact stk_in w p (List.mem_of_getElem? h)
  · split at h
    · exact stk_in w p (List.mem_of_getElem? h)
    · cases h
theorem rgt_in {b : Int} {r : List Int} (w : Wd r) {p : Int} (h : rgt b r = some p) : 0 ≤ p ∧ p < (r.length : Int) := by
  unfold rgt at h
  split at h
  · exact stk_in w p (List.mem_of_getElem? h)
  · cases h
theorem sp_sizes (h : Has Δ "sizes_of" 1 5 b_sizes_of) (hL : Has Δ "links_of" 1 7 b_links_of) (t : List Plc) (w : Wd (t.map (·.1)).reverse) (hl : t.length < line) (s : Store) :
    Φ Δ m (d + 2) "sizes_of" [.d (.tup (t.map plD))] s = .ok (.d (.tup ((sizesI t).map .int))) s := by
  rw [h.run rfl]
  unfold b_sizes_of
  have hlk := sp_links (m := m) (d := d) hL t w hl
  have key := forL_inv (w := ⟨linksI t, none⟩) (n := s.length + 1) (tg := .tup (.cons (.name 2) (.cons (.name 3) .nil))) (body := fun e s => evSs (cxΔ Δ m (d + 1)) b_sizes_of_1 e s)
    (env := [some (.d (.tup (t.map plD))), some (.ref s.length), none, none, none]) (s := s ++ [.lst []])
    (fun i env s1 => (∃ g1 g2 g3, env = [some (.d (.tup (t.map plD))), some (.ref s.length), g1, g2, g3]) ∧ s1 = s ++ [.lst ((szR (pre t i)).reverse.map .int)])
    ⟨⟨_, _, _, rfl⟩, rfl⟩ (by
    rintro i dd env s1 hdd ⟨⟨g1, g2, g3, rfl⟩, rfl⟩
    have hdd : (linksI t)[i]? = some dd := hdd
    have hi : i < t.length := by
      rcases Nat.lt_or_ge i t.length with q | q
      · exact q
      · rw [List.getElem?_eq_none (by rw [linksI_len]; exact q)] at hdd; cases hdd
    rw [linksI_at hi] at hdd
    cases hdd
    have wd := pre_wd w i
    rw [pre_succ hi]
    have pl := pre_len (t := t) (i := i) (by omega)
    generalize t[i].1 = b
    generalize pre t i = r at wd pl
    have hsl : (szR r).length < line := by rw [szR_len]; omega
    have sl := szR_len r
    unfold b_sizes_of_1
    rw [szR]
    cases hL' : lft b r with
    | none =>
      cases hR' : rgt b r with
      | none =>
        refine ⟨rfl, _, rfl, ?_⟩
        simp [oD, st0, set0, takj, hsl]
      | some p =>
        obtain ⟨p0, p1⟩ := rgt_in wd hR'
        have a := atR_ix (r := szR r) p0 (by omega)
        refine ⟨rfl, _, rfl, ?_⟩
        simp [oD, st0, set0, takj, hsl, a]
    | some q =>
      obtain ⟨q0, q1⟩ := lft_in wd hL'
      have a' := atR_ix (r := szR r) q0 (by omega)
      cases hR' : rgt b r with
      | none =>
        refine ⟨rfl, _, rfl, ?_⟩
        simp [oD, st0, set0, takj, hsl, a']
      | some p =>
        obtain ⟨p0, p1⟩ := rgt_in wd hR'
        have a := atR_ix (r := szR r) p0 (by omega)
        refine ⟨rfl, _, rfl, ?_⟩
        simp [oD, st0, set0, takj, hsl, a, a']) (fun _ _ _ => rfl)
  obtain ⟨env', s', h1, ⟨g1, g2, g3, h2⟩, h3⟩ := key
  simp only [linksI_len] at h2 h3
  subst h2 h3
  rw [pre_all] at h1
  simp [hlk, hL.has, h1, st0, tak0, sizesI]
theorem sizesI_len (t : List Plc) : (sizesI t).length = t.length := by
  unfold sizesI
  rw [List.length_reverse, szR_len, List.length_reverse, List.length_map]
end
end Pv

/-! Bodies of defs that many laws have (printed by gen.py). -/
namespace Pv
/- slots of letter_of: 0 names, 1 marks, 2 number, 3 name -/
def b_letter_of_1 : Ss :=
 (.cons (.set 2 (.bin .mul (.int 2) (.var 2)))
 (.cons (.ife (.cmp .isin (.var 3) (.var 1)) (.cons (.set 2 (.bin .add (.var 2) (.int 1)))
 .nil) .nil)
 .nil))
def b_letter_of : Ss :=
 (.cons (.set 2 (.int 0))
 (.cons (.forr (.name 3) (.val (.var 0)) b_letter_of_1)
 (.cons (.ret (.var 2))
 .nil)))
/- slots of marks_of: 0 names, 1 number, 2 found, 3 weight, 4 name -/
def b_marks_of_1 : Ss :=
 (.cons (.set 3 (.bin .fdiv (.var 3) (.int 2)))
 (.cons (.ife (.cmp .ge (.var 1) (.var 3)) (.cons (.set 2 (.bin .add (.var 2) (.var 4)))
 (.cons (.set 1 (.bin .sub (.var 1) (.var 3)))
 .nil)) .nil)
 .nil))
def b_marks_of : Ss :=
 (.cons (.set 2 (.str []))
 (.cons (.set 3 (.bin .shl (.int 1) (.blt .len (.cons (.var 0) .nil))))
 (.cons (.forr (.name 4) (.val (.var 0)) b_marks_of_1)
 (.cons (.ret (.var 2))
 .nil))))
/- slots of _law_letters:  -/
def b__law_letters : Ss :=
 (.cons (.ret (.str [65, 66, 67, 68, 69, 70, 71, 72, 73, 74, 75, 76, 77, 78, 79, 80, 81, 82, 83, 84, 85, 86, 87, 88, 89, 90, 97, 98, 99, 100, 101, 102, 103, 104, 105, 106, 107, 108, 109, 110, 111, 112, 113, 114, 115, 116, 117, 118, 119, 120, 121, 122]))
 .nil)
end Pv

/-! Marks and their numbers. -/
namespace Pv
open PySem
/-- the names read as figures in base two -/
def val : Tx → (Nat → Bool) → Nat
  | [], _ => 0
  | x :: r, P => (if P x = true then 2 ^ r.length else 0) + val r P
/-- the names whose figures are one -/
def mkOf : Tx → Nat → Tx
  | [], _ => []
  | x :: r, n => if 2 ^ r.length ≤ n then x :: mkOf r (n - 2 ^ r.length) else mkOf r n
theorem val_lt (P : Nat → Bool) : ∀ l : Tx, val l P < 2 ^ l.length
  | [] => Nat.one_pos
  | x :: r => by
    have := val_lt P r
    rw [val, List.length_cons, Nat.pow_succ]
    split <;> omega
theorem mk_val (P : Nat → Bool) : ∀ l : Tx, mkOf l (val l P) = l.filter P
  | [] => rfl
  | x :: r => by
    have h := val_lt P r
    have ih := mk_val P r
    rw [mkOf, val]
    cases e : P x with
    | true =>
      rw [if_pos rfl, if_pos (by omega), Nat.add_sub_cancel_left, ih, List.filter_cons_of_pos e]
    | false =>
      simp only [Bool.false_eq_true, if_false, Nat.zero_add]
      rw [if_neg (by omega), ih, List.filter_cons_of_neg (by rw [e]; exact Bool.false_ne_true)]
theorem mkOf_sub : ∀ (l : Tx) (n : Nat), (mkOf l n).Sublist l
  | [], _ => List.Sublist.slnil
  | x :: r, n => by
    rw [mkOf]
    split
    · exact (mkOf_sub r _).cons₂ x
    · exact (mkOf_sub r n).cons x
theorem val_congr {P Q : Nat → Bool} : ∀ {l : Tx}, (∀ x ∈ l, P x = Q x) → val l P = val l Q
  | [], _ => rfl
  | x :: r, h => by
    rw [val, val, h x List.mem_cons_self, val_congr fun y hy => h y (List.mem_cons_of_mem _ hy)]
theorem val_mk : ∀ (l : Tx) (n : Nat), l.Nodup → n < 2 ^ l.length → val l (fun x => decide (x ∈ mkOf l n)) = n
  | [], n, _, h => by simp at h; rw [h]; rfl
  | x :: r, n, nd, h => by
    obtain ⟨nx, nd⟩ := List.nodup_cons.mp nd
    rw [List.length_cons, Nat.pow_succ] at h
    rw [val, mkOf]
    by_cases c : 2 ^ r.length ≤ n
    · rw [if_pos c]
      have ih := val_mk r (n - 2 ^ r.length) nd (by omega)
      rw [if_pos (by simp)]
      rw [val_congr (Q := fun y => decide (y ∈ mkOf r (n - 2 ^ r.length))) fun y hy => by
        have : y ≠ x := fun e => nx (by rw [← e]; exact hy)
        simp [this], ih]
      omega
    · rw [if_neg c]
      have ih := val_mk r n nd (by omega)
      rw [if_neg (by
        simp only [decide_eq_true_eq]
        exact fun q => nx ((mkOf_sub r n).subset q)), ih, Nat.zero_add]
/-- one figure -/
theorem bit_step (n p : Nat) (hp : 0 < p) : (n / p % 2 = 1 ∧ p ≤ n % (p * 2) ∧ n % (p * 2) - p = n % p) ∨ (n / p % 2 = 0 ∧ n % (p * 2) < p ∧ n % (p * 2) = n % p) := by
  have h := Nat.mod_mul (x := n) (a := p) (b := 2)
  have h2 := Nat.mod_lt n hp
  rcases Nat.mod_two_eq_zero_or_one (n / p) with e | e
  · right
    rw [e] at h
    omega
  · left
    rw [e] at h
    omega
section
variable {Δ : Prog} {m d : Nat}
theorem strs_get {z : Tx} {i : Nat} {dd : D} (h : (z.map fun c => D.str [c])[i]? = some dd) : ∃ hi : i < z.length, dd = .str [z[i]] := by
  rw [List.getElem?_map] at h
  have hi : i < z.length := by
    rcases Nat.lt_or_ge i z.length with q | q
    · exact q
    · rw [List.getElem?_eq_none q] at h; cases h
  rw [List.getElem?_eq_getElem hi] at h
  cases h
  exact ⟨hi, rfl⟩
theorem sp_letter_of (h : Has Δ "letter_of" 2 4 b_letter_of) (names marks : Tx) (s : Store) : Φ Δ m (d + 1) "letter_of" [.d (.str names), .d (.str marks)] s = .ok (.d (.int (val names (fun x => decide (x ∈ marks)) : Nat))) s := by
  rw [h.run rfl]
  unfold b_letter_of
  have key := forL_inv (w := ⟨names.map fun c => D.str [c], none⟩) (n := s.length) (tg := .name 3) (body := fun e s => evSs (cxΔ Δ m d) b_letter_of_1 e s)
    (env := [some (.d (.str names)), some (.d (.str marks)), some (.d (.int 0)), none]) (s := s)
    (fun i e s1 => (∃ (acc : Nat) (g : Option Val), e = [some (.d (.str names)), some (.d (.str marks)), some (.d (.int acc)), g] ∧ acc * 2 ^ (names.length - i) + val (names.drop i) (fun x => decide (x ∈ marks)) = val names (fun x => decide (x ∈ marks))) ∧ s1 = s)
    ⟨⟨0, _, rfl, by simp⟩, rfl⟩ (by
    rintro i dd env s1 hdd ⟨⟨acc, g, rfl, hv⟩, rfl⟩
    obtain ⟨hi, rfl⟩ := strs_get hdd
    refine ⟨rfl, _, rfl, ?_⟩
    rw [List.drop_eq_getElem_cons hi, val, List.length_drop] at hv
    have mk : okMul 2 (acc : Int) = true := okM1 (by omega)
    have e1 : names.length - i = (names.length - (i + 1)) + 1 := by omega
    rw [e1, Nat.pow_succ] at hv
    generalize names[i] = c at hv
    unfold b_letter_of_1
    by_cases q : c ∈ marks
    · rw [if_pos (by simpa using q)] at hv
      simp [mk, q]
      refine ⟨acc * 2 + 1, by omega, ?_⟩
      rw [← hv, Nat.add_mul, Nat.one_mul, Nat.mul_assoc, Nat.mul_comm 2]
      omega
    · rw [if_neg (by simpa using q)] at hv
      simp [mk, q]
      refine ⟨acc * 2, by omega, ?_⟩
      rw [← hv, Nat.mul_assoc, Nat.mul_comm 2]
      omega) (fun _ _ _ => rfl)
  obtain ⟨env', s', h1, ⟨acc, g, h2, hv⟩, h3⟩ := key
  simp only [List.length_map, Nat.sub_self, List.drop_length, Nat.pow_zero, Nat.mul_one, val, Nat.add_zero] at hv
  subst h2 h3
  simp [h1, hv]
structure MI (names : Tx) (n : Nat) (i : Nat) (e : Env) : Prop where
  ex : ∃ (k : Nat) (f : Tx) (g : Option Val), e = [some (.d (.str names)), some (.d (.int k)), some (.d (.str f)), some (.d (.int ((2 : Int) ^ (names.length - i)))), g] ∧ k < 2 ^ (names.length - i) ∧ f ++ mkOf (names.drop i) k = mkOf names n ∧ f.length ≤ i
theorem sp_marks_of (h : Has Δ "marks_of" 2 5 b_marks_of) (names : Tx) (n : Nat) (hn : n < 2 ^ names.length) (hl : names.length ≤ 100) (s : Store) : Φ Δ m (d + 1) "marks_of" [.d (.str names), .d (.int n)] s = .ok (.d (.str (mkOf names n))) s := by
  rw [h.run rfl]
  unfold b_marks_of
  have key := forL_inv (w := ⟨names.map fun c => D.str [c], none⟩) (n := s.length) (tg := .name 4) (body := fun e s => evSs (cxΔ Δ m d) b_marks_of_1 e s)
    (env := [some (.d (.str names)), some (.d (.int n)), some (.d (.str [])), some (.d (.int (2 ^ names.length))), none]) (s := s)
    (fun i e s1 => MI names n i e ∧ s1 = s)
    ⟨⟨n, [], _, rfl, hn, by simp, Nat.le_refl _⟩, rfl⟩ (by
    rintro i dd env s1 hdd ⟨⟨k, f, g, rfl, hk, hf, hfl⟩, rfl⟩
    obtain ⟨hi, rfl⟩ := strs_get hdd
    refine ⟨rfl, _, rfl, ?_⟩
    rw [List.drop_eq_getElem_cons hi, mkOf, List.length_drop] at hf
    have e1 : names.length - i = (names.length - (i + 1)) + 1 := by omega
    rw [e1, Nat.pow_succ] at hk
    have e2 : (2 : Int) ^ (names.length - i) / 2 = 2 ^ (names.length - (i + 1)) := by
      rw [e1, Int.pow_succ]
      exact Int.mul_ediv_cancel _ (by omega)
    have e3 : ((2 : Int) ^ (names.length - (i + 1))) = ((2 ^ (names.length - (i + 1)) : Nat) : Int) := by norm_cast
    generalize names[i] = c at hf
    generalize hp : 2 ^ (names.length - (i + 1)) = p at hk hf e3
    have hll : f.length + 1 ≤ line := by show _ ≤ 16777216; omega
    unfold b_marks_of_1
    rw [e3] at e2
    by_cases q : p ≤ k
    · rw [if_pos q] at hf
      have q' : (p : Int) ≤ (k : Int) := by omega
      simp [e2, q', hll]
      exact ⟨k - p, f ++ [c], _, by rw [e3, show (k : Int) - (p : Int) = ((k - p : Nat) : Int) by omega], by rw [hp]; omega, by rw [List.append_assoc]; exact hf, by simp; omega⟩
    · rw [if_neg q] at hf
      have q' : ¬ (p : Int) ≤ (k : Int) := by omega
      simp [e2, q']
      exact ⟨k, f, _, by rw [e3], by rw [hp]; omega, hf, by omega⟩) (fun _ _ _ => rfl)
  obtain ⟨env', s', h1, ⟨k, f, g, h2, _, hf, _⟩, h3⟩ := key
  simp only [List.length_map, List.drop_length, mkOf, List.append_nil] at hf
  subst h2 h3 hf
  have hll : names.length ≤ line := by show _ ≤ 16777216; omega
  have sh : okShl 1 (names.length : Int) = true := by
    unfold okShl
    rw [Bool.and_eq_true, Bool.and_eq_true, decide_eq_true_eq, decide_eq_true_eq, decide_eq_true_eq]
    exact ⟨⟨by omega, by omega⟩, by decide⟩
  simp [hll, sh, h1]
theorem sp_letters (h : Has Δ "_law_letters" 0 0 b__law_letters) (s : Store) : Φ Δ m (d + 1) "_law_letters" [] s = .ok (.d (.str LETTERS)) s := by
  rw [h.run rfl]
  unfold b__law_letters
  simp [LETTERS]
end
end Pv

/-! Bodies of defs that many laws have (printed by gen.py). -/
namespace Pv
/- slots of in_order: 0 letters, 1 sign -/
def x_in_order_1 : E :=
 (.var 1)
def y_in_order_1 : Es :=
 (.cons (.cmp .isin (.var 1) (.var 0)) .nil)
def b_in_order : Ss :=
 (.cons (.ret (.meth .join (.str []) (.cons (.lc x_in_order_1 (.name 1) (.val (.bin .add (.glob "GREAT_LETTERS") (.glob "SMALL_LETTERS"))) y_in_order_1) .nil)))
 .nil)
/- slots of is_row: 0 text -/
def b_is_row : Ss :=
 (.cons (.ret (.cmp .eq (.call "in_order" (.cons (.var 0) .nil)) (.var 0)))
 .nil)
end Pv

/-! Bodies of defs that many laws have (printed by gen.py). -/
namespace Pv
/- slots of is_tree: 0 places, 1 high, 2 branches, 3 marks, 4 many -/
def b_is_tree_1 : Ss :=
 (.cons (.set 4 (.bin .fdiv (.bin .add (.var 2) (.int 1)) (.int 2)))
 (.cons (.ife (.cmp .gt (.var 4) (.var 1)) (.cons (.ret (.bl false))
 .nil) .nil)
 (.cons (.set 1 (.bin .sub (.bin .add (.var 1) (.int 1)) (.var 4)))
 .nil)))
def b_is_tree : Ss :=
 (.cons (.set 1 (.int 0))
 (.cons (.forr (.tup (.cons (.name 2) (.cons (.name 3) .nil))) (.val (.var 0)) b_is_tree_1)
 (.cons (.ret (.or (.cons (.cmp .eq (.var 1) (.int 1)) (.cons (.cmp .eq (.blt .len (.cons (.var 0) .nil)) (.int 0)) .nil))))
 .nil)))
end Pv

/-! Rows of letters, trees that are drawn bear rows, is_tree. -/
namespace Pv
open PySem
/-! ### rows -/
/-- letters in order, each once -/
def Row (z : Tx) : Prop := LETTERS.filter (fun c => decide (c ∈ z)) = z
theorem eq_of_lt : ∀ {l k : List Nat}, l.Pairwise (· < ·) → k.Pairwise (· < ·) → (∀ x, x ∈ l ↔ x ∈ k) → l = k
  | [], [], _, _, _ => rfl
  | [], y :: k, _, _, h => absurd ((h y).mpr List.mem_cons_self) (by simp)
  | x :: l, [], _, _, h => absurd ((h x).mp List.mem_cons_self) (by simp)
  | x :: l, y :: k, h1, h2, h => by
    obtain ⟨a1, b1⟩ := List.pairwise_cons.mp h1
    obtain ⟨a2, b2⟩ := List.pairwise_cons.mp h2
    have e : x = y := by
      rcases List.mem_cons.mp ((h x).mp List.mem_cons_self) with q | q
      · exact q
      · rcases List.mem_cons.mp ((h y).mpr List.mem_cons_self) with p | p
        · exact p.symm
        · have := a1 y p
          have := a2 x q
          omega
    subst e
    rw [eq_of_lt b1 b2 fun z => ?_]
    constructor
    · intro hz
      rcases List.mem_cons.mp ((h z).mp (List.mem_cons_of_mem _ hz)) with q | q
      · have := a1 z hz
        omega
      · exact q
    · intro hz
      rcases List.mem_cons.mp ((h z).mpr (List.mem_cons_of_mem _ hz)) with q | q
      · have := a2 z hz
        omega
      · exact q
theorem letters_pw : LETTERS.Pairwise (· < ·) := by decide
theorem row_of {z : Tx} (h : z.Pairwise (· < ·)) (hs : ∀ c ∈ z, c ∈ LETTERS) : Row z := by
  refine eq_of_lt (letters_pw.filter _) h fun x => ?_
  rw [List.mem_filter, decide_eq_true_eq]
  exact ⟨fun q => q.2, fun q => ⟨hs x q, q⟩⟩
theorem Row.sub {z : Tx} (h : Row z) : z.Sublist LETTERS := by
  have : (LETTERS.filter (fun c => decide (c ∈ z))).Sublist LETTERS := List.filter_sublist
  rw [h] at this
  exact this
theorem row_sub {z : Tx} (h : z.Sublist LETTERS) : Row z := row_of (letters_pw.sublist h) h.subset
theorem Row.len {z : Tx} (h : Row z) : z.length ≤ 52 := h.sub.length_le
theorem Row.in {z : Tx} (h : Row z) : ∀ c ∈ z, c ∈ LETTERS := fun c hc => h.sub.subset hc
theorem Row.pw {z : Tx} (h : Row z) : z.Pairwise (· < ·) := letters_pw.sublist h.sub
theorem ones_sum : ∀ l : Tx, ((l.map fun c => ([c] : Tx)).map List.length).sum = l.length
  | [] => rfl
  | x :: xs => by
    have := ones_sum xs
    simp only [List.map_cons, List.sum_cons, List.length_cons, List.length_nil]
    omega
theorem join_one : ∀ l : Tx, joinT [] (l.map fun c => ([c] : Tx)) = l
  | [] => rfl
  | [x] => rfl
  | x :: y :: r => by
    have := join_one (y :: r)
    rw [List.map_cons, List.map_cons, joinT]
    rw [List.map_cons] at this
    rw [this]
    rfl
def ltN (x y : Nat) : Bool := decide (x < y)
theorem one_lt (a b : Nat) : ltT [a] [b] = ltN a b := by
  unfold ltT ltN
  have e : ([a] < [b]) ↔ a < b := by
    constructor
    · intro h
      cases h with
      | rel h => exact h
      | cons h => cases h
    · intro h
      exact .rel h
  simp only [e]
theorem ins_one (x : Nat) : ∀ l : Tx, insG ltT [x] (l.map fun c => ([c] : Tx)) = (insG ltN x l).map fun c => ([c] : Tx)
  | [] => rfl
  | y :: l => by
    rw [List.map_cons, insG, insG, one_lt]
    split
    · rw [ins_one x l]; rfl
    · rfl
theorem sort_one : ∀ l : Tx, sortT (l.map fun c => ([c] : Tx)) = (sortG ltN l).map fun c => ([c] : Tx)
  | [] => rfl
  | x :: l => by
    show insG ltT [x] (sortT (l.map fun c => ([c] : Tx))) = _
    rw [sort_one l, ins_one]
    rfl
theorem sortN_row {l : Tx} (nd : l.Nodup) (hs : ∀ c ∈ l, c ∈ LETTERS) : Row (sortG ltN l) := by
  have p := sortG_perm (lt := ltN) l
  have w := sortG_pw (lt := ltN) (fun a b h => by unfold ltN at h ⊢; simp at h ⊢; omega) (fun a b c h1 h2 => by unfold leG ltN at h1 h2 ⊢; simp at h1 h2 ⊢; omega) l
  have nd' := p.nodup_iff.mpr nd
  refine row_of ?_ fun c hc => hs c (p.subset hc)
  refine (w.and nd').imp fun {a b} h => ?_
  obtain ⟨h1, h2⟩ := h
  unfold leG ltN at h1
  simp at h1
  have h2 : a ≠ b := h2
  omega
theorem marks_row {p : Tx} (nd : p.Nodup) (hs : ∀ c ∈ p, c ∈ LETTERS) (n : Int) : Row (marksI p n) := by
  unfold marksI chosenI
  have e : ((List.range p.length).filter (bitP n)).map (fun k => ([p.getD k 0] : Tx)) = ((((List.range p.length).filter (bitP n)).map fun k => p.getD k 0)).map fun c => ([c] : Tx) := by rw [List.map_map]; rfl
  rw [e, sort_one, join_one]
  have sub : (((List.range p.length).filter (bitP n)).map fun k => p.getD k 0).Sublist p := by
    have h1 : (((List.range p.length).filter (bitP n)).map fun k => p.getD k 0).Sublist ((List.range p.length).map fun k => p.getD k 0) := List.filter_sublist.map _
    have h2 : (List.range p.length).map (fun k => p.getD k 0) = p := by
      refine List.ext_getElem (by simp) fun i h1 h2 => ?_
      simp at h1
      rw [List.getElem_map, List.getElem_range, List.getD_eq_getElem?_getD, List.getElem?_eq_getElem h2]
      rfl
    rw [h2] at h1
    exact h1
  exact sortN_row (nd.sublist sub) fun c hc => hs c (sub.subset hc)
theorem pool_row (c n t : Int) (h : n ≤ 52) : (poolI c n t).Nodup ∧ ∀ x ∈ poolI c n t, x ∈ LETTERS := by
  have q := (poolSt_perm (drawsI c n t) n.toNat (by omega)).1
  have nd : ((poolSt (drawsI c n t) n.toNat).1 ++ (poolSt (drawsI c n t) n.toNat).2).Nodup := q.nodup_iff.mpr (by decide)
  exact ⟨(List.nodup_append.mp nd).1, fun x hx => q.subset (List.mem_append_left _ hx)⟩
/-! ### trees that are drawn -/
def WJ (pool : Tx) (most : Int) (q : List Plc × Int) : Prop := (q.1.length : Int) + q.2 - 1 ≤ most ∧ ∀ x ∈ q.1, ∃ n, x.2 = marksI pool n
theorem woodStep_J {pool : Tx} {most : Int} {q : List Plc × Int} (dr : Int) (h : WJ pool most q) : WJ pool most (woodStep pool most q dr) := by
  obtain ⟨h1, h2⟩ := h
  unfold woodStep
  simp only
  generalize (if (q.1.length : Int) + q.2 + 1 - mny (if mny (dr % 4) > q.2 then 0 else dr % 4) > most ∧ q.2 > 1 then 3 else (if mny (dr % 4) > q.2 then 0 else dr % 4)) = b2
  split
  · rename_i c
    refine ⟨by simp only [List.length_cons]; omega, fun x hx => ?_⟩
    rcases List.mem_cons.mp hx with rfl | hx
    · exact ⟨_, rfl⟩
    · exact h2 x hx
  · exact ⟨h1, h2⟩
theorem woodSt_J (pool : Tx) (most : Int) (hm : 0 ≤ most) (ds : List Int) : ∀ i, WJ pool most (woodSt pool most ds i)
  | 0 => ⟨by show (0 : Int) + 0 - 1 ≤ most; omega, fun x hx => by cases hx⟩
  | i + 1 => by rw [woodSt]; exact woodStep_J _ (woodSt_J pool most hm ds i)
theorem woodEnd_J (pool : Tx) (most : Int) : ∀ (h : Nat) (f : List Plc), WJ pool most (f, (h : Int)) → (∀ n : Nat, n < h → n < f.length) → ((woodEnd f h).length : Int) ≤ most + 1 ∧ (h ≠ 0 → ((woodEnd f h).length : Int) ≤ most) ∧ ∀ x ∈ woodEnd f h, ∃ n, x.2 = marksI pool n
  | 0, f, w, _ => ⟨by have := w.1; simp only at this; rw [woodEnd]; omega, fun q => absurd rfl q, w.2⟩
  | 1, f, w, _ => ⟨by have := w.1; simp only at this; rw [woodEnd]; omega, fun _ => by have := w.1; simp only at this; rw [woodEnd]; omega, w.2⟩
  | h + 2, f, w, hf => by
    have ht : h + 1 < f.length := hf (h + 1) (by omega)
    obtain ⟨y, hy⟩ : ∃ y, f.reverse[h + 1]? = some y := ⟨_, List.getElem?_eq_getElem (by rw [List.length_reverse]; exact ht)⟩
    have hm : y ∈ f := by
      have := List.mem_of_getElem? hy
      simpa using this
    have ih := woodEnd_J pool most (h + 1) ((3, ((f.reverse[h + 1]?).getD (0, [])).2) :: f) ⟨by have := w.1; simp only [List.length_cons] at this ⊢; omega, fun x hx => by
      rcases List.mem_cons.mp hx with rfl | hx
      · rw [hy]
        exact w.2 y hm
      · exact w.2 x hx⟩ (fun n hn => by rw [List.length_cons]; omega)
    rw [woodEnd]
    exact ⟨ih.1, fun _ => ih.2.1 (by omega), ih.2.2⟩
theorem woodI_J (pool : Tx) (most : Int) (hm : 0 ≤ most) (ds : List Int) : ((woodI pool most ds).length : Int) ≤ most ∧ ∀ x ∈ woodI pool most ds, ∃ n, x.2 = marksI pool n := by
  obtain ⟨h1, h2⟩ := woodSt_ok pool most ds ds.length
  have j := woodSt_J pool most hm ds ds.length
  unfold woodI
  generalize woodSt pool most ds ds.length = q at h1 h2 j
  obtain ⟨f, hi⟩ := q
  have hh := hgt_le h1.1
  have e : hgt (f.map (·.1)) = hi := h1.2
  rw [e] at hh
  simp only [List.length_map] at hh
  have hn : ((hi.toNat : Nat) : Int) = hi := by omega
  obtain ⟨a1, a2, a3⟩ := woodEnd_J pool most hi.toNat f (by rw [hn]; exact j) (fun n q => by omega)
  refine ⟨?_, fun x hx => a3 x (by simpa using hx)⟩
  rw [List.length_reverse]
  by_cases z : hi.toNat = 0
  · have : f = [] := by
      by_cases q : f = []
      · exact q
      · exfalso
        cases f with
        | nil => exact q rfl
        | cons b r =>
          obtain ⟨_, _, m1, w'⟩ := h1.1
          rw [List.map_cons, hgt] at e
          simp only at m1 e z
          omega
    subst this
    simp only [z, woodEnd, List.length_nil]
    omega
  · exact a2 z
theorem wood_rows {pool : Tx} (nd : pool.Nodup) (hs : ∀ c ∈ pool, c ∈ LETTERS) (most : Int) (hm : 0 ≤ most) (ds : List Int) : ∀ x ∈ woodI pool most ds, Row x.2 := fun x hx => by
  obtain ⟨n, e⟩ := (woodI_J pool most hm ds).2 x hx
  rw [e]
  exact marks_row nd hs n
/-! ### is_tree -/
def isT : List Int → Int → Bool
  | [], h => decide (h = 1)
  | b :: bs, h => if mny b > h then false else isT bs (h + 1 - mny b)
theorem isT_wd : ∀ (l r : List Int), Wd (l.reverse ++ r) → isT l (hgt r) = decide (hgt (l.reverse ++ r) = 1)
  | [], r, _ => rfl
  | b :: l, r, w => by
    rw [List.reverse_cons, List.append_assoc] at w ⊢
    have w2 : Wd (b :: r) := Wd.tail (p := l.reverse) w
    have ih := isT_wd l (b :: r) w
    rw [isT, if_neg (by have := w2.2.2.1; omega)]
    rw [hgt] at ih
    exact ih
def isTree (t : List Plc) : Bool := isT (t.map (·.1)) 0 || decide (t = [])
theorem isTree_ok {t : List Plc} (h : IsTree t) : isTree t = true := by
  unfold isTree
  have := isT_wd (t.map (·.1)) [] (by rw [List.append_nil]; exact h.1)
  rw [List.append_nil, h.2] at this
  rw [show (0 : Int) = hgt [] from rfl, this]
  by_cases q : t = [] <;> simp [q]
section
variable {Δ : Prog} {m d : Nat}
theorem sp_isT (h : Has Δ "is_tree" 1 5 b_is_tree) (t : List Plc) (s : Store) : Φ Δ m (d + 1) "is_tree" [.d (.tup (t.map plD))] s = .ok (.d (.bl (isTree t))) s := by
  rw [h.run rfl]
  unfold b_is_tree
  have key := forL_inv2 (w := ⟨t.map plD, none⟩) (n := s.length) (tg := .tup (.cons (.name 2) (.cons (.name 3) .nil))) (body := fun e s => evSs (cxΔ Δ m d) b_is_tree_1 e s)
    (env := [some (.d (.tup (t.map plD))), some (.d (.int 0)), none, none, none]) (s := s)
    (fun i env s1 => (∃ h g2 g3 g4, env = [some (.d (.tup (t.map plD))), some (.d (.int h)), g2, g3, g4] ∧ isT (t.map (·.1)) 0 = isT ((t.drop i).map (·.1)) h) ∧ s1 = s) (fun r => r = .rt (.d (.bl false)) s ∧ isT (t.map (·.1)) 0 = false ∧ t ≠ [])
    ⟨⟨0, _, _, _, rfl, by rw [List.drop_zero]⟩, rfl⟩ (by
    rintro i dd env s1 hdd ⟨⟨hh, g2, g3, g4, rfl, e⟩, rfl⟩
    have hdd : (t.map plD)[i]? = some dd := hdd
    rw [List.getElem?_map] at hdd
    have hi : i < t.length := by
      rcases Nat.lt_or_ge i t.length with q | q
      · exact q
      · rw [List.getElem?_eq_none q] at hdd; cases hdd
    rw [List.getElem?_eq_getElem hi] at hdd
    cases hdd
    rw [List.drop_eq_getElem_cons hi, List.map_cons, isT] at e
    generalize t[i] = p at e
    obtain ⟨b, mk⟩ := p
    refine ⟨rfl, _, rfl, ?_⟩
    unfold b_is_tree_1
    by_cases c : mny b > hh
    · rw [if_pos c] at e
      have c' : hh < (b + 1) / 2 := c
      have ne : t ≠ [] := fun q => by rw [q] at hi; simp at hi
      simp [c', e, ne]
    · rw [if_neg c] at e
      have c' : ¬ hh < (b + 1) / 2 := c
      simp only [mny] at e
      simp [c', e]) (fun _ _ _ => rfl)
  have n1 : ∀ z : List Plc, ((z.map plD).length : Int) = z.length := fun z => by simp
  rcases key with ⟨env', s', h1, ⟨hh, g2, g3, g4, h2, e⟩, h3⟩ | ⟨h1, e, ne⟩
  · subst h2 h3
    simp only [List.length_map, List.drop_length, List.map_nil, isT] at e
    unfold isTree
    rw [e]
    by_cases c : hh = 1
    · simp [h1, c]
    · simp [h1, c]
  · unfold isTree
    rw [e]
    simp only at h1
    simp [h1, ne]
/-! ### in_order -/
def GREAT : Tx := [65, 66, 67, 68, 69, 70, 71, 72, 73, 74, 75, 76, 77, 78, 79, 80, 81, 82, 83, 84, 85, 86, 87, 88, 89, 90]
def SMALL : Tx := [97, 98, 99, 100, 101, 102, 103, 104, 105, 106, 107, 108, 109, 110, 111, 112, 113, 114, 115, 116, 117, 118, 119, 120, 121, 122]
theorem let_split : GREAT ++ SMALL = LETTERS := rfl
theorem sp_in_order (h : Has Δ "in_order" 1 2 b_in_order) (g1 : Δ.glob "GREAT_LETTERS" = some (.str GREAT)) (g2 : Δ.glob "SMALL_LETTERS" = some (.str SMALL)) (z : Tx) (s : Store) : Φ Δ m (d + 1) "in_order" [.d (.str z)] s = .ok (.d (.str (LETTERS.filter fun c => decide (c ∈ z)))) s := by
  rw [h.run rfl]
  unfold b_in_order
  have key := lcL_map (w := ⟨LETTERS.map fun c => D.str [c], none⟩) (tg := .name 1) (test := fun e s => evC (cxΔ Δ m d) y_in_order_1 e s) (elt := fun e s => evE (cxΔ Δ m d) x_in_order_1 e s)
    (env := [some (.d (.str z)), none]) (s := s) (fun d => match d with | .str [c] => decide (c ∈ z) | _ => false) (fun d => d)
    (LETTERS.map fun c => D.str [c]) [] rfl (by decide) (by
      intro x hx
      obtain ⟨c, hc, rfl⟩ := List.mem_map.mp hx
      refine ⟨_, rfl, ?_, fun _ => ⟨.d (.str [c]), ?_, ?_⟩⟩
      · unfold y_in_order_1
        simp
      · unfold x_in_order_1
        simp
      · simp)
  have e : (List.map (fun d => d) (List.filter (fun d => match d with | D.str [c] => decide (c ∈ z) | _ => false) (LETTERS.map fun c => D.str [c]))) = ((LETTERS.filter fun c => decide (c ∈ z)).map fun c => ([c] : Tx)).map D.str := by
    rw [List.filter_map, List.map_map, List.map_map]
    rfl
  rw [List.nil_append, e] at key
  have hl : (LETTERS.filter fun c => decide (c ∈ z)).length ≤ 52 := List.length_filter_le _ _
  generalize LETTERS.filter (fun c => decide (c ∈ z)) = Z at key hl
  have hj := joinR s [] (Z.map fun c => ([c] : Tx)) (by
    rw [ones_sum]
    show _ ≤ 16777216
    simp
    omega)
  rw [join_one] at hj
  have l52 : GREAT.length + SMALL.length ≤ line := by decide
  generalize Z.map (fun c => ([c] : Tx)) = N at key hj
  simp [g1, g2, l52, let_split, key, hj]
theorem sp_is_row (h : Has Δ "is_row" 1 1 b_is_row) (ho : Has Δ "in_order" 1 2 b_in_order) (g1 : Δ.glob "GREAT_LETTERS" = some (.str GREAT)) (g2 : Δ.glob "SMALL_LETTERS" = some (.str SMALL)) (z : Tx) (s : Store) : Φ Δ m (d + 2) "is_row" [.d (.str z)] s = .ok (.d (.bl (decide (LETTERS.filter (fun c => decide (c ∈ z)) = z)))) s := by
  rw [h.run rfl]
  unfold b_is_row
  have o := sp_in_order (m := m) (d := d) ho g1 g2 z s
  simp [o, ho.has]
end
end Pv

/-! Sums and words, in plain Lean. -/
namespace Pv
/-! ### sums -/
def tot {α : Type} (g : α → Int) : List α → Int
  | [] => 0
  | x :: l => g x + tot g l
section
variable {α β : Type}
theorem tot_app (g : α → Int) : ∀ l k : List α, tot g (l ++ k) = tot g l + tot g k
  | [], k => by rw [List.nil_append, tot, Int.zero_add]
  | x :: l, k => by rw [List.cons_append, tot, tot, tot_app g l k, Int.add_assoc]
theorem tot_flat (g : β → Int) (f : α → List β) : ∀ l : List α, tot g (l.flatMap f) = tot (fun x => tot g (f x)) l
  | [] => rfl
  | x :: l => by rw [List.flatMap_cons, tot_app, tot, tot_flat g f l]
theorem tot_map (g : β → Int) (f : α → β) : ∀ l : List α, tot g (l.map f) = tot (fun x => g (f x)) l
  | [] => rfl
  | x :: l => by rw [List.map_cons, tot, tot, tot_map g f l]
theorem tot_congr {g h : α → Int} : ∀ {l : List α}, (∀ x ∈ l, g x = h x) → tot g l = tot h l
  | [], _ => rfl
  | x :: l, e => by rw [tot, tot, e x List.mem_cons_self, tot_congr fun y hy => e y (List.mem_cons_of_mem _ hy)]
theorem tot_nn {g : α → Int} : ∀ {l : List α}, (∀ x ∈ l, 0 ≤ g x) → 0 ≤ tot g l
  | [], _ => Int.le_refl _
  | x :: l, h => by
    rw [tot]
    exact Int.add_nonneg (h x List.mem_cons_self) (tot_nn fun y hy => h y (List.mem_cons_of_mem _ hy))
theorem tot_add (g h : α → Int) : ∀ l : List α, tot (fun x => g x + h x) l = tot g l + tot h l
  | [] => rfl
  | x :: l => by rw [tot, tot, tot, tot_add g h l]; omega
theorem tot_mul (c : Int) (g : α → Int) : ∀ l : List α, tot (fun x => c * g x) l = c * tot g l
  | [] => by rw [tot, tot, Int.mul_zero]
  | x :: l => by rw [tot, tot, tot_mul c g l, Int.mul_add]
theorem tot_zero {g : α → Int} {l : List α} (h : ∀ x ∈ l, g x = 0) : tot g l = 0 := by
  rw [tot_congr (h := fun x => 0 * g x) (fun x hx => by rw [h x hx, Int.zero_mul]), tot_mul, Int.zero_mul]
theorem tot_pos {g : α → Int} : ∀ {l : List α}, (∀ x ∈ l, 0 ≤ g x) → (0 < tot g l ↔ ∃ x ∈ l, 0 < g x)
  | [], _ => by simp [tot]
  | x :: l, h => by
    have h1 := h x List.mem_cons_self
    have h2 := tot_nn fun y hy => h y (List.mem_cons_of_mem x hy)
    have ih := tot_pos fun y hy => h y (List.mem_cons_of_mem x hy)
    rw [tot]
    constructor
    · intro q
      by_cases c : 0 < g x
      · exact ⟨x, List.mem_cons_self, c⟩
      · obtain ⟨y, hy, p⟩ := ih.mp (by omega)
        exact ⟨y, List.mem_cons_of_mem _ hy, p⟩
    · rintro ⟨y, hy, p⟩
      rcases List.mem_cons.mp hy with rfl | hy
      · omega
      · have := ih.mpr ⟨y, hy, p⟩
        omega
theorem tot_comm (g : α → β → Int) (k : List β) : ∀ l : List α, tot (fun x => tot (fun y => g x y) k) l = tot (fun y => tot (fun x => g x y) l) k
  | [] => by rw [tot]; exact (tot_zero fun _ _ => rfl).symm
  | x :: l => by
    rw [tot, tot_comm g k l, ← tot_add]
    exact tot_congr fun y _ => rfl
/-- of a row of numbers, the one at an index -/
theorem tot_one {n : Nat} {c : Nat} (h : c < n) (g : Nat → Int) : tot (fun i => if i = c then g i else 0) (List.range n) = g c := by
  induction n with
  | zero => omega
  | succ n ih =>
    rw [List.range_succ, tot_app, tot, tot, Int.add_zero]
    by_cases q : c = n
    · subst q
      rw [if_pos rfl, tot_zero fun x hx => by rw [List.mem_range] at hx; exact if_neg (by omega), Int.zero_add]
    · rw [ih (by omega), if_neg (fun h => q h.symm), Int.add_zero]
/-- how many of a row come to a room -/
def cntI {α : Type} (L : List (α × Int)) (x : Int) : Int := tot (fun y => if y.2 = x then 1 else 0) L
theorem cntI_nn (L : List (α × Int)) (x : Int) : 0 ≤ cntI L x := tot_nn fun y _ => by split <;> decide
/-- a sum over a row by rooms -/
theorem tot_cnt {n : Nat} (g : Int → Int) : ∀ {L : List (α × Int)}, (∀ y ∈ L, 0 ≤ y.2 ∧ y.2 < n) → tot (fun y => g y.2) L = tot (fun i : Nat => cntI L i * g i) (List.range n)
  | [], _ => by
    rw [tot]
    exact (tot_zero fun i _ => by unfold cntI; rw [tot, Int.zero_mul]).symm
  | y :: L, h => by
    obtain ⟨h0, h1⟩ := h y List.mem_cons_self
    rw [tot, tot_cnt g fun z hz => h z (List.mem_cons_of_mem _ hz)]
    have e : ∀ i : Nat, cntI (y :: L) i * g i = (if i = y.2.toNat then g i else 0) + cntI L i * g i := fun i => by
      unfold cntI
      rw [tot, Int.add_mul]
      congr 1
      by_cases q : y.2 = (i : Int)
      · rw [if_pos q, if_pos (by omega), Int.one_mul]
      · rw [if_neg q, if_neg (by omega), Int.zero_mul]
    rw [tot_congr (fun i _ => e i), tot_add, tot_one (c := y.2.toNat) (by omega) (fun i : Nat => g i)]
    rw [show ((y.2.toNat : Nat) : Int) = y.2 by omega]
/-- `y` stands in a row, behind what sums to `s` -/
def Ah (g : α → Int) (L : List α) (y : α) (s : Int) : Prop := ∃ i, L[i]? = some y ∧ s = tot g (L.take i)
theorem ah_mk {g : α → Int} (A : List α) (y : α) (B : List α) : Ah g (A ++ y :: B) y (tot g A) :=
  ⟨A.length, by rw [List.getElem?_append_right (Nat.le_refl _), Nat.sub_self]; rfl, by rw [List.take_left' rfl]⟩
theorem ah_dec {g : α → Int} {L : List α} {y : α} {s : Int} (h : Ah g L y s) : ∃ A B, L = A ++ y :: B ∧ s = tot g A := by
  obtain ⟨i, h1, h2⟩ := h
  obtain ⟨hi, h1⟩ := List.getElem?_eq_some_iff.mp h1
  refine ⟨L.take i, L.drop (i + 1), ?_, h2⟩
  rw [← h1, List.getElem_cons_drop, List.take_append_drop]
theorem ah_mem {g : α → Int} {L : List α} {y : α} {s : Int} (h : Ah g L y s) : y ∈ L := by
  obtain ⟨i, h1, _⟩ := h
  exact List.mem_of_getElem? h1
theorem ah_flat {g : β → Int} {f : α → List β} {L : List α} {a : α} {b : β} {s u : Int} (h1 : Ah (fun x => tot g (f x)) L a s) (h2 : Ah g (f a) b u) : Ah g (L.flatMap f) b (s + u) := by
  obtain ⟨A, B, e1, rfl⟩ := ah_dec h1
  obtain ⟨A', B', e2, rfl⟩ := ah_dec h2
  have e : L.flatMap f = (A.flatMap f ++ A') ++ b :: (B' ++ B.flatMap f) := by
    rw [e1, List.flatMap_append, List.flatMap_cons, e2]
    simp
  rw [e, ← tot_flat, ← tot_app]
  exact ah_mk _ _ _
theorem ah_map {g : β → Int} {f : α → β} {L : List α} {a : α} {s : Int} (h : Ah (fun x => g (f x)) L a s) : Ah g (L.map f) (f a) s := by
  obtain ⟨A, B, rfl, rfl⟩ := ah_dec h
  rw [List.map_append, List.map_cons, ← tot_map]
  exact ah_mk _ _ _
theorem ah_congr {g h : α → Int} {L : List α} {y : α} {s : Int} (e : ∀ x ∈ L, g x = h x) (a : Ah g L y s) : Ah h L y s := by
  obtain ⟨i, h1, h2⟩ := a
  exact ⟨i, h1, by rw [h2]; exact tot_congr fun x hx => e x (List.mem_of_mem_take hx)⟩
theorem ah_range {g : Nat → Int} {n w : Nat} (h : w < n) : Ah g (List.range n) w (tot g (List.range w)) :=
  ⟨w, by rw [List.getElem?_range h], by rw [List.take_range, Nat.min_eq_left (Nat.le_of_lt h)]⟩
theorem tot_take_le {g : α → Int} {L : List α} (h : ∀ x ∈ L, 0 ≤ g x) {i j : Nat} (hij : i ≤ j) : tot g (L.take i) ≤ tot g (L.take j) := by
  have e : L.take j = L.take i ++ (L.take j).drop i := by
    have := (List.take_append_drop i (L.take j)).symm
    rw [List.take_take, Nat.min_eq_left hij] at this
    exact this
  rw [e, tot_app]
  have := tot_nn (g := g) (l := (L.take j).drop i) fun x hx => h x (List.mem_of_mem_take (List.mem_of_mem_drop hx))
  omega
theorem tot_take_succ {g : α → Int} {L : List α} {i : Nat} {y : α} (h : L[i]? = some y) : tot g (L.take (i + 1)) = tot g (L.take i) + g y := by
  obtain ⟨hi, rfl⟩ := List.getElem?_eq_some_iff.mp h
  rw [List.take_succ_eq_append_getElem hi, tot_app, tot, tot, Int.add_zero]
theorem ah_lt {g : α → Int} {L : List α} {y : α} {s : Int} (h : ∀ x ∈ L, 0 ≤ g x) (a : Ah g L y s) : 0 ≤ s ∧ s + g y ≤ tot g L := by
  obtain ⟨A, B, rfl, rfl⟩ := ah_dec a
  have h1 := tot_nn (g := g) (l := A) fun x hx => h x (List.mem_append_left _ hx)
  have h2 := tot_nn (g := g) (l := B) fun x hx => h x (List.mem_append_right _ (List.mem_cons_of_mem _ hx))
  rw [tot_app, tot]
  omega
/-- the one of a range at which a number falls -/
theorem pk_ex {g : Nat → Int} : ∀ {n : Nat} {k : Int}, 0 ≤ k → k < tot g (List.range n) → (∀ i, i < n → 0 ≤ g i) → ∃ w, w < n ∧ tot g (List.range w) ≤ k ∧ k < tot g (List.range (w + 1))
  | 0, k, h0, h1, _ => by simp [tot] at h1; omega
  | n + 1, k, h0, h1, hn => by
    by_cases q : k < tot g (List.range n)
    · obtain ⟨w, a, b, c⟩ := pk_ex h0 q fun i hi => hn i (by omega)
      exact ⟨w, by omega, b, c⟩
    · exact ⟨n, by omega, by omega, h1⟩
theorem tot_range_succ (g : Nat → Int) (n : Nat) : tot g (List.range (n + 1)) = tot g (List.range n) + g n := by
  rw [List.range_succ, tot_app, tot, tot, Int.add_zero]
/-! ### words -/
theorem range_mul (W : Nat) : ∀ a : Nat, List.range (a * W) = (List.range a).flatMap fun i => (List.range W).map fun w => i * W + w
  | 0 => by rw [Nat.zero_mul]; rfl
  | a + 1 => by
    rw [Nat.succ_mul, List.range_add, range_mul W a, List.range_succ, List.flatMap_append]
    simp
/-- figures in base `W`, the one that weighs most first -/
def dig (W : Nat) : Nat → Nat → List Nat
  | 0, _ => []
  | k + 1, i => dig W k (i / W) ++ [i % W]
theorem dig_len (W : Nat) : ∀ k i, (dig W k i).length = k
  | 0, _ => rfl
  | k + 1, i => by rw [dig, List.length_append, dig_len W k]; rfl
theorem dig_lt {W : Nat} (h : 0 < W) : ∀ k i, ∀ x ∈ dig W k i, x < W
  | 0, _, x, hx => by cases hx
  | k + 1, i, x, hx => by
    rw [dig] at hx
    rcases List.mem_append.mp hx with hx | hx
    · exact dig_lt h k _ x hx
    · rw [List.mem_singleton.mp hx]
      exact Nat.mod_lt _ h
theorem dig_inj {W : Nat} : ∀ {k i j : Nat}, i < W ^ k → j < W ^ k → dig W k i = dig W k j → i = j
  | 0, i, j, hi, hj, _ => by simp at hi hj; omega
  | k + 1, i, j, hi, hj, h => by
    rw [Nat.pow_succ, Nat.mul_comm] at hi hj
    rw [dig, dig] at h
    obtain ⟨h1, h2⟩ := List.append_inj' h rfl
    have := dig_inj (Nat.div_lt_of_lt_mul hi) (Nat.div_lt_of_lt_mul hj) h1
    have h2 : i % W = j % W := by simpa using h2
    rw [← Nat.div_add_mod i W, ← Nat.div_add_mod j W, this, h2]
theorem dig_sur {W : Nat} : ∀ {ws : List Nat}, (∀ x ∈ ws, x < W) → ∃ i, i < W ^ ws.length ∧ dig W ws.length i = ws := by
  intro ws
  induction hn : ws.length generalizing ws with
  | zero =>
    intro _
    rw [List.eq_nil_of_length_eq_zero hn]
    exact ⟨0, by simp, rfl⟩
  | succ n ih =>
    intro h
    have hne : ws ≠ [] := fun e => by rw [e] at hn; cases hn
    have e := List.dropLast_concat_getLast hne
    have hd : (ws.dropLast).length = n := by rw [List.length_dropLast]; omega
    obtain ⟨i, h1, h2⟩ := ih hd fun x hx => h x (List.dropLast_subset ws hx)
    have hl := h _ (List.getLast_mem hne)
    generalize ws.getLast hne = w at *
    generalize ws.dropLast = v at *
    refine ⟨i * W + w, ?_, ?_⟩
    · rw [Nat.pow_succ]
      have : (i + 1) * W ≤ W ^ n * W := Nat.mul_le_mul_right _ h1
      rw [Nat.succ_mul] at this
      omega
    · rw [dig, Nat.mul_comm, Nat.mul_add_div (by omega), Nat.div_eq_of_lt hl, Nat.add_zero, h2, Nat.mul_add_mod, Nat.mod_eq_of_lt hl, e]
def words (W : Nat) : Nat → List (List Nat)
  | 0 => [[]]
  | k + 1 => (words W k).flatMap fun a => (List.range W).map fun w => a ++ [w]
theorem words_app (W m : Nat) : ∀ n, words W (m + n) = (words W m).flatMap fun a => (words W n).map fun b => a ++ b
  | 0 => by simp [words]
  | n + 1 => by
    rw [Nat.add_succ, words, words_app W m n, words]
    simp [List.flatMap_assoc, List.map_flatMap, List.flatMap_map, Function.comp_def]
theorem words_dig {W : Nat} (h : 0 < W) : ∀ k, words W k = (List.range (W ^ k)).map (dig W k)
  | 0 => rfl
  | k + 1 => by
    rw [words, words_dig h k, Nat.pow_succ, range_mul, List.map_flatMap, List.flatMap_map]
    congr 1
    funext i
    rw [List.map_map]
    refine List.map_congr_left fun w hw => ?_
    rw [List.mem_range] at hw
    rw [Function.comp, dig, Nat.mul_comm, Nat.mul_add_div h, Nat.div_eq_of_lt hw, Nat.add_zero, Nat.mul_add_mod, Nat.mod_eq_of_lt hw]
theorem dig_zero (W : Nat) : ∀ k, dig W k 0 = List.replicate k 0
  | 0 => rfl
  | k + 1 => by rw [dig, Nat.zero_div, Nat.zero_mod, dig_zero W k, List.replicate_succ']
/-- the next one, the figure that weighs least first -/
def laterR (W : Nat) : List Nat → Option (List Nat)
  | [] => none
  | x :: r => if x + 1 = W then (laterR W r).map (0 :: ·) else some ((x + 1) :: r)
theorem later_dig {W : Nat} (h : 0 < W) : ∀ k i, i < W ^ k → laterR W (dig W k i).reverse = if i + 1 < W ^ k then some (dig W k (i + 1)).reverse else none
  | 0, i, hi => by
    rw [Nat.pow_zero] at hi ⊢
    rw [if_neg (by omega)]
    rfl
  | k + 1, i, hi => by
    rw [Nat.pow_succ, Nat.mul_comm] at hi ⊢
    have hd := Nat.div_lt_of_lt_mul hi
    have ih := later_dig h k (i / W) hd
    have e := Nat.div_add_mod i W
    have hm := Nat.mod_lt i h
    rw [dig, dig, List.reverse_append, List.reverse_append]
    show laterR W (i % W :: (dig W k (i / W)).reverse) = _
    rw [laterR]
    by_cases q : i % W + 1 = W
    · have e1 : i + 1 = W * (i / W + 1) := by rw [Nat.mul_succ]; omega
      rw [if_pos q, ih, e1, Nat.mul_div_cancel_left _ h, Nat.mul_mod_right]
      by_cases p : i / W + 1 < W ^ k
      · rw [if_pos p, if_pos ((Nat.mul_lt_mul_left h).mpr p)]
        rfl
      · rw [if_neg p, if_neg (fun c => p ((Nat.mul_lt_mul_left h).mp c))]
        rfl
    · have e2 : (i + 1) / W = i / W ∧ (i + 1) % W = i % W + 1 := by
        have e1 : i + 1 = W * (i / W) + (i % W + 1) := by omega
        have a1 : ∀ p r : Nat, r < W → (W * p + r) / W = p ∧ (W * p + r) % W = r := fun p r hr => ⟨by rw [Nat.mul_add_div h, Nat.div_eq_of_lt hr, Nat.add_zero], by rw [Nat.mul_add_mod, Nat.mod_eq_of_lt hr]⟩
        have a2 := a1 (i / W) (i % W + 1) (by omega)
        rw [← e1] at a2
        exact a2
      rw [if_neg q, e2.1, e2.2, if_pos]
      · rfl
      · have : W * (i / W + 1) ≤ W * W ^ k := Nat.mul_le_mul_left _ hd
        rw [Nat.mul_succ] at this
        omega
end
end Pv

/-! Bodies of defs that many laws have (printed by gen.py). -/
namespace Pv
/- slots of check_place: 0 tree, 1 place -/
def b_check_place : Ss :=
 (.cons (.ife (.or (.cons (.cmp .lt (.var 1) (.int 0)) (.cons (.cmp .ge (.var 1) (.blt .len (.cons (.var 0) .nil))) .nil))) (.cons (.rais "NoPlace")
 .nil) .nil)
 .nil)
/- slots of part_at: 0 tree, 1 place, 2 size -/
def b_part_at : Ss :=
 (.cons (.ex (.call "check_place" (.cons (.var 0) (.cons (.var 1) .nil))))
 (.cons (.set 2 (.ix (.call "sizes_of" (.cons (.var 0) .nil)) (.var 1)))
 (.cons (.ret (.slice (.var 0) (.bin .sub (.bin .add (.var 1) (.int 1)) (.var 2)) (.bin .add (.var 1) (.int 1))))
 .nil)))
/- slots of branches_by: 0 left, 1 right, 2 number -/
def b_branches_by : Ss :=
 (.cons (.set 2 (.int 0))
 (.cons (.ife (.cmp .gt (.blt .len (.cons (.var 0) .nil)) (.int 0)) (.cons (.set 2 (.int 1))
 .nil) .nil)
 (.cons (.ife (.cmp .gt (.blt .len (.cons (.var 1) .nil)) (.int 0)) (.cons (.set 2 (.bin .add (.var 2) (.int 2)))
 .nil) .nil)
 (.cons (.ret (.var 2))
 .nil))))
/- slots of joined: 0 left, 1 right, 2 marks -/
def b_joined : Ss :=
 (.cons (.ife (.cmp .gt (.bin .add (.bin .add (.blt .len (.cons (.var 0) .nil)) (.blt .len (.cons (.var 1) .nil))) (.int 1)) (.glob "MOST_PLACES")) (.cons (.rais "TooGreat")
 .nil) .nil)
 (.cons (.ret (.bin .add (.bin .add (.var 0) (.var 1)) (.tup (.cons (.tup (.cons (.call "branches_by" (.cons (.var 0) (.cons (.var 1) .nil))) (.cons (.var 2) .nil))) .nil))))
 .nil))
/- slots of taken_apart: 0 tree, 1 top, 2 cut -/
def b_taken_apart : Ss :=
 (.cons (.ife (.cmp .eq (.blt .len (.cons (.var 0) .nil)) (.int 0)) (.cons (.rais "NoPlace")
 .nil) .nil)
 (.cons (.set 1 (.bin .sub (.blt .len (.cons (.var 0) .nil)) (.int 1)))
 (.cons (.set 2 (.var 1))
 (.cons (.ife (.cmp .ge (.ix (.ix (.var 0) (.var 1)) (.int 0)) (.int 2)) (.cons (.set 2 (.bin .sub (.var 1) (.ix (.call "sizes_of" (.cons (.var 0) .nil)) (.bin .sub (.var 1) (.int 1)))))
 .nil) .nil)
 (.cons (.ret (.tup (.cons (.slice0 (.var 0) (.var 2)) (.cons (.slice (.var 0) (.var 2) (.var 1)) (.cons (.ix (.ix (.var 0) (.var 1)) (.int 1)) .nil)))))
 .nil)))))
/- slots of branch_put: 0 tree, 1 place, 2 side, 3 other, 4 part, 5 left, 6 right, 7 marks, 8 gone, 9 start -/
def b_branch_put : Ss :=
 (.cons (.set 4 (.call "part_at" (.cons (.var 0) (.cons (.var 1) .nil))))
 (.cons (.asg (.tup (.cons (.name 5) (.cons (.name 6) (.cons (.name 7) .nil)))) (.call "taken_apart" (.cons (.var 4) .nil)))
 (.cons (.set 8 (.var 6))
 (.cons (.ife (.cmp .eq (.var 2) (.str [108, 101, 102, 116])) (.cons (.set 8 (.var 5))
 .nil) .nil)
 (.cons (.ife (.cmp .gt (.bin .add (.bin .sub (.blt .len (.cons (.var 0) .nil)) (.blt .len (.cons (.var 8) .nil))) (.blt .len (.cons (.var 3) .nil))) (.glob "MOST_PLACES")) (.cons (.rais "TooGreat")
 .nil) .nil)
 (.cons (.ife (.cmp .eq (.var 2) (.str [108, 101, 102, 116])) (.cons (.set 5 (.var 3))
 .nil) (.cons (.set 6 (.var 3))
 .nil))
 (.cons (.set 9 (.bin .sub (.bin .add (.var 1) (.int 1)) (.blt .len (.cons (.var 4) .nil))))
 (.cons (.ret (.bin .add (.bin .add (.slice0 (.var 0) (.var 9)) (.call "joined" (.cons (.var 5) (.cons (.var 6) (.cons (.var 7) .nil))))) (.slice1 (.var 0) (.bin .add (.var 1) (.int 1)))))
 .nil))))))))
/- slots of _law_sizes: 0 _law_tree, 1 _law_found, 2 _law_k, 3 _law_size_here -/
def b__law_sizes_1 : Ss :=
 (.cons (.set 3 (.int 1))
 (.cons (.ife (.cmp .ge (.ix (.ix (.var 0) (.var 2)) (.int 0)) (.int 2)) (.cons (.set 3 (.bin .add (.var 3) (.ix (.var 1) (.bin .sub (.var 2) (.int 1)))))
 .nil) .nil)
 (.cons (.ife (.cmp .eq (.bin .mod (.ix (.ix (.var 0) (.var 2)) (.int 0)) (.int 2)) (.int 1)) (.cons (.set 3 (.bin .add (.var 3) (.ix (.var 1) (.bin .sub (.var 2) (.var 3)))))
 .nil) .nil)
 (.cons (.ex (.meth .append (.var 1) (.cons (.var 3) .nil)))
 .nil))))
def b__law_sizes : Ss :=
 (.cons (.set 1 (.list .nil))
 (.cons (.forr (.name 2) (.range (.cons (.blt .len (.cons (.var 0) .nil)) .nil)) b__law_sizes_1)
 (.cons (.ret (.var 1))
 .nil)))
/- slots of _law_chain: 0 _law_many, 1 _law_number, 2 _law_marks_here, 3 _law_found, 4 _law_k -/
def b__law_chain_1 : Ss :=
 (.cons (.ife (.cmp .eq (.var 4) (.int 0)) (.cons (.ex (.meth .append (.var 3) (.cons (.tup (.cons (.int 0) (.cons (.var 2) .nil))) .nil)))
 .nil) (.cons (.ex (.meth .append (.var 3) (.cons (.tup (.cons (.bin .add (.int 1) (.bin .mod (.bin .fdiv (.var 1) (.bin .add (.int 1) (.bin .mod (.var 4) (.int 5)))) (.int 2))) (.cons (.str []) .nil))) .nil)))
 .nil))
 .nil)
def b__law_chain : Ss :=
 (.cons (.set 3 (.list .nil))
 (.cons (.forr (.name 4) (.range (.cons (.var 0) .nil)) b__law_chain_1)
 (.cons (.ret (.blt .tuple (.cons (.var 3) .nil)))
 .nil)))
/- slots of _law_due_refusal: 0 _law_at, 1 _law_k -/
def x__law_due_refusal_1 : E :=
 (.or (.cons (.cmp .eq (.var 1) (.int 0)) (.cons (.cmp .eq (.var 1) (.var 0)) .nil)))
def y__law_due_refusal_1 : Es :=
 .nil
def b__law_due_refusal : Ss :=
 (.cons (.ret (.tup (.cons (.str [114, 101, 102, 117, 115, 101, 100]) (.cons (.blt .tuple (.cons (.lc x__law_due_refusal_1 (.name 1) (.range (.cons (.int 10) .nil)) y__law_due_refusal_1) .nil)) .nil))))
 .nil)
end Pv

/-! Trees as trees: parts, branches. -/
namespace Pv
open PySem
inductive TT where
  | e | n (l r : TT) (z : Tx)
def TT.isE : TT → Bool
  | .e => true
  | .n _ _ _ => false
def brn (l r : TT) : Int := (if l.isE = true then 0 else 1) + (if r.isE = true then 0 else 2)
/-- its places -/
def fl : TT → List Plc
  | .e => []
  | .n l r z => fl l ++ fl r ++ [(brn l r, z)]
def szT : TT → List Int
  | .e => []
  | .n l r z => szT l ++ szT r ++ [((fl l).length : Int) + (fl r).length + 1]
theorem szT_len : ∀ T : TT, (szT T).length = (fl T).length
  | .e => rfl
  | .n l r z => by
    rw [szT, fl, List.length_append, List.length_append, List.length_append, List.length_append, szT_len l, szT_len r]
    rfl
theorem fl_ne {T : TT} (h : T.isE = false) : 1 ≤ (fl T).length := by
  cases T with
  | e => cases h
  | n l r z => rw [fl, List.length_append]; simp
theorem fl_e {T : TT} (h : T.isE = true) : fl T = [] := by
  cases T with
  | e => rfl
  | n l r z => cases h
theorem isE_len (T : TT) : T.isE = decide ((fl T).length = 0) := by
  cases h : T.isE with
  | true => rw [fl_e h]; rfl
  | false => have := fl_ne h; simp; intro q; rw [q] at this; simp at this
/-- the last one first: the numbers of branches -/
def bi (t : List Plc) : List Int := (t.map (·.1)).reverse
theorem bi_app (a b : List Plc) : bi (a ++ b) = bi b ++ bi a := by unfold bi; rw [List.map_append, List.reverse_append]
theorem bi_len (a : List Plc) : (bi a).length = a.length := by unfold bi; simp
theorem bi_n (l r : TT) (z : Tx) (R : List Int) : bi (fl (.n l r z)) ++ R = brn l r :: (bi (fl r) ++ (bi (fl l) ++ R)) := by
  rw [fl, bi_app, bi_app, List.append_assoc, List.append_assoc]
  rfl
theorem brn_cases (l r : TT) : (l.isE = true ∧ r.isE = true ∧ brn l r = 0) ∨ (l.isE = false ∧ r.isE = true ∧ brn l r = 1) ∨ (l.isE = true ∧ r.isE = false ∧ brn l r = 2) ∨ (l.isE = false ∧ r.isE = false ∧ brn l r = 3) := by
  unfold brn
  cases l.isE <;> cases r.isE <;> simp
theorem tt_wd : ∀ (T : TT) {R : List Int}, Wd R → Wd (bi (fl T) ++ R) ∧ hgt (bi (fl T) ++ R) = hgt R + (if T.isE = true then 0 else 1)
  | .e, R, h => by
    have e : bi (fl .e) ++ R = R := rfl
    rw [e]
    exact ⟨h, by simp [TT.isE]⟩
  | .n l r z, R, h => by
    obtain ⟨w1, h1⟩ := tt_wd l h
    obtain ⟨w2, h2⟩ := tt_wd r w1
    have g := (hgt_le h).1
    rw [bi_n]
    generalize bi (fl r) ++ (bi (fl l) ++ R) = X at *
    generalize bi (fl l) ++ R = Y at *
    have e : (TT.n l r z).isE = false := rfl
    rw [e]
    rcases brn_cases l r with ⟨a, b, c⟩ | ⟨a, b, c⟩ | ⟨a, b, c⟩ | ⟨a, b, c⟩ <;>
    · rw [a] at h1
      rw [b] at h2
      rw [c, hgt]
      simp only [Bool.false_eq_true, if_true, if_false] at h1 h2 ⊢
      refine ⟨⟨by omega, by omega, ?_, w2⟩, ?_⟩ <;> unfold mny <;> omega
theorem fl_tree (T : TT) : IsTree (fl T) := by
  obtain ⟨w, h⟩ := tt_wd T (R := []) trivial
  rw [List.append_nil] at w h
  refine ⟨w, h.trans ?_⟩
  cases q : T.isE with
  | true => rw [fl_e q]; rfl
  | false =>
    have := fl_ne q
    rw [if_neg (by simp), if_neg (fun z => by rw [z] at this; simp at this)]
    rfl
theorem szT_top {T : TT} (h : T.isE = false) (Y Z : List Int) {p : Nat} (hp : p + 1 = Y.length + (fl T).length) : (Y ++ szT T ++ Z)[p]? = some ((fl T).length : Int) := by
  cases T with
  | e => cases h
  | n l r z =>
    have hl : (fl (.n l r z)).length = (fl l).length + (fl r).length + 1 := by rw [fl, List.length_append, List.length_append]; rfl
    rw [hl] at hp ⊢
    rw [szT, ← List.append_assoc, List.append_assoc (Y ++ (szT l ++ szT r)), List.getElem?_append_right (by rw [List.length_append, List.length_append, szT_len, szT_len]; omega)]
    rw [show p - (Y ++ (szT l ++ szT r)).length = 0 by rw [List.length_append, List.length_append, szT_len, szT_len]; omega]
    simp
theorem atR_top {T : TT} (h : T.isE = false) {q Y Z : List Int} (e : q.reverse = Y ++ szT T ++ Z) {p : Int} (hp : p + 1 = (Y.length : Int) + ((fl T).length : Int)) : atR q p = (fl T).length := by
  have := fl_ne h
  unfold atR
  rw [e, szT_top h Y Z (p := p.toNat) (by omega)]
  rfl
theorem tt_sz : ∀ (T : TT) {R : List Int}, Wd R → (szR (bi (fl T) ++ R)).reverse = (szR R).reverse ++ szT T ∧ stk (bi (fl T) ++ R) = if T.isE = true then stk R else (((fl T).length : Int) + (R.length : Int) - 1) :: stk R
  | .e, R, h => by
    have e : bi (fl .e) ++ R = R := rfl
    rw [e]
    exact ⟨by simp [szT], by simp [TT.isE]⟩
  | .n l r z, R, h => by
    obtain ⟨w1, h1⟩ := tt_wd l h
    obtain ⟨w2, h2⟩ := tt_wd r w1
    obtain ⟨s1, t1⟩ := tt_sz l h
    obtain ⟨s2, t2⟩ := tt_sz r w1
    have ll : (bi (fl l) ++ R).length = (fl l).length + R.length := by rw [List.length_append, bi_len]
    have lr : (bi (fl r) ++ (bi (fl l) ++ R)).length = (fl r).length + ((fl l).length + R.length) := by rw [List.length_append, bi_len, ll]
    have zl : (szR R).reverse.length = R.length := by rw [List.length_reverse, szR_len]
    have hlen : (fl (.n l r z)).length = (fl l).length + (fl r).length + 1 := by rw [fl, List.length_append, List.length_append]; rfl
    rw [bi_n, szR, stk]
    rw [s1] at s2
    rw [t1] at t2
    generalize bi (fl r) ++ (bi (fl l) ++ R) = X at *
    generalize bi (fl l) ++ R = Y at *
    have e : (TT.n l r z).isE = false := rfl
    rw [e, List.reverse_cons, s2, szT, lr, hlen]
    have aR : r.isE = false → ∀ p : Int, p = ((fl r).length : Int) + (Y.length : Int) - 1 → atR (szR X) p = (fl r).length := fun q p hp => atR_top q (Y := (szR R).reverse ++ szT l) (Z := []) (by rw [s2, List.append_nil]) (by rw [hp, List.length_append, zl, szT_len]; omega)
    have aL : l.isE = false → ∀ p : Int, p = ((fl l).length : Int) + (R.length : Int) - 1 → atR (szR X) p = (fl l).length := fun q p hp => atR_top q (Y := (szR R).reverse) (Z := szT r) s2 (by rw [hp, zl]; omega)
    rcases brn_cases l r with ⟨a, b, c⟩ | ⟨a, b, c⟩ | ⟨a, b, c⟩ | ⟨a, b, c⟩
    · rw [a, b] at t2
      simp only [if_true] at t2
      rw [c, fl_e a, fl_e b]
      refine ⟨by simp [lft, rgt], ?_⟩
      rw [t2]
      simp [mny]
      omega
    · rw [a, b] at t2
      simp only [if_true, Bool.false_eq_true, if_false] at t2
      rw [c, fl_e b]
      refine ⟨?_, ?_⟩
      · simp [lft, rgt, t2, aL a _ rfl]
        omega
      · rw [t2]
        simp [mny]
        omega
    · rw [a, b] at t2
      simp only [if_true, Bool.false_eq_true, if_false] at t2
      rw [c]
      refine ⟨?_, ?_⟩
      · have := aR b _ rfl
        rw [fl_e a]
        simp [lft, rgt, t2, this]
        omega
      · rw [t2]
        simp [mny]
        omega
    · rw [a, b] at t2
      simp only [Bool.false_eq_true, if_false] at t2
      rw [c]
      refine ⟨?_, ?_⟩
      · have q1 := aR b _ rfl
        have q2 := aL a _ rfl
        simp [lft, rgt, t2, q2, q1]
        omega
      · rw [t2]
        simp [mny]
        omega
/-- a row of trees, the last one first -/
def flF : List TT → List Plc
  | [] => []
  | T :: F => flF F ++ fl T
theorem wd_forest : ∀ q : List Plc, Wd (q.map (·.1)) → ∃ F : List TT, (∀ T ∈ F, T.isE = false) ∧ q.reverse = flF F ∧ (F.length : Int) = hgt (q.map (·.1))
  | [], _ => ⟨[], by simp, rfl, rfl⟩
  | (b, z) :: q, h => by
    obtain ⟨h0, h3, h1, h2⟩ := h
    obtain ⟨F, f1, f2, f3⟩ := wd_forest q h2
    rw [List.reverse_cons, f2]
    have g : hgt (((b, z) :: q).map (·.1)) = hgt (q.map (·.1)) + 1 - mny b := rfl
    have h1 : mny b ≤ hgt (q.map (·.1)) := h1
    rw [g, ← f3]
    rw [← f3] at h1
    have h0 : 0 ≤ b := h0
    have h3 : b ≤ 3 := h3
    rcases four h0 h3 with rfl | rfl | rfl | rfl
    · refine ⟨.n .e .e z :: F, by simpa [TT.isE] using f1, by simp [flF, fl, brn, TT.isE], by simp [mny]⟩
    · match F, f1, h1 with
      | [], _, h1 => simp [mny] at h1
      | A :: F, f1, h1 =>
        have a : A.isE = false := f1 A List.mem_cons_self
        exact ⟨.n A .e z :: F, fun T hT => (List.mem_cons.mp hT).elim (fun x => by rw [x]; rfl) fun x => f1 T (List.mem_cons_of_mem _ x), by simp [flF, fl, brn, a]; simp [TT.isE], by simp [mny]⟩
    · match F, f1, h1 with
      | [], _, h1 => simp [mny] at h1
      | A :: F, f1, h1 =>
        have a : A.isE = false := f1 A List.mem_cons_self
        exact ⟨.n .e A z :: F, fun T hT => (List.mem_cons.mp hT).elim (fun x => by rw [x]; rfl) fun x => f1 T (List.mem_cons_of_mem _ x), by simp [flF, fl, brn, a]; simp [TT.isE], by simp [mny]⟩
    · match F, f1, h1 with
      | [], _, h1 => simp [mny] at h1
      | [A], _, h1 => simp [mny] at h1
      | A :: B :: F, f1, h1 =>
        have a : A.isE = false := f1 A List.mem_cons_self
        have b : B.isE = false := f1 B (List.mem_cons_of_mem _ List.mem_cons_self)
        exact ⟨.n B A z :: F, fun T hT => (List.mem_cons.mp hT).elim (fun x => by rw [x]; rfl) fun x => f1 T (List.mem_cons_of_mem _ (List.mem_cons_of_mem _ x)), by simp [flF, fl, brn, a, b], by simp [mny]; omega⟩
theorem tree_tt {t : List Plc} (h : IsTree t) : ∃ T, t = fl T := by
  obtain ⟨w, g⟩ := h
  rw [← List.map_reverse] at w g
  obtain ⟨F, f1, f2, f3⟩ := wd_forest t.reverse w
  rw [List.reverse_reverse] at f2
  rw [g] at f3
  match F, f1, f2, f3 with
  | [], _, f2, _ => exact ⟨.e, f2⟩
  | [A], _, f2, _ => exact ⟨A, by rw [f2]; simp [flF]⟩
  | A :: B :: F, _, _, f3 => simp at f3; split at f3 <;> omega
/-- a place of a tree: its part -/
theorem place_dec {t : List Plc} (w : Wd (bi t)) {p : Nat} (hp : p < t.length) : ∃ A l r z B, t = A ++ fl (.n l r z) ++ B ∧ A.length + (fl l).length + (fl r).length = p ∧ Wd (bi A) := by
  have hw : Wd (bi (t.take (p + 1))) := pre_wd w (p + 1)
  unfold bi at hw
  rw [← List.map_reverse] at hw
  obtain ⟨F, f1, f2, f3⟩ := wd_forest _ hw
  rw [List.reverse_reverse] at f2
  have hl := congrArg List.length f2
  rw [List.length_take] at hl
  match F, f1, f2, f3 with
  | [], _, f2, _ =>
    exfalso
    have : (flF []).length = 0 := rfl
    omega
  | .e :: F, f1, _, _ => exact absurd (f1 _ List.mem_cons_self) (by simp [TT.isE])
  | .n l r z :: F, f1, f2, _ =>
    refine ⟨flF F, l, r, z, t.drop (p + 1), ?_, ?_, ?_⟩
    · have e : t = t.take (p + 1) ++ t.drop (p + 1) := (List.take_append_drop _ _).symm
      rw [f2] at e
      exact e
    · have : (flF (.n l r z :: F)).length = (flF F).length + ((fl l).length + (fl r).length + 1) := by
        rw [flF, fl, List.length_append, List.length_append, List.length_append]; rfl
      omega
    · have e : bi (t.take (p + 1)) = bi (fl (.n l r z)) ++ bi (flF F) := by rw [f2, flF, bi_app]
      have := pre_wd w (p + 1)
      have this : Wd (bi (t.take (p + 1))) := this
      rw [e] at this
      exact Wd.tail this
theorem szR_pre : ∀ (X Y : List Int), ∃ Z, (szR (X ++ Y)).reverse = (szR Y).reverse ++ Z
  | [], Y => ⟨[], by simp⟩
  | b :: X, Y => by
    obtain ⟨Z, h⟩ := szR_pre X Y
    show ∃ Z, (szR (b :: (X ++ Y))).reverse = _
    rw [szR, List.reverse_cons, h]
    exact ⟨Z ++ [_], by rw [List.append_assoc]⟩
theorem sizes_dec {A B : List Plc} {T : TT} (w : Wd (bi A)) : ∃ Z, sizesI (A ++ fl T ++ B) = (szR (bi A)).reverse ++ szT T ++ Z := by
  have e : sizesI (A ++ fl T ++ B) = (szR (bi (A ++ fl T ++ B))).reverse := rfl
  rw [e, bi_app, bi_app]
  obtain ⟨Z, h⟩ := szR_pre (bi B) (bi (fl T) ++ bi A)
  rw [h, (tt_sz T w).1]
  exact ⟨Z, rfl⟩
theorem wd_app {A B : List Plc} (w : Wd (bi (A ++ B))) : Wd (bi A) := by
  rw [bi_app] at w
  exact Wd.tail w
/-- the size at a place, and that of its right branch right ahead of it -/
theorem sizes_at {A B : List Plc} {l r : TT} {z : Tx} (w : Wd (bi A)) {p : Int} (hp : p = (A.length : Int) + (fl l).length + (fl r).length) :
    L2.atI ((sizesI (A ++ fl (.n l r z) ++ B)).map D.int) p = some (.int ((fl l).length + (fl r).length + 1)) ∧ (r.isE = false → L2.atI ((sizesI (A ++ fl (.n l r z) ++ B)).map D.int) (p - 1) = some (.int (fl r).length)) := by
  obtain ⟨Z, e⟩ := sizes_dec (B := B) (T := .n l r z) w
  have sl := sizesI_len (A ++ fl (.n l r z) ++ B)
  have hlen : (fl (.n l r z)).length = (fl l).length + (fl r).length + 1 := by rw [fl, List.length_append, List.length_append]; rfl
  have tl : (A ++ fl (.n l r z) ++ B).length = A.length + ((fl l).length + (fl r).length + 1) + B.length := by rw [List.length_append, List.length_append, hlen]
  have zl : (szR (bi A)).reverse.length = A.length := by rw [List.length_reverse, szR_len, bi_len]
  refine ⟨?_, fun hr => ?_⟩
  · rw [atI_pos (by omega) (by rw [List.length_map, sl, tl]; omega), List.getElem?_map, e, szT_top rfl _ Z (by rw [zl, hlen]; omega), hlen]
    simp
  · have := fl_ne hr
    rw [atI_pos (by omega) (by rw [List.length_map, sl, tl]; omega), List.getElem?_map, e, szT]
    rw [show (szR (bi A)).reverse ++ (szT l ++ szT r ++ [((fl l).length : Int) + (fl r).length + 1]) ++ Z = ((szR (bi A)).reverse ++ szT l) ++ szT r ++ ([((fl l).length : Int) + (fl r).length + 1] ++ Z) by simp]
    rw [szT_top hr _ _ (by rw [List.length_append, zl, szT_len]; omega)]
    rfl
end Pv

/-! Parts, branches, joined trees. -/
namespace Pv
open PySem
section
variable {Δ : Prog} {m d : Nat}
abbrev tD (t : List Plc) : D := .tup (t.map plD)
theorem sp_check (h : Has Δ "check_place" 2 2 b_check_place) (t : List D) {p : Int} (h0 : 0 ≤ p) (h1 : p < t.length) (s : Store) : Φ Δ m (d + 1) "check_place" [.d (.tup t), .d (.int p)] s = .ok (.d .non) s := by
  rw [h.run rfl]
  unfold b_check_place
  have e0 : decide (p < 0) = false := decide_eq_false (by omega)
  have e1 : decide ((t.length : Int) ≤ p) = false := decide_eq_false (by omega)
  simp [e0, e1]
theorem sp_check_x (h : Has Δ "check_place" 2 2 b_check_place) (hx : Δ.isx "NoPlace" = true) (t : List D) {p : Int} (h1 : p < 0 ∨ (t.length : Int) ≤ p) (s : Store) : Φ Δ m (d + 1) "check_place" [.d (.tup t), .d (.int p)] s = .exc "NoPlace" s := by
  rw [h.run rfl]
  unfold b_check_place
  by_cases e : p < 0
  · have e0 : decide (p < 0) = true := decide_eq_true e
    simp [e0, hx]
  · have e0 : decide (p < 0) = false := decide_eq_false e
    have e1 : decide ((t.length : Int) ≤ p) = true := decide_eq_true (by omega)
    simp [e0, e1, hx]
theorem cut_at {α : Type} (A X B : List α) {i j : Int} (hi : i = A.length) (hj : j = (A.length : Int) + X.length) : cutL (A ++ X ++ B) (some i) (some j) = X := by
  rw [cut_mid _ (by omega) (by omega), List.append_assoc]
  have e1 : j.toNat = A.length + X.length := by omega
  have e2 : i.toNat = A.length := by omega
  rw [e1, e2, ← List.append_assoc, List.take_append_of_le_length (by rw [List.length_append]; omega), List.take_of_length_le (by rw [List.length_append]; omega), List.drop_left]
theorem fl_len (l r : TT) (z : Tx) : (fl (.n l r z)).length = (fl l).length + (fl r).length + 1 := by rw [fl, List.length_append, List.length_append]; rfl
theorem sp_part (h : Has Δ "part_at" 2 3 b_part_at) (hc : Has Δ "check_place" 2 2 b_check_place) (hs : Has Δ "sizes_of" 1 5 b_sizes_of) (hL : Has Δ "links_of" 1 7 b_links_of) {A B : List Plc} {l r : TT} {z : Tx}
    (w : Wd (bi (A ++ fl (.n l r z) ++ B))) (hl : (A ++ fl (.n l r z) ++ B).length < line) {p : Int} (hp : p = (A.length : Int) + (fl l).length + (fl r).length) (s : Store) :
    Φ Δ m (d + 3) "part_at" [.d (tD (A ++ fl (.n l r z) ++ B)), .d (.int p)] s = .ok (.d (tD (fl (.n l r z)))) s := by
  rw [h.run rfl]
  unfold b_part_at
  have fl' := fl_len l r z
  have c := sp_check (m := m) (d := d + 1) hc ((A ++ fl (.n l r z) ++ B).map plD) (p := p) (by omega) (by rw [List.length_map, List.length_append, List.length_append, fl']; omega) s
  have sz := sp_sizes (m := m) (d := d) hs hL _ w hl s
  have wA : Wd (bi A) := by rw [List.append_assoc] at w; exact wd_app w
  have at1 := (sizes_at (B := B) (l := l) (r := r) (z := z) wA hp).1
  have cut : cutL ((A ++ fl (.n l r z) ++ B).map plD) (some (p + 1 - ((fl l).length + (fl r).length + 1))) (some (p + 1)) = (fl (.n l r z)).map plD := by
    rw [List.map_append, List.map_append]
    exact cut_at _ _ _ (by rw [List.length_map]; omega) (by rw [List.length_map, List.length_map, fl']; omega)
  generalize A ++ fl (.n l r z) ++ B = t at *
  simp only [tD] at sz ⊢
  generalize t.map plD = td at *
  generalize (sizesI t).map D.int = zd at *
  simp [c, hc.has, hs.has, sz, at1, cut]
theorem sp_part_x (h : Has Δ "part_at" 2 3 b_part_at) (hc : Has Δ "check_place" 2 2 b_check_place) (hx : Δ.isx "NoPlace" = true) (t : List Plc) {p : Int} (hp : p < 0 ∨ (t.length : Int) ≤ p) (s : Store) :
    Φ Δ m (d + 3) "part_at" [.d (tD t), .d (.int p)] s = .exc "NoPlace" s := by
  rw [h.run rfl]
  unfold b_part_at
  have c := sp_check_x (m := m) (d := d + 1) hc hx (t.map plD) (p := p) (by rw [List.length_map]; exact hp) s
  simp [c, hc.has]
theorem brn_two (l r : TT) : decide (2 ≤ brn l r) = !r.isE := by
  rcases brn_cases l r with ⟨a, b, c⟩ | ⟨a, b, c⟩ | ⟨a, b, c⟩ | ⟨a, b, c⟩ <;> rw [b, c] <;> rfl
theorem sp_branches (h : Has Δ "branches_by" 2 3 b_branches_by) (l r : TT) (s : Store) : Φ Δ m (d + 1) "branches_by" [.d (tD (fl l)), .d (tD (fl r))] s = .ok (.d (.int (brn l r))) s := by
  rw [h.run rfl]
  unfold b_branches_by
  have el := isE_len l
  have er := isE_len r
  have dl : l.isE = false → 0 < ((fl l).map plD).length := fun q => by rw [List.length_map]; exact fl_ne q
  have dr : r.isE = false → 0 < ((fl r).map plD).length := fun q => by rw [List.length_map]; exact fl_ne q
  have dl' : l.isE = true → (fl l).map plD = [] := fun q => by rw [fl_e q]; rfl
  have dr' : r.isE = true → (fl r).map plD = [] := fun q => by rw [fl_e q]; rfl
  simp only [tD]
  generalize (fl l).map plD = L at *
  generalize (fl r).map plD = R at *
  rcases brn_cases l r with ⟨a, b, c⟩ | ⟨a, b, c⟩ | ⟨a, b, c⟩ | ⟨a, b, c⟩
  · rw [c, dl' a, dr' b]
    simp
  · rw [c, dr' b]
    simp [dl a]
  · rw [c, dl' a]
    simp [dr b]
  · rw [c]
    simp [dl a, dr b]
theorem sp_joined (h : Has Δ "joined" 3 3 b_joined) (hb : Has Δ "branches_by" 2 3 b_branches_by) (g : Δ.glob "MOST_PLACES" = some (.int 100)) (l r : TT) (z : Tx) (hl : (fl l).length + (fl r).length + 1 ≤ 100) (s : Store) :
    Φ Δ m (d + 2) "joined" [.d (tD (fl l)), .d (tD (fl r)), .d (.str z)] s = .ok (.d (tD (fl (.n l r z)))) s := by
  rw [h.run rfl]
  unfold b_joined
  have b := sp_branches (m := m) (d := d) hb l r s
  have dg : decide ((100 : Int) < (((fl l).map plD).length : Int) + ((fl r).map plD).length + 1) = false := by rw [List.length_map, List.length_map]; exact decide_eq_false (by omega)
  have l1 : (1 : Nat) ≤ line := by decide
  have l2 : (2 : Nat) ≤ line := by decide
  have l3 : ((fl l).map plD).length + ((fl r).map plD).length ≤ line := by rw [List.length_map, List.length_map]; show _ ≤ 16777216; omega
  have l4 : ((fl l).map plD).length + ((fl r).map plD).length + 1 ≤ line := by rw [List.length_map, List.length_map]; show _ ≤ 16777216; omega
  have e : (fl (.n l r z)).map plD = (fl l).map plD ++ (fl r).map plD ++ [.tup [.int (brn l r), .str z]] := by rw [fl, List.map_append, List.map_append]; rfl
  simp only [tD]
  rw [e]
  simp only [tD] at b
  generalize (fl l).map plD = L at *
  generalize (fl r).map plD = R at *
  simp [g, dg, b, hb.has, l1, l2, l3, l4]
theorem sp_joined_x (h : Has Δ "joined" 3 3 b_joined) (hx : Δ.isx "TooGreat" = true) (g : Δ.glob "MOST_PLACES" = some (.int 100)) (l r : List Plc) (z : Tx) (hl : 100 < l.length + r.length + 1) (s : Store) :
    Φ Δ m (d + 2) "joined" [.d (tD l), .d (tD r), .d (.str z)] s = .exc "TooGreat" s := by
  rw [h.run rfl]
  unfold b_joined
  have dg : decide ((100 : Int) < ((l.map plD).length : Int) + (r.map plD).length + 1) = true := by rw [List.length_map, List.length_map]; exact decide_eq_true (by omega)
  simp only [tD]
  generalize l.map plD = L at *
  generalize r.map plD = R at *
  simp [g, dg, hx]
theorem sp_taken (h : Has Δ "taken_apart" 1 3 b_taken_apart) (hs : Has Δ "sizes_of" 1 5 b_sizes_of) (hL : Has Δ "links_of" 1 7 b_links_of) (l r : TT) (z : Tx) (hl : (fl (.n l r z)).length < line) (s : Store) :
    Φ Δ m (d + 3) "taken_apart" [.d (tD (fl (.n l r z)))] s = .ok (.d (.tup [tD (fl l), tD (fl r), .str z])) s := by
  rw [h.run rfl]
  unfold b_taken_apart
  have w : Wd (bi (fl (.n l r z))) := (fl_tree _).1
  have sz := sp_sizes (m := m) (d := d) hs hL _ w hl s
  have at1 := fun p hp => (sizes_at (A := []) (B := []) (l := l) (r := r) (z := z) trivial (p := p) hp).2
  have e0 : ([] : List Plc) ++ fl (.n l r z) ++ [] = fl (.n l r z) := by simp
  rw [e0] at at1
  have tl := fl_len l r z
  have top : L2.atI ((fl (.n l r z)).map plD) ((((fl (.n l r z)).map plD).length : Int) - 1) = some (.tup [.int (brn l r), .str z]) := by
    rw [List.length_map, atI_pos (by omega) (by rw [List.length_map]; omega), List.getElem?_map, tl, fl, List.getElem?_append_right (by rw [List.length_append]; omega)]
    rw [show (((((fl l).length + (fl r).length + 1 : Nat) : Int) - 1).toNat - (fl l ++ fl r).length) = 0 by rw [List.length_append]; omega]
    rfl
  have ne0 : (((fl (.n l r z)).map plD).length : Int) ≠ 0 := by rw [List.length_map, tl]; omega
  have ne : (fl (.n l r z)).map plD ≠ [] := fun q => ne0 (by rw [q]; rfl)
  have b2 := brn_two l r
  have c1 : ∀ j : Int, j = (fl l).length → cutL ((fl (.n l r z)).map plD) none (some j) = (fl l).map plD := fun j hj => by
    rw [cut_to _ (by omega), fl, List.append_assoc, List.map_append, hj, Int.toNat_natCast, List.take_append_of_le_length (by simp), List.take_of_length_le (by simp)]
  have c2 : ∀ i j : Int, i = (fl l).length → j = (fl l).length + (fl r).length → cutL ((fl (.n l r z)).map plD) (some i) (some j) = (fl r).map plD := fun i j hi hj => by
    rw [fl, List.map_append, List.map_append]
    exact cut_at _ _ _ (by rw [List.length_map]; exact hi) (by rw [List.length_map, List.length_map]; exact hj)
  have ln : (((fl (.n l r z)).map plD).length : Int) = (fl l).length + (fl r).length + 1 := by rw [List.length_map, tl]; omega
  simp only [tD] at sz ⊢
  generalize (fl (.n l r z)).map plD = t at *
  have l3 : (3 : Nat) ≤ line := by decide
  cases hr : r.isE with
  | true =>
    rw [hr] at b2
    have er : ((fl r).length : Int) = 0 := by rw [fl_e hr]; rfl
    have k1 := c1 ((t.length : Int) - 1) (by omega)
    have k2 := c2 ((t.length : Int) - 1) ((t.length : Int) - 1) (by omega) (by omega)
    have b2 : ¬ 2 ≤ brn l r := of_decide_eq_false b2
    simp [ne, top, b2, k1, k2, l3, ix0, ix1]
  | false =>
    rw [hr] at b2
    have k0 := at1 ((t.length : Int) - 1) (by simp; omega) hr
    have k1 := c1 ((t.length : Int) - 1 - (fl r).length) (by omega)
    have k2 := c2 ((t.length : Int) - 1 - (fl r).length) ((t.length : Int) - 1) (by omega) (by omega)
    have b2 : 2 ≤ brn l r := of_decide_eq_true b2
    simp [ne, top, b2, k0, k1, k2, l3, hs.has, sz, ix0, ix1]
theorem sp_taken_x (h : Has Δ "taken_apart" 1 3 b_taken_apart) (hx : Δ.isx "NoPlace" = true) (s : Store) : Φ Δ m (d + 3) "taken_apart" [.d (tD [])] s = .exc "NoPlace" s := by
  rw [h.run rfl]
  unfold b_taken_apart
  simp [tD, hx]
def brnL (L R : List Plc) : Int := (if L.length = 0 then 0 else 1) + (if R.length = 0 then 0 else 2)
theorem brnL_fl (l r : TT) : brnL (fl l) (fl r) = brn l r := by
  unfold brnL brn
  rw [isE_len l, isE_len r]
  simp
theorem sp_branchesL (h : Has Δ "branches_by" 2 3 b_branches_by) (L R : List Plc) (s : Store) : Φ Δ m (d + 1) "branches_by" [.d (tD L), .d (tD R)] s = .ok (.d (.int (brnL L R))) s := by
  rw [h.run rfl]
  unfold b_branches_by brnL
  cases L with
  | nil =>
    cases R with
    | nil => simp [tD]
    | cons y R => simp [tD]
  | cons x L =>
    cases R with
    | nil => simp [tD]
    | cons y R => simp [tD]
theorem sp_joinedL (h : Has Δ "joined" 3 3 b_joined) (hb : Has Δ "branches_by" 2 3 b_branches_by) (g : Δ.glob "MOST_PLACES" = some (.int 100)) (l r : List Plc) (z : Tx) (hl : l.length + r.length + 1 ≤ 100) (s : Store) :
    Φ Δ m (d + 2) "joined" [.d (tD l), .d (tD r), .d (.str z)] s = .ok (.d (tD (l ++ r ++ [(brnL l r, z)]))) s := by
  rw [h.run rfl]
  unfold b_joined
  have b := sp_branchesL (m := m) (d := d) hb l r s
  have dg : decide ((100 : Int) < ((l.map plD).length : Int) + (r.map plD).length + 1) = false := by rw [List.length_map, List.length_map]; exact decide_eq_false (by omega)
  have l1 : (1 : Nat) ≤ line := by decide
  have l2 : (2 : Nat) ≤ line := by decide
  have l3 : (l.map plD).length + (r.map plD).length ≤ line := by rw [List.length_map, List.length_map]; show _ ≤ 16777216; omega
  have l4 : (l.map plD).length + (r.map plD).length + 1 ≤ line := by rw [List.length_map, List.length_map]; show _ ≤ 16777216; omega
  have e : (l ++ r ++ [(brnL l r, z)]).map plD = l.map plD ++ r.map plD ++ [.tup [.int (brnL l r), .str z]] := by rw [List.map_append, List.map_append]; rfl
  simp only [tD]
  rw [e]
  simp only [tD] at b
  generalize l.map plD = L at *
  generalize r.map plD = R at *
  simp [g, dg, b, hb.has, l1, l2, l3, l4]
abbrev LEFT : Tx := [108, 101, 102, 116]
abbrev RIGHT : Tx := [114, 105, 103, 104, 116]
/-- the tree with another branch -/
def putI (A B : List Plc) (l r : TT) (z : Tx) (left : Bool) (o : List Plc) : List Plc := if left = true then A ++ (o ++ fl r ++ [(brnL o (fl r), z)]) ++ B else A ++ (fl l ++ o ++ [(brnL (fl l) o, z)]) ++ B
def goneI (l r : TT) (left : Bool) : TT := if left = true then l else r
section
variable (h : Has Δ "branch_put" 4 10 b_branch_put) (hp : Has Δ "part_at" 2 3 b_part_at) (hc : Has Δ "check_place" 2 2 b_check_place) (hs : Has Δ "sizes_of" 1 5 b_sizes_of) (hL : Has Δ "links_of" 1 7 b_links_of)
  (ht : Has Δ "taken_apart" 1 3 b_taken_apart) (hj : Has Δ "joined" 3 3 b_joined) (hb : Has Δ "branches_by" 2 3 b_branches_by) (g : Δ.glob "MOST_PLACES" = some (.int 100))
include h hp hc
theorem sp_put_np (hx : Δ.isx "NoPlace" = true) (t o : List Plc) (side : Tx) {p : Int} (hp' : p < 0 ∨ (t.length : Int) ≤ p) (s : Store) : Φ Δ m (d + 4) "branch_put" [.d (tD t), .d (.int p), .d (.str side), .d (tD o)] s = .exc "NoPlace" s := by
  rw [h.run rfl]
  unfold b_branch_put
  have c := sp_part_x (m := m) (d := d) hp hc hx t hp' s
  simp [c, hp.has]
include hs hL ht g
theorem sp_put_x (hx : Δ.isx "TooGreat" = true) {A B o : List Plc} {l r : TT} {z : Tx} (left : Bool) (w : Wd (bi (A ++ fl (.n l r z) ++ B))) (hl : (A ++ fl (.n l r z) ++ B).length < line) {p : Int} (hp' : p = (A.length : Int) + (fl l).length + (fl r).length)
    (big : 100 < ((A ++ fl (.n l r z) ++ B).length : Int) - (fl (goneI l r left)).length + o.length) (s : Store) :
    Φ Δ m (d + 4) "branch_put" [.d (tD (A ++ fl (.n l r z) ++ B)), .d (.int p), .d (.str (if left = true then LEFT else RIGHT)), .d (tD o)] s = .exc "TooGreat" s := by
  rw [h.run rfl]
  unfold b_branch_put
  have c := sp_part (m := m) (d := d) hp hc hs hL w hl hp' s
  have hl2 : (fl (.n l r z)).length < line := by rw [List.length_append, List.length_append] at hl; omega
  have tk := sp_taken (m := m) (d := d) ht hs hL l r z hl2 s
  have dg : decide ((100 : Int) < (((A ++ fl (.n l r z) ++ B).map plD).length : Int) - ((fl (goneI l r left)).map plD).length + (o.map plD).length) = true := by rw [List.length_map, List.length_map, List.length_map]; exact decide_eq_true (by omega)
  generalize A ++ fl (.n l r z) ++ B = t at *
  simp only [tD] at c tk ⊢
  generalize (fl (.n l r z)).map plD = P at *
  generalize t.map plD = td at *
  generalize o.map plD = od at *
  cases left with
  | true =>
    simp only [goneI, if_true] at dg ⊢
    generalize (fl l).map plD = ld at *
    generalize (fl r).map plD = rd at *
    simp [c, tk, hp.has, ht.has, g, dg, hx, bindT, bindTs]
  | false =>
    simp only [goneI, Bool.false_eq_true, if_false] at dg ⊢
    generalize (fl l).map plD = ld at *
    generalize (fl r).map plD = rd at *
    simp [c, tk, hp.has, ht.has, g, dg, hx, bindT, bindTs]
include hj hb
theorem sp_put {A B o : List Plc} {l r : TT} {z : Tx} (left : Bool) (w : Wd (bi (A ++ fl (.n l r z) ++ B))) (hl : (A ++ fl (.n l r z) ++ B).length < line) {p : Int} (hp' : p = (A.length : Int) + (fl l).length + (fl r).length)
    (big : ((A ++ fl (.n l r z) ++ B).length : Int) - (fl (goneI l r left)).length + o.length ≤ 100) (s : Store) :
    Φ Δ m (d + 4) "branch_put" [.d (tD (A ++ fl (.n l r z) ++ B)), .d (.int p), .d (.str (if left = true then LEFT else RIGHT)), .d (tD o)] s = .ok (.d (tD (putI A B l r z left o))) s := by
  rw [h.run rfl]
  unfold b_branch_put
  have c := sp_part (m := m) (d := d) hp hc hs hL w hl hp' s
  have hl2 : (fl (.n l r z)).length < line := by rw [List.length_append, List.length_append] at hl; omega
  have tk := sp_taken (m := m) (d := d) ht hs hL l r z hl2 s
  have fn := fl_len l r z
  have tl : (A ++ fl (.n l r z) ++ B).length = A.length + ((fl l).length + (fl r).length + 1) + B.length := by rw [List.length_append, List.length_append, fn]
  have dg : decide ((100 : Int) < (((A ++ fl (.n l r z) ++ B).map plD).length : Int) - ((fl (goneI l r left)).map plD).length + (o.map plD).length) = false := by rw [List.length_map, List.length_map, List.length_map]; exact decide_eq_false (by omega)
  have k1 : cutL ((A ++ fl (.n l r z) ++ B).map plD) none (some (p + 1 - (((fl (.n l r z)).map plD).length : Int))) = A.map plD := by
    rw [List.length_map, fn, cut_to _ (by omega), List.append_assoc, List.map_append, show (p + 1 - (((fl l).length + (fl r).length + 1 : Nat) : Int)).toNat = A.length by omega, List.take_append_of_le_length (by simp), List.take_of_length_le (by simp)]
  have k2 : cutL ((A ++ fl (.n l r z) ++ B).map plD) (some (p + 1)) none = B.map plD := by
    rw [cut_from _ (by omega), List.map_append, show (p + 1).toNat = ((A ++ fl (.n l r z)).map plD).length by rw [List.length_map, List.length_append, fn]; omega, List.drop_left]
  rw [tl] at big
  unfold putI
  cases left with
  | true =>
    simp only [goneI, if_true] at dg big ⊢
    have j := sp_joinedL (m := m) (d := d + 1) hj hb g o (fl r) z (by omega) s
    have l1 : (A.map plD).length + ((o ++ fl r ++ [(brnL o (fl r), z)]).map plD).length ≤ line := by rw [List.length_map, List.length_map, List.length_append, List.length_append, List.length_singleton]; show _ ≤ 16777216; omega
    have l2 : (A.map plD).length + ((o ++ fl r ++ [(brnL o (fl r), z)]).map plD).length + (B.map plD).length ≤ line := by rw [List.length_map, List.length_map, List.length_map, List.length_append, List.length_append, List.length_singleton]; show _ ≤ 16777216; omega
    have e : (A ++ (o ++ fl r ++ [(brnL o (fl r), z)]) ++ B).map plD = A.map plD ++ (o ++ fl r ++ [(brnL o (fl r), z)]).map plD ++ B.map plD := by rw [List.map_append, List.map_append]
    simp only [tD] at c tk j ⊢
    rw [e]
    generalize (A ++ fl (.n l r z) ++ B).map plD = td at *
    generalize (fl (.n l r z)).map plD = P at *
    generalize (o ++ fl r ++ [(brnL o (fl r), z)]).map plD = X at *
    generalize A.map plD = Ad at *
    generalize B.map plD = Bd at *
    generalize o.map plD = od at *
    generalize (fl l).map plD = ld at *
    generalize (fl r).map plD = rd at *
    simp [c, tk, j, hp.has, ht.has, hj.has, g, dg, k1, k2, l1, l2, bindT, bindTs]
  | false =>
    simp only [goneI, Bool.false_eq_true, if_false] at dg big ⊢
    have j := sp_joinedL (m := m) (d := d + 1) hj hb g (fl l) o z (by omega) s
    have l1 : (A.map plD).length + ((fl l ++ o ++ [(brnL (fl l) o, z)]).map plD).length ≤ line := by rw [List.length_map, List.length_map, List.length_append, List.length_append, List.length_singleton]; show _ ≤ 16777216; omega
    have l2 : (A.map plD).length + ((fl l ++ o ++ [(brnL (fl l) o, z)]).map plD).length + (B.map plD).length ≤ line := by rw [List.length_map, List.length_map, List.length_map, List.length_append, List.length_append, List.length_singleton]; show _ ≤ 16777216; omega
    have e : (A ++ (fl l ++ o ++ [(brnL (fl l) o, z)]) ++ B).map plD = A.map plD ++ (fl l ++ o ++ [(brnL (fl l) o, z)]).map plD ++ B.map plD := by rw [List.map_append, List.map_append]
    simp only [tD] at c tk j ⊢
    rw [e]
    generalize (A ++ fl (.n l r z) ++ B).map plD = td at *
    generalize (fl (.n l r z)).map plD = P at *
    generalize (fl l ++ o ++ [(brnL (fl l) o, z)]).map plD = X at *
    generalize A.map plD = Ad at *
    generalize B.map plD = Bd at *
    generalize o.map plD = od at *
    generalize (fl l).map plD = ld at *
    generalize (fl r).map plD = rd at *
    simp [c, tk, j, hp.has, ht.has, hj.has, g, dg, k1, k2, l1, l2, bindT, bindTs]
end
end
end Pv

/-! The law's own sizes, the refusals that are due, chains. -/
namespace Pv
open PySem
section
variable {Δ : Prog} {m d : Nat}
theorem sp_lsizes (h : Has Δ "_law_sizes" 1 4 b__law_sizes) (t : List Plc) (w : Wd (bi t)) (hl : t.length < line) (s : Store) :
    Φ Δ m (d + 1) "_law_sizes" [.d (tD t)] s = .ok (.new ((sizesI t).map .int)) s := by
  rw [h.run rfl]
  unfold b__law_sizes
  have st0 : (s ++ [Cell.lst []])[s.length]? = some (.lst []) := by simp
  have stj : ∀ l : List D, (s ++ [Cell.lst l])[s.length]? = some (.lst l) := fun l => by simp
  have setj : ∀ l l' : List D, (s ++ [Cell.lst l]).set s.length (.lst l') = s ++ [.lst l'] := fun l l' => by simp
  have takj : ∀ l : List D, (s ++ [Cell.lst l]).take (s.length + 1) = s ++ [.lst l] := fun l => List.take_of_length_le (by simp)
  have key := forL_inv (w := ⟨rangeL 0 t.length, none⟩) (n := s.length + 1) (tg := .name 2) (body := fun e s => evSs (cxΔ Δ m d) b__law_sizes_1 e s)
    (env := [some (.d (tD t)), some (.ref s.length), none, none]) (s := s ++ [.lst []])
    (fun i env s1 => (∃ g1 g2, env = [some (.d (tD t)), some (.ref s.length), g1, g2]) ∧ s1 = s ++ [.lst ((szR (pre t i)).reverse.map .int)])
    ⟨⟨_, _, rfl⟩, rfl⟩ (by
    rintro i dd env s1 hdd ⟨⟨g1, g2, rfl⟩, rfl⟩
    obtain ⟨hi, rfl⟩ := rl_get _ hdd
    refine ⟨rfl, _, rfl, ?_⟩
    have hix := ixD hi
    have wd := pre_wd w (i + 1)
    rw [pre_succ hi] at wd ⊢
    have pl := pre_len (t := t) (i := i) (by omega)
    obtain ⟨w0, w3, w1, w2⟩ := wd
    have sl := stk_len w2
    have hls : (szR (pre t i)).length < line := by rw [szR_len, pl]; omega
    have zl := szR_len (pre t i)
    have hlb : 2 ≤ line := by decide
    obtain ⟨ch, ps⟩ := tree_chain w2
    unfold b__law_sizes_1
    rw [szR]
    generalize hb : t[i].1 = b at w0 w3 w1
    have hix : L2.atI (t.map plD) (i : Int) = some (.tup [.int b, .str t[i].2]) := by rw [hix, ← hb]; rfl
    generalize pre t i = r at *
    simp only [tD]
    generalize t.map plD = td at *
    rcases four w0 w3 with rfl | rfl | rfl | rfl
    · simp [hix, ix0, hls, hlb, lft, rgt, stj, setj, takj]
    · cases hs : stk r with
      | nil => rw [hs] at sl; simp [mny] at w1 sl; omega
      | cons t0 l =>
        rw [hs, pl] at ch
        obtain ⟨e, e0, _⟩ := ch
        have a := atR_ix (r := szR r) e0 (by omega)
        subst e
        simp [hix, ix0, hls, hlb, lft, rgt, hs, a, stj, setj, takj]
    · cases hs : stk r with
      | nil => rw [hs] at sl; simp [mny] at w1 sl; omega
      | cons t0 l =>
        rw [hs, pl] at ch
        obtain ⟨e, e0, _⟩ := ch
        have a := atR_ix (r := szR r) e0 (by omega)
        subst e
        simp [hix, ix0, hls, hlb, lft, rgt, hs, a, stj, setj, takj]
    · match hs : stk r with
      | [] => rw [hs] at sl; simp [mny] at w1 sl; omega
      | [t0] => rw [hs] at sl; simp [mny] at w1 sl; omega
      | t0 :: t1 :: l =>
        rw [hs, pl] at ch
        obtain ⟨e, e0, e1, e2, _⟩ := ch
        have q := ps _ e0 (by omega)
        have a := atR_ix (r := szR r) e0 (by omega)
        have a2 := atR_ix (r := szR r) e2 (by omega)
        have r1 : (i : Int) - (1 + atR (szR r) ((i : Int) - 1)) = (i : Int) - 1 - atR (szR r) ((i : Int) - 1) := by omega
        subst e e1
        simp [hix, ix0, hls, hlb, lft, rgt, hs, a, r1, a2, stj, setj, takj]
        omega) (fun _ _ _ => rfl)
  obtain ⟨env', s', h1, ⟨g1, g2, h2⟩, h3⟩ := key
  simp only [rl_len] at h2 h3
  subst h2 h3
  rw [pre_all] at h1
  have hr := lenR_ok (Nat.le_of_lt hl)
  have tk : ∀ c : Cell, (s ++ [c]).take s.length = s := fun c => List.take_left
  simp [hr, h1, stj, tk, sizesI]
abbrev REFUSED : Tx := [114, 101, 102, 117, 115, 101, 100]
abbrev TOLD : Tx := [116, 111, 108, 100]
/-- refused, of one class alone -/
def refD (a : Nat) : D := .tup [.str REFUSED, .tup ((List.range 10).map fun k => .bl (decide (k = 0) || decide (k = a)))]
theorem lc_rng {n j : Nat} {test : Env → Store → R Bool} {elt : Env → Store → R Val} {env : Env} {s : Store} (g : Nat → D) (hn : n ≤ line) (ht : ∀ e, test e s = .ok true s)
    (h : ∀ k, k < n → elt (env.set j (some (.d (.int (k : Int))))) s = .ok (.d (g k)) s) :
    lcL ⟨rangeL 0 n, none⟩ (.name j) test elt env (rangeL 0 n) [] s = .ok ((List.range n).map g) s := by
  have key := lcL_map (w := ⟨rangeL 0 n, none⟩) (tg := .name j) (test := test) (elt := elt) (env := env) (s := s) (fun _ => true) (fun d => match d with | .int k => g k.toNat | _ => .non)
    (rangeL 0 n) [] rfl (by rw [rl_len]; simpa using hn) (by
      intro x hx
      obtain ⟨i, hi⟩ := List.getElem?_of_mem hx
      obtain ⟨hi, rfl⟩ := rl_get _ hi
      refine ⟨_, rfl, ht _, fun _ => ⟨.d (g i), ?_, ?_⟩⟩
      · rw [Int.zero_add]; exact h i (by assumption)
      · simp [toD])
  rw [key, List.nil_append, List.filter_eq_self.mpr (fun _ _ => rfl)]
  refine congrArg (fun l => R.ok l s) ?_
  unfold rangeL
  rw [List.map_map]
  refine List.map_congr_left fun k _ => ?_
  simp
theorem sp_refusal (h : Has Δ "_law_due_refusal" 1 2 b__law_due_refusal) (a : Nat) (s : Store) : Φ Δ m (d + 1) "_law_due_refusal" [.d (.int a)] s = .ok (.d (refD a)) s := by
  rw [h.run rfl]
  unfold b__law_due_refusal
  have hr := okR1 (j := 10) (by omega) (by omega)
  have lc := lc_rng (n := 10) (j := 1) (test := fun e s => evC (cxΔ Δ m d) y__law_due_refusal_1 e s) (elt := fun e s => evE (cxΔ Δ m d) x__law_due_refusal_1 e s) (env := [some (.d (.int a)), none]) (s := s)
    (fun k => .bl (decide (k = 0) || decide (k = a))) (by decide) (fun e => by unfold y__law_due_refusal_1; simp) (fun k hk => by
      unfold x__law_due_refusal_1
      by_cases e0 : k = 0
      · subst e0
        simp
      · have e0' : ¬ (k : Int) = 0 := by omega
        by_cases e1 : k = a
        · subst e1
          simp [e0, e0']
        · have e1' : ¬ (k : Int) = (a : Int) := by omega
          simp [e0, e0', e1, e1'])
  have l2 : (2 : Nat) ≤ line := by decide
  have ln : ((List.range 10).map fun k => D.bl (decide (k = 0) || decide (k = a))).length = 10 := by simp
  unfold refD
  generalize ((List.range 10).map fun k => D.bl (decide (k = 0) || decide (k = a))) = bs at *
  simp [hr, lc, l2]
end
end Pv

/-! Bodies of defs that many laws have (printed by gen.py). -/
namespace Pv
/- slots of _law_thin: 0 _law_names_here, 1 _law_more, 2 _law_letter, 3 _law_found, 4 _law_k -/
def b__law_thin_1 : Ss :=
 (.cons (.ife (.cmp .isin (.ix (.var 1) (.var 4)) (.var 0)) (.cons (.set 3 (.bin .add (.bin .mul (.int 2) (.var 3)) (.bin .band (.bin .shr (.var 2) (.bin .sub (.bin .sub (.blt .len (.cons (.var 1) .nil)) (.int 1)) (.var 4))) (.int 1))))
 .nil) .nil)
 .nil)
def b__law_thin : Ss :=
 (.cons (.set 3 (.int 0))
 (.cons (.forr (.name 4) (.range (.cons (.blt .len (.cons (.var 1) .nil)) .nil)) b__law_thin_1)
 (.cons (.ret (.var 3))
 .nil)))
/- slots of _law_shape: 0 _law_d, 1 _law_shapes -/
def b__law_shape : Ss :=
 (.cons (.set 1 (.tup (.cons (.tup (.cons (.int 0) (.cons (.int 1) .nil))) (.cons (.tup (.cons (.int 0) (.cons (.int 5) .nil))) (.cons (.tup (.cons (.int 0) (.cons (.int 9) .nil))) (.cons (.tup (.cons (.int 1) (.cons (.int 2) .nil))) (.cons (.tup (.cons (.int 1) (.cons (.int 4) .nil))) (.cons (.tup (.cons (.int 1) (.cons (.int 6) .nil))) (.cons (.tup (.cons (.int 2) (.cons (.int 1) .nil))) (.cons (.tup (.cons (.int 2) (.cons (.int 3) .nil))) (.cons (.tup (.cons (.int 2) (.cons (.int 5) .nil))) (.cons (.tup (.cons (.int 3) (.cons (.int 2) .nil))) (.cons (.tup (.cons (.int 3) (.cons (.int 4) .nil))) (.cons (.tup (.cons (.int 5) (.cons (.int 2) .nil))) .nil))))))))))))))
 (.cons (.ret (.ix (.var 1) (.bin .mod (.var 0) (.int 12))))
 .nil))
/- slots of _law_names: 0 _law_pool_here, 1 _law_many, 2 _law_k -/
def x__law_names_1 : E :=
 (.ix (.var 0) (.var 2))
def y__law_names_1 : Es :=
 .nil
def b__law_names : Ss :=
 (.cons (.ret (.meth .join (.str []) (.cons (.blt .sorted (.cons (.lc x__law_names_1 (.name 2) (.range (.cons (.var 1) .nil)) y__law_names_1) .nil)) .nil)))
 .nil)
/- slots of _law_blocks: 0 _law_script, 1 _law_at, 2 _law_many, 3 _law_salt, 4 _law_found, 5 _law_k -/
def b__law_blocks_1 : Ss :=
 (.cons (.set 4 (.frz (.bin .add (.var 4) (.call "_law_draws" (.cons (.call "_law_cell" (.cons (.var 0) (.cons (.bin .add (.var 1) (.bin .fdiv (.var 5) (.int 50))) .nil))) (.cons (.blt .min (.cons (.int 50) (.cons (.bin .sub (.var 2) (.var 5)) .nil))) (.cons (.bin .add (.var 3) (.bin .mul (.int 1009) (.var 5))) .nil)))))))
 .nil)
def b__law_blocks : Ss :=
 (.cons (.set 4 (.frz (.list .nil)))
 (.cons (.forr (.name 5) (.range (.cons (.int 0) (.cons (.var 2) (.cons (.int 50) .nil)))) b__law_blocks_1)
 (.cons (.ret (.var 4))
 .nil)))
/- slots of _law_grown: 0 _law_way, 1 _law_l, 2 _law_r -/
def b__law_grown : Ss :=
 (.cons (.ife (.cmp .eq (.var 0) (.int 0)) (.cons (.ret (.bin .add (.var 1) (.var 2)))
 .nil) .nil)
 (.cons (.ife (.cmp .eq (.var 0) (.int 1)) (.cons (.ret (.blt .max (.cons (.var 1) (.cons (.var 2) .nil))))
 .nil) .nil)
 (.cons (.ife (.cmp .eq (.var 0) (.int 2)) (.cons (.ret (.var 1))
 .nil) .nil)
 (.cons (.ret (.var 2))
 .nil))))
/- slots of _law_graded: 0 _law_names_here, 1 _law_many, 2 _law_draws_here, 3 _law_table, 4 _law_letter, 5 _law_more, 6 _law_rows, 7 _law_l, 8 _law_r, 9 _law_only, 10 _law_room -/
def x__law_graded_1 : E :=
 (.blt .min (.cons (.bin .sub (.var 1) (.int 1)) (.cons (.bin .add (.call "_law_grown" (.cons (.bin .mod (.ix (.var 2) (.int 0)) (.int 4)) (.cons (.var 7) (.cons (.var 8) .nil)))) (.var 5)) .nil)))
def y__law_graded_1 : Es :=
 .nil
def b__law_graded_3 : Ss :=
 (.cons (.ex (.meth .append (.var 6) (.cons (.blt .tuple (.cons (.lc x__law_graded_1 (.name 8) (.range (.cons (.var 1) .nil)) y__law_graded_1) .nil)) .nil)))
 .nil)
def b__law_graded_4 : Ss :=
 (.cons (.set 5 (.bin .add (.bin .mod (.var 4) (.int 2)) (.bin .mod (.ix (.var 2) (.int 1)) (.int 2))))
 (.cons (.ife (.cmp .eq (.blt .len (.cons (.var 0) .nil)) (.int 0)) (.cons (.set 5 (.int 1))
 .nil) .nil)
 (.cons (.set 6 (.list .nil))
 (.cons (.forr (.name 7) (.range (.cons (.var 1) .nil)) b__law_graded_3)
 (.cons (.ex (.meth .append (.var 3) (.cons (.blt .tuple (.cons (.var 6) .nil)) .nil)))
 .nil)))))
def x__law_graded_5 : E :=
 (.cmp .eq (.var 10) (.var 9))
def y__law_graded_5 : Es :=
 .nil
def b__law_graded : Ss :=
 (.cons (.set 3 (.list .nil))
 (.cons (.forr (.name 4) (.range (.cons (.bin .shl (.int 1) (.blt .len (.cons (.var 0) .nil))) .nil)) b__law_graded_4)
 (.cons (.set 9 (.bin .sub (.var 1) (.int 1)))
 (.cons (.ife (.cmp .eq (.bin .mod (.ix (.var 2) (.int 2)) (.int 2)) (.int 1)) (.cons (.set 9 (.bin .mod (.ix (.var 2) (.int 3)) (.var 1)))
 .nil) .nil)
 (.cons (.ret (.tup (.cons (.var 0) (.cons (.blt .tuple (.cons (.lc x__law_graded_5 (.name 10) (.range (.cons (.var 1) .nil)) y__law_graded_5) .nil)) (.cons (.blt .tuple (.cons (.var 3) .nil)) .nil)))))
 .nil)))))
/- slots of _law_spotted: 0 _law_machine_here, 1 _law_spot, 2 _law_many, 3 _law_table, 4 _law_at, 5 _law_rows, 6 _law_row -/
def b__law_spotted : Ss :=
 (.cons (.set 2 (.blt .len (.cons (.ix (.var 0) (.int 1)) .nil)))
 (.cons (.set 3 (.blt .list (.cons (.ix (.var 0) (.int 2)) .nil)))
 (.cons (.set 4 (.bin .mod (.ix (.var 1) (.int 0)) (.blt .len (.cons (.var 3) .nil))))
 (.cons (.set 5 (.blt .list (.cons (.ix (.var 3) (.var 4)) .nil)))
 (.cons (.set 6 (.blt .list (.cons (.ix (.var 5) (.bin .mod (.ix (.var 1) (.int 1)) (.var 2))) .nil)))
 (.cons (.setix (.var 6) (.bin .mod (.ix (.var 1) (.int 2)) (.var 2)) (.bin .mod (.ix (.var 1) (.int 3)) (.var 2)))
 (.cons (.setix (.var 5) (.bin .mod (.ix (.var 1) (.int 1)) (.var 2)) (.blt .tuple (.cons (.var 6) .nil)))
 (.cons (.setix (.var 3) (.var 4) (.blt .tuple (.cons (.var 5) .nil)))
 (.cons (.ret (.tup (.cons (.ix (.var 0) (.int 0)) (.cons (.ix (.var 0) (.int 1)) (.cons (.blt .tuple (.cons (.var 3) .nil)) .nil)))))
 .nil)))))))))
/- slots of _law_blown: 0 _law_machine_here, 1 _law_owner_here, 2 _law_draws_here, 3 _law_many, 4 _law_at, 5 _law_table, 6 _law_rows, 7 _law_made, 8 _law_x, 9 _law_row, 10 _law_y, 11 _law_due, 12 _law_some, 13 _law_z, 14 _law_room -/
def x__law_blown_1 : E :=
 (.var 13)
def y__law_blown_1 : Es :=
 (.cons (.cmp .eq (.ix (.var 1) (.var 13)) (.var 11)) .nil)
def b__law_blown_3 : Ss :=
 (.cons (.set 11 (.ix (.ix (.var 6) (.ix (.var 1) (.var 8))) (.ix (.var 1) (.var 10))))
 (.cons (.set 12 (.frz (.lc x__law_blown_1 (.name 13) (.range (.cons (.var 3) .nil)) y__law_blown_1)))
 (.cons (.ex (.meth .append (.var 9) (.cons (.ix (.var 12) (.bin .mod (.ix (.var 2) (.bin .mod (.var 4) (.blt .len (.cons (.var 2) .nil)))) (.blt .len (.cons (.var 12) .nil)))) .nil)))
 (.cons (.set 4 (.bin .add (.var 4) (.int 1)))
 .nil))))
def b__law_blown_4 : Ss :=
 (.cons (.set 9 (.list .nil))
 (.cons (.forr (.name 10) (.range (.cons (.var 3) .nil)) b__law_blown_3)
 (.cons (.ex (.meth .append (.var 7) (.cons (.blt .tuple (.cons (.var 9) .nil)) .nil)))
 .nil)))
def b__law_blown_5 : Ss :=
 (.cons (.set 7 (.list .nil))
 (.cons (.forr (.name 8) (.range (.cons (.var 3) .nil)) b__law_blown_4)
 (.cons (.ex (.meth .append (.var 5) (.cons (.blt .tuple (.cons (.var 7) .nil)) .nil)))
 .nil)))
def x__law_blown_6 : E :=
 (.ix (.ix (.var 0) (.int 1)) (.var 14))
def y__law_blown_6 : Es :=
 .nil
def b__law_blown : Ss :=
 (.cons (.set 3 (.blt .len (.cons (.var 1) .nil)))
 (.cons (.set 4 (.int 0))
 (.cons (.set 5 (.list .nil))
 (.cons (.forr (.name 6) (.val (.ix (.var 0) (.int 2))) b__law_blown_5)
 (.cons (.ret (.tup (.cons (.ix (.var 0) (.int 0)) (.cons (.blt .tuple (.cons (.lc x__law_blown_6 (.name 14) (.val (.var 1)) y__law_blown_6) .nil)) (.cons (.blt .tuple (.cons (.var 5) .nil)) .nil)))))
 .nil)))))
/- slots of _law_owner: 0 _law_many, 1 _law_extra, 2 _law_draws_here, 3 _law_row, 4 _law_k, 5 _law_room -/
def b__law_owner_1 : Ss :=
 (.cons (.set 5 (.var 4))
 (.cons (.ife (.cmp .ge (.var 4) (.var 0)) (.cons (.set 5 (.bin .mod (.ix (.var 2) (.bin .add (.bin .mul (.int 2) (.var 4)) (.int 1))) (.var 0)))
 .nil) .nil)
 (.cons (.ex (.meth .insert (.var 3) (.cons (.bin .add (.int 1) (.bin .mod (.ix (.var 2) (.bin .mul (.int 2) (.var 4))) (.blt .len (.cons (.var 3) .nil)))) (.cons (.var 5) .nil))))
 .nil)))
def b__law_owner : Ss :=
 (.cons (.set 3 (.list (.cons (.int 0) .nil)))
 (.cons (.forr (.name 4) (.range (.cons (.int 1) (.cons (.bin .add (.var 0) (.var 1)) .nil))) b__law_owner_1)
 (.cons (.ret (.var 3))
 .nil)))
/- slots of _law_machine: 0 _law_names_here, 1 _law_many, 2 _law_top, 3 _law_draws_here, 4 _law_good, 5 _law_k, 6 _law_table, 7 _law_at, 8 _law_letter, 9 _law_rows, 10 _law_l, 11 _law_r -/
def x__law_machine_1 : E :=
 (.cmp .eq (.bin .mod (.ix (.var 3) (.var 5)) (.int 2)) (.int 1))
def y__law_machine_1 : Es :=
 .nil
def x__law_machine_3 : E :=
 (.bin .mod (.ix (.var 3) (.bin .add (.var 7) (.var 11))) (.var 2))
def y__law_machine_3 : Es :=
 .nil
def b__law_machine_5 : Ss :=
 (.cons (.ex (.meth .append (.var 9) (.cons (.blt .tuple (.cons (.lc x__law_machine_3 (.name 11) (.range (.cons (.var 1) .nil)) y__law_machine_3) .nil)) .nil)))
 (.cons (.set 7 (.bin .add (.var 7) (.var 1)))
 .nil))
def b__law_machine_6 : Ss :=
 (.cons (.set 9 (.list .nil))
 (.cons (.forr (.name 10) (.range (.cons (.var 1) .nil)) b__law_machine_5)
 (.cons (.ex (.meth .append (.var 6) (.cons (.blt .tuple (.cons (.var 9) .nil)) .nil)))
 .nil)))
def b__law_machine : Ss :=
 (.cons (.set 4 (.blt .tuple (.cons (.lc x__law_machine_1 (.name 5) (.range (.cons (.var 1) .nil)) y__law_machine_1) .nil)))
 (.cons (.set 6 (.list .nil))
 (.cons (.set 7 (.var 1))
 (.cons (.forr (.name 8) (.range (.cons (.bin .shl (.int 1) (.blt .len (.cons (.var 0) .nil))) .nil)) b__law_machine_6)
 (.cons (.ret (.tup (.cons (.var 0) (.cons (.var 4) (.cons (.blt .tuple (.cons (.var 6) .nil)) .nil)))))
 .nil)))))
/- slots of _law_any: 0 _law_script, 1 _law_at, 2 _law_pool_here, 3 _law_head, 4 _law_count, 5 _law_many, 6 _law_names_here, 7 _law_draws_here, 8 _law_machine_here, 9 _law_top -/
def b__law_any : Ss :=
 (.cons (.set 3 (.frz (.call "_law_draws" (.cons (.call "_law_cell" (.cons (.var 0) (.cons (.var 1) .nil))) (.cons (.int 10) (.cons (.int 1000003) .nil))))))
 (.cons (.asg (.tup (.cons (.name 4) (.cons (.name 5) .nil))) (.call "_law_shape" (.cons (.ix (.var 3) (.int 0)) .nil)))
 (.cons (.set 6 (.call "_law_names" (.cons (.var 2) (.cons (.var 4) .nil))))
 (.cons (.set 7 (.frz (.call "_law_blocks" (.cons (.var 0) (.cons (.bin .add (.var 1) (.int 1)) (.cons (.bin .add (.bin .add (.var 5) (.bin .mul (.bin .mul (.var 5) (.var 5)) (.bin .shl (.int 1) (.var 4)))) (.int 40)) (.cons (.int 3000017) .nil)))))))
 (.cons (.ife (.cmp .eq (.bin .mod (.ix (.var 3) (.int 3)) (.int 3)) (.int 0)) (.cons (.set 8 (.call "_law_graded" (.cons (.var 6) (.cons (.var 5) (.cons (.var 7) .nil)))))
 (.cons (.ife (.cmp .eq (.bin .mod (.ix (.var 3) (.int 4)) (.int 3)) (.int 0)) (.cons (.set 8 (.call "_law_spotted" (.cons (.var 8) (.cons (.slice (.var 7) (.int 4) (.int 8)) .nil))))
 .nil) .nil)
 (.cons (.ret (.call "_law_blown" (.cons (.var 8) (.cons (.call "_law_owner" (.cons (.var 5) (.cons (.int 0) (.cons (.slice (.var 7) (.int 8) (.int 30)) .nil)))) (.cons (.var 7) .nil)))))
 .nil))) .nil)
 (.cons (.set 9 (.var 5))
 (.cons (.ife (.cmp .eq (.bin .mod (.ix (.var 3) (.int 1)) (.int 3)) (.int 0)) (.cons (.set 9 (.bin .add (.int 1) (.bin .mod (.ix (.var 3) (.int 2)) (.var 5))))
 .nil) .nil)
 (.cons (.ret (.call "_law_machine" (.cons (.var 6) (.cons (.var 5) (.cons (.var 9) (.cons (.var 7) .nil))))))
 .nil))))))))
end Pv

/-! Machines of draws. -/
namespace Pv
open PySem
section
variable {Δ : Prog} {m d : Nat}
/-! ### stores with some cells behind -/
section
variable (s : Store) (a b c x : Cell) (l : List Cell)
theorem st_g0 : (s ++ a :: l)[s.length]? = some a := by simp
theorem st_g1 : (s ++ a :: b :: l)[s.length + 1]? = some b := by
  rw [List.getElem?_append_right (by omega), show s.length + 1 - s.length = 1 by omega]; rfl
theorem st_g2 : (s ++ a :: b :: c :: l)[s.length + 2]? = some c := by
  rw [List.getElem?_append_right (by omega), show s.length + 2 - s.length = 2 by omega]; rfl
theorem st_p0 : (s ++ a :: l).set s.length x = s ++ x :: l := by simp
theorem st_p1 : (s ++ a :: b :: l).set (s.length + 1) x = s ++ a :: x :: l := by
  rw [List.set_append_right _ _ (by omega), show s.length + 1 - s.length = 1 by omega]; rfl
theorem st_p2 : (s ++ a :: b :: c :: l).set (s.length + 2) x = s ++ a :: b :: x :: l := by
  rw [List.set_append_right _ _ (by omega), show s.length + 2 - s.length = 2 by omega]; rfl
theorem st_k0 : (s ++ l).take s.length = s := List.take_left
theorem st_k1 : (s ++ a :: l).take (s.length + 1) = s ++ [a] := by
  rw [List.take_append, List.take_of_length_le (by omega), show s.length + 1 - s.length = 1 by omega]; rfl
theorem st_k2 : (s ++ a :: b :: l).take (s.length + 2) = s ++ [a, b] := by
  rw [List.take_append, List.take_of_length_le (by omega), show s.length + 2 - s.length = 2 by omega]; rfl
theorem st_k3 : (s ++ a :: b :: c :: l).take (s.length + 3) = s ++ [a, b, c] := by
  rw [List.take_append, List.take_of_length_le (by omega), show s.length + 3 - s.length = 3 by omega]; rfl
end
theorem rng_succ {α : Type} (g : Nat → α) (i : Nat) : (List.range (i + 1)).map g = (List.range i).map g ++ [g i] := by rw [List.range_succ, List.map_append]; rfl
/-! ### shapes, names, blocks of draws -/
theorem sp_shape (h : Has Δ "_law_shape" 1 2 b__law_shape) (x : Int) : ∃ c n : Nat, c ≤ 5 ∧ 1 ≤ n ∧ n ≤ 9 ∧ n * n * 2 ^ c ≤ 200 ∧ ∀ s, Φ Δ m (d + 1) "_law_shape" [.d (.int x)] s = .ok (.d (.tup [.int c, .int n])) s := by
  have run : ∀ (c n : Nat) (i : Int), x % 12 = i → L2.atI [D.tup [.int 0, .int 1], .tup [.int 0, .int 5], .tup [.int 0, .int 9], .tup [.int 1, .int 2], .tup [.int 1, .int 4], .tup [.int 1, .int 6], .tup [.int 2, .int 1], .tup [.int 2, .int 3], .tup [.int 2, .int 5], .tup [.int 3, .int 2], .tup [.int 3, .int 4], .tup [.int 5, .int 2]] i = some (.tup [.int c, .int n]) →
      ∀ s, Φ Δ m (d + 1) "_law_shape" [.d (.int x)] s = .ok (.d (.tup [.int c, .int n])) s := fun c n i e ha s => by
    rw [h.run rfl]
    unfold b__law_shape
    have l2 : (2 : Nat) ≤ line := by decide
    have l12 : (12 : Nat) ≤ line := by decide
    have m12 : (0 : Int) < 12 := by decide
    simp [l2, l12, e, ha]
  have q : x % 12 = 0 ∨ x % 12 = 1 ∨ x % 12 = 2 ∨ x % 12 = 3 ∨ x % 12 = 4 ∨ x % 12 = 5 ∨ x % 12 = 6 ∨ x % 12 = 7 ∨ x % 12 = 8 ∨ x % 12 = 9 ∨ x % 12 = 10 ∨ x % 12 = 11 := by omega
  rcases q with q | q | q | q | q | q | q | q | q | q | q | q
  · exact ⟨0, 1, by decide, by decide, by decide, by decide, run 0 1 _ q rfl⟩
  · exact ⟨0, 5, by decide, by decide, by decide, by decide, run 0 5 _ q rfl⟩
  · exact ⟨0, 9, by decide, by decide, by decide, by decide, run 0 9 _ q rfl⟩
  · exact ⟨1, 2, by decide, by decide, by decide, by decide, run 1 2 _ q rfl⟩
  · exact ⟨1, 4, by decide, by decide, by decide, by decide, run 1 4 _ q rfl⟩
  · exact ⟨1, 6, by decide, by decide, by decide, by decide, run 1 6 _ q rfl⟩
  · exact ⟨2, 1, by decide, by decide, by decide, by decide, run 2 1 _ q rfl⟩
  · exact ⟨2, 3, by decide, by decide, by decide, by decide, run 2 3 _ q rfl⟩
  · exact ⟨2, 5, by decide, by decide, by decide, by decide, run 2 5 _ q rfl⟩
  · exact ⟨3, 2, by decide, by decide, by decide, by decide, run 3 2 _ q rfl⟩
  · exact ⟨3, 4, by decide, by decide, by decide, by decide, run 3 4 _ q rfl⟩
  · exact ⟨5, 2, by decide, by decide, by decide, by decide, run 5 2 _ q rfl⟩
theorem sp_names (h : Has Δ "_law_names" 2 3 b__law_names) (pool : Tx) (k : Nat) (hk : k ≤ pool.length) (h6 : k < 64) (hp : pool.length ≤ line) (s : Store) :
    Φ Δ m (d + 1) "_law_names" [.d (.str pool), .d (.int k)] s = .ok (.d (.str (sortG ltN (pool.take k)))) s := by
  rw [h.run rfl]
  unfold b__law_names
  have hr := okR1 (j := (k : Int)) (by omega) (by omega)
  have lc := lc_rng (n := k) (j := 2) (test := fun e s => evC (cxΔ Δ m d) y__law_names_1 e s) (elt := fun e s => evE (cxΔ Δ m d) x__law_names_1 e s) (env := [some (.d (.str pool)), some (.d (.int k)), none]) (s := s)
    (fun i => .str [pool.getD i 0]) (by show k ≤ 16777216; omega) (fun e => by unfold y__law_names_1; simp) (fun i hi => by
      unfold x__law_names_1
      have hi' : i < pool.length := by omega
      have a : L2.atI pool (i : Int) = some (pool.getD i 0) := by
        rw [atI_pos (by omega) (by omega), Int.toNat_natCast, List.getElem?_eq_getElem hi', List.getD_eq_getElem?_getD, List.getElem?_eq_getElem hi']
        rfl
      simp [a, hp])
  have em : (List.range k).map (fun i => D.str [pool.getD i 0]) = ((pool.take k).map fun c => ([c] : Tx)).map D.str := by
    rw [List.map_map]
    refine List.ext_getElem (by simp; omega) fun i h1 h2 => ?_
    have h1 : i < k := by simpa using h1
    have hi' : i < pool.length := by omega
    simp [List.getD_eq_getElem?_getD, List.getElem?_eq_getElem hi']
  rw [em] at lc
  have tl : (pool.take k).length = k := by rw [List.length_take]; omega
  have so := sorted_txt s ((pool.take k).map fun c => ([c] : Tx)) (by rw [List.length_map, tl]; exact h6)
  have sl := (sortG_perm (lt := ltN) (pool.take k)).length_eq
  rw [sort_one] at so
  have jr := joinR s [] ((sortG ltN (pool.take k)).map fun c => ([c] : Tx)) (by rw [ones_sum, sl, tl]; simp only [List.length_nil, Nat.mul_zero]; show _ ≤ 16777216; omega)
  rw [join_one] at jr
  generalize sortG ltN (pool.take k) = S at *
  generalize ((pool.take k).map fun c => ([c] : Tx)).map D.str = M at *
  generalize (S.map fun c => ([c] : Tx)).map D.str = N at *
  simp [hr, lc, so, jr]
theorem rng50 (i j : Int) (s : Store) (h : okR i = true) (h2 : okR j = true) : rangeV [.d (.int i), .d (.int j), .d (.int 50)] s = .ok ⟨rangeD i 50 ((j - i + 49) / 50).toNat, none⟩ s := by
  show (if _ then _ else if _ then _ else _) = _
  rw [if_neg (by rw [h, h2]; decide), if_pos (by rw [h, h2]; decide)]
/-- the cells, as a function -/
theorem cells_of (h : Has Δ "_law_cell" 2 2 b__law_cell) (ns : List Int) : ∃ C : Int → Int, ∀ k s, Φ Δ m (d + 1) "_law_cell" [.d (.lst (ns.map .int)), .d (.int k)] s = .ok (.d (.int (C k))) s :=
  ⟨fun k => (sp_cell (m := m) (d := d) h ns k).choose, fun k s => (sp_cell (m := m) (d := d) h ns k).choose_spec s⟩
def blkL (C : Int → Int) (a many salt : Int) : Nat → List Int
  | 0 => []
  | i + 1 => blkL C a many salt i ++ drawsI (C (a + i)) (if many - 50 * i < 50 then many - 50 * i else 50) (salt + 1009 * (50 * i))
theorem blkL_len (C : Int → Int) (a many salt : Int) (h0 : 0 ≤ many) : ∀ i : Nat, 50 * (i : Int) < many + 50 → ((blkL C a many salt i).length : Int) = if 50 * (i : Int) < many then 50 * (i : Int) else many
  | 0, h => by
    show (0 : Int) = _
    split <;> omega
  | i + 1, h => by
    have ih := blkL_len C a many salt h0 i (by omega)
    rw [blkL, List.length_append, drawsI_len]
    push_cast
    rw [ih]
    split <;> split <;> split <;> omega
theorem blkL_nn (C : Int → Int) (a many salt : Int) : ∀ i : Nat, ∀ x ∈ blkL C a many salt i, 0 ≤ x
  | 0, x, h => by cases h
  | i + 1, x, h => by
    rw [blkL] at h
    rcases List.mem_append.mp h with q | q
    · exact blkL_nn C a many salt i x q
    · exact (drawsI_nn _ _ _ x q).1
def blkI (C : Int → Int) (a many salt : Int) : List Int := blkL C a many salt ((many + 49) / 50).toNat
theorem sp_blocks (h : Has Δ "_law_blocks" 4 6 b__law_blocks) (hc : Has Δ "_law_cell" 2 2 b__law_cell) (hd : Has Δ "_law_draws" 3 6 b__law_draws) (hm : Has Δ "_law_mixed" 3 4 b__law_mixed) (ns : List Int) {C : Int → Int}
    (hC : ∀ k s, Φ Δ m (d + 2) "_law_cell" [.d (.lst (ns.map .int)), .d (.int k)] s = .ok (.d (.int (C k))) s) (a many salt : Int) (h0 : 0 ≤ many) (h1 : many ≤ 100000) (s : Store) :
    Φ Δ m (d + 3) "_law_blocks" [.d (.lst (ns.map .int)), .d (.int a), .d (.int many), .d (.int salt)] s = .ok (.d (.lst ((blkI C a many salt).map .int))) s := by
  rw [h.run rfl]
  unfold b__law_blocks
  have hN : ((many - 0 + 49) / 50).toNat = ((many + 49) / 50).toNat := by rw [Int.sub_zero]
  have key := forL_inv (w := ⟨rangeD 0 50 ((many + 49) / 50).toNat, none⟩) (n := s.length) (tg := .name 5) (body := fun e s => evSs (cxΔ Δ m (d + 2)) b__law_blocks_1 e s)
    (env := [some (.d (.lst (ns.map .int))), some (.d (.int a)), some (.d (.int many)), some (.d (.int salt)), some (.d (.lst [])), none]) (s := s)
    (fun i env s1 => (∃ g1, env = [some (.d (.lst (ns.map .int))), some (.d (.int a)), some (.d (.int many)), some (.d (.int salt)), some (.d (.lst ((blkL C a many salt i).map .int))), g1]) ∧ s1 = s)
    ⟨⟨_, rfl⟩, rfl⟩ (by
    rintro i dd env s1 hdd ⟨⟨g1, rfl⟩, rfl⟩
    have hi : i < ((many + 49) / 50).toNat ∧ dd = .int (0 + (i : Int) * 50) := by
      unfold rangeD at hdd
      rw [List.getElem?_map] at hdd
      cases q : (List.range ((many + 49) / 50).toNat)[i]? with
      | none => rw [q] at hdd; cases hdd
      | some c =>
        rw [q] at hdd
        cases hdd
        obtain ⟨q1, q2⟩ := List.getElem?_eq_some_iff.mp q
        have hl : i < ((many + 49) / 50).toNat := by simpa using q1
        have hc : c = i := by rw [← q2]; simp
        subst hc
        exact ⟨hl, rfl⟩
    obtain ⟨hi, rfl⟩ := hi
    refine ⟨rfl, _, rfl, ?_⟩
    unfold b__law_blocks_1
    have dr := sp_draws (m := m) (d := d) hd hm (C (a + i)) (if many - 50 * i < 50 then many - 50 * i else 50) (salt + 1009 * (50 * i)) (by split <;> omega) (by split <;> omega) s1
    have hcc := hC (a + i) s1
    have bl := blkL_len C a many salt h0 i (by omega)
    have dl := drawsI_len (C (a + i)) (if many - 50 * i < 50 then many - 50 * i else 50) (salt + 1009 * (50 * i))
    have ll : ((blkL C a many salt i).map D.int).length + ((drawsI (C (a + i)) (if many - 50 * i < 50 then many - 50 * i else 50) (salt + 1009 * (50 * i))).map D.int).length ≤ line := by
      rw [List.length_map, List.length_map, dl]
      show _ ≤ 16777216
      have : ((blkL C a many salt i).length : Int) ≤ 100000 := by rw [bl]; split <;> omega
      have : (if many - 50 * (i : Int) < 50 then many - 50 * (i : Int) else 50) ≤ 50 := by split <;> omega
      omega
    rw [blkL, List.map_append]
    have hk : 0 + (i : Int) * 50 = 50 * i := by omega
    rw [hk]
    generalize hkk : 50 * (i : Int) = k at *
    have fd : ∀ s, binV .fdiv (.d (.int k)) (.d (.int 50)) s = .ok (.d (.int i)) s := fun s => by rw [bin_fdiv _ _ _ (by decide) (by decide), show k / 50 = i by omega]
    have mu : ∀ s, binV .mul (.d (.int 1009)) (.d (.int k)) s = .ok (.d (.int (1009 * k))) s := fun s => bin_mul _ _ _ (okM1 (by omega))
    generalize (drawsI (C (a + i)) (if many - k < 50 then many - k else 50) (salt + 1009 * k)).map D.int = Y at *
    generalize (blkL C a many salt i).map D.int = X at *
    have mn : ∀ s, bltV .min [.d (.int 50), .d (.int (many - k))] s = .ok (.d (.int (if many - k < 50 then many - k else 50))) s := fun s => min_i _ _ _
    generalize (if many - k < 50 then many - k else 50) = mm at *
    have ts : s1.take s1.length = s1 := List.take_of_length_le (Nat.le_refl _)
    simp [fd, mu, mn, hcc, dr, ll, hc.has, hd.has, ts]) (fun _ _ _ => rfl)
  obtain ⟨env', s', h1', ⟨g1, h2⟩, h3⟩ := key
  simp only [rd_len] at h2 h3
  subst h2 h3
  have ts : s'.take s'.length = s' := List.take_of_length_le (Nat.le_refl _)
  have r1 := okR1 (j := many) (by omega) (by omega)
  have r0 := okR1 (j := 0) (by omega) (by omega)
  have l0 : (0 : Nat) ≤ line := by decide
  have rg := rng50 0 many s' r0 r1
  rw [Int.sub_zero] at rg
  unfold blkI
  simp [rg, h1', ts, l0]
end
end Pv

/-! Machines of draws: the machine whole. -/
namespace Pv
open PySem
structure Mach where
  names : Tx
  good : List Bool
  tab : List (List (List Int))
def rowD (r : List Int) : D := .tup (r.map .int)
def rowsD (r : List (List Int)) : D := .tup (r.map rowD)
def machD (M : Mach) : D := .tup [.str M.names, .tup (M.good.map .bl), .tup (M.tab.map rowsD)]
/-- c names, n rooms -/
structure WF (M : Mach) (c n : Nat) : Prop where
  nl : M.names.length = c
  gl : M.good.length = n
  tl : M.tab.length = 2 ^ c
  rl : ∀ rows ∈ M.tab, rows.length = n ∧ ∀ r ∈ rows, r.length = n ∧ ∀ x ∈ r, 0 ≤ x ∧ x < (n : Int)
section
variable {Δ : Prog} {m d : Nat}
theorem atL {L : List Int} {i : Nat} (h : i < L.length) : L2.atI (L.map D.int) (i : Int) = some (.int (L.getD i 0)) := by
  rw [atI_pos (by omega) (by rw [List.length_map]; omega), Int.toNat_natCast, List.getElem?_map, List.getD_eq_getElem?_getD, List.getElem?_eq_getElem h]
  rfl
/-- a loop over numbers that puts one thing behind its list each turn -/
theorem app_for {cx : Cxt} {n j : Nat} {body : Ss} (I : Nat → Env → Prop) (g : Nat → D) (s' : Store) (env0 : Env) (h0 : I 0 env0)
    (hs : ∀ i env, i < n → I i env → ∃ e2 st2, evSs cx body (env.set j (some (.d (.int (i : Int))))) (s' ++ [.lst ((List.range i).map g)]) = .nx e2 (s' ++ .lst ((List.range (i + 1)).map g) :: st2) ∧ I (i + 1) (e2.map (kill (s'.length + 1)))) :
    ∃ env', forL ⟨rangeL 0 n, none⟩ (s'.length + 1) (.name j) (fun e s => evSs cx body e s) (rangeL 0 n) env0 (s' ++ [.lst []]) = .nx env' (s' ++ [.lst ((List.range n).map g)]) ∧ I n env' := by
  have key := forL_inv (w := ⟨rangeL 0 n, none⟩) (n := s'.length + 1) (tg := .name j) (body := fun e s => evSs cx body e s) (env := env0) (s := s' ++ [.lst []])
    (fun i env s1 => I i env ∧ s1 = s' ++ [.lst ((List.range i).map g)]) ⟨h0, rfl⟩ (by
    rintro i dd env s1 hdd ⟨hi, rfl⟩
    obtain ⟨hl, rfl⟩ := rl_get _ hdd
    rw [Int.zero_add]
    refine ⟨rfl, _, rfl, ?_⟩
    obtain ⟨e2, st2, he, hI⟩ := hs i env hl hi
    show (evSs cx body (env.set j (some (.d (.int (i : Int))))) (s' ++ [.lst ((List.range i).map g)])).turn _
    rw [he]
    exact ⟨hI, st_k1 _ _ _⟩) (fun _ _ _ => rfl)
  obtain ⟨env', s1, h1, h2, h3⟩ := key
  simp only [rl_len] at h2 h3
  subst h3
  exact ⟨env', h1, h2⟩
def atM (n k l : Nat) : Nat := n + (k * n + l) * n
theorem atM_s (n k l : Nat) : atM n k (l + 1) = atM n k l + n := by
  unfold atM
  rw [← Nat.add_assoc, Nat.succ_mul]
  omega
theorem atM_n (n k : Nat) : atM n k n = atM n (k + 1) 0 := by
  unfold atM
  rw [Nat.add_zero, Nat.succ_mul]
theorem atM_lt {n c k l r : Nat} (hk : k < 2 ^ c) (hl : l < n) (hr : r < n) : atM n k l + r < n + n * n * 2 ^ c := by
  have h1 : k * n + l < 2 ^ c * n := by
    have : (k + 1) * n ≤ 2 ^ c * n := Nat.mul_le_mul_right n hk
    rw [Nat.succ_mul] at this
    omega
  have h2 : (k * n + l + 1) * n ≤ 2 ^ c * n * n := Nat.mul_le_mul_right n h1
  rw [Nat.succ_mul] at h2
  have e : n * n * 2 ^ c = 2 ^ c * n * n := by rw [Nat.mul_comm, Nat.mul_assoc]
  unfold atM
  omega
def mchM (names : Tx) (c n : Nat) (top : Int) (L : List Int) : Mach :=
  ⟨names, (List.range n).map fun k => decide (L.getD k 0 % 2 = 1), (List.range (2 ^ c)).map fun k => (List.range n).map fun l => (List.range n).map fun r => L.getD (atM n k l + r) 0 % top⟩
theorem mchM_wf {names : Tx} {c n : Nat} {top : Int} {L : List Int} (hn : names.length = c) (h0 : 0 < top) (h1 : top ≤ n) : WF (mchM names c n top L) c n := by
  refine ⟨hn, by simp [mchM], by simp [mchM], fun rows hr => ?_⟩
  obtain ⟨k, _, rfl⟩ := List.mem_map.mp hr
  refine ⟨by simp, fun r hr => ?_⟩
  obtain ⟨l, _, rfl⟩ := List.mem_map.mp hr
  refine ⟨by simp, fun x hx => ?_⟩
  obtain ⟨y, _, rfl⟩ := List.mem_map.mp hx
  have := Int.emod_nonneg (L.getD (atM n k l + y) 0) (by omega : top ≠ 0)
  have := Int.emod_lt_of_pos (L.getD (atM n k l + y) 0) h0
  omega
theorem shl_ok (c : Nat) (h : c ≤ 60) (s : Store) : binV .shl (.d (.int 1)) (.d (.int c)) s = .ok (.d (.int ((2 ^ c : Nat) : Int))) s := by
  have e : okShl 1 c = true := by
    unfold okShl
    have l0 : (1 : Int).natAbs.log2 = 0 := by decide
    rw [l0]
    simp
    omega
  show (match (if okShl 1 c = true then some (1 * 2 ^ (c : Int).toNat) else none) with | some k => Pv.R.ok (Val.d (D.int k)) s | none => Pv.R.err) = _
  rw [if_pos e, Int.toNat_natCast]
  simp
theorem pow_small {c : Nat} (h : c ≤ 20) : 2 ^ c ≤ 1048576 := by
  have := Nat.pow_le_pow_right (n := 2) (by decide) h
  exact this
theorem sp_machine (h : Has Δ "_law_machine" 4 12 b__law_machine) (names : Tx) (c n : Nat) (top : Int) (L : List Int) (hn : names.length = c) (hc : c ≤ 20) (hn1 : n ≤ 1000) (h0 : 0 < top) (hL : n + n * n * 2 ^ c ≤ L.length) (s : Store) :
    Φ Δ m (d + 1) "_law_machine" [.d (.str names), .d (.int n), .d (.int top), .d (.lst (L.map .int))] s = .ok (.d (machD (mchM names c n top L))) s := by
  rw [h.run rfl]
  unfold b__law_machine
  have pw := pow_small hc
  have hrn := okR1 (j := (n : Int)) (by omega) (by omega)
  have hrc : okR ((2 ^ c : Nat) : Int) = true := by
    generalize 2 ^ c = q at *
    exact okR1 (by omega) (by omega)
  have hsh := fun s => shl_ok c (by omega) s
  have hnl : names.length ≤ line := by show _ ≤ 16777216; omega
  -- the truths
  have lg := fun (env : Env) s (h3 : env[3]? = some (some (.d (.lst (L.map .int))))) (hl : env.length = 12) => lc_rng (n := n) (j := 5) (test := fun e s => evC (cxΔ Δ m d) y__law_machine_1 e s) (elt := fun e s => evE (cxΔ Δ m d) x__law_machine_1 e s) (env := env) (s := s)
    (fun k => .bl (decide (L.getD k 0 % 2 = 1))) (by show n ≤ 16777216; omega) (fun e => by unfold y__law_machine_1; simp) (fun k hk => by
      unfold x__law_machine_1
      have a := atL (L := L) (i := k) (by omega)
      have g5 : (env.set 5 (some (.d (.int (k : Int)))))[5]? = some (some (.d (.int (k : Int)))) := by rw [List.getElem?_set_self (by omega)]
      have g3 : (env.set 5 (some (.d (.int (k : Int)))))[3]? = some (some (.d (.lst (L.map .int)))) := by rw [List.getElem?_set_ne (by decide), h3]
      generalize L.map D.int = LD at *
      generalize L.getD k 0 = y at *
      by_cases q : y % 2 = 1
      · simp [g5, g3, a, q]
      · simp [g5, g3, a, q])
  -- a row
  have lr := fun (A : Nat) (hA : ∀ r, r < n → A + r < L.length) (env : Env) s (h3 : env[3]? = some (some (.d (.lst (L.map .int))))) (h2 : env[2]? = some (some (.d (.int top)))) (h7 : env[7]? = some (some (.d (.int (A : Int))))) (hl : env.length = 12) =>
    lc_rng (n := n) (j := 11) (test := fun e s => evC (cxΔ Δ m d) y__law_machine_3 e s) (elt := fun e s => evE (cxΔ Δ m d) x__law_machine_3 e s) (env := env) (s := s)
    (fun r => .int (L.getD (A + r) 0 % top)) (by show n ≤ 16777216; omega) (fun e => by unfold y__law_machine_3; simp) (fun r hr => by
      unfold x__law_machine_3
      have a := atL (L := L) (i := A + r) (hA r hr)
      rw [Int.natCast_add] at a
      have g11 : (env.set 11 (some (.d (.int (r : Int)))))[11]? = some (some (.d (.int (r : Int)))) := by rw [List.getElem?_set_self (by omega)]
      have g3 : (env.set 11 (some (.d (.int (r : Int)))))[3]? = some (some (.d (.lst (L.map .int)))) := by rw [List.getElem?_set_ne (by decide), h3]
      have g2 : (env.set 11 (some (.d (.int (r : Int)))))[2]? = some (some (.d (.int top))) := by rw [List.getElem?_set_ne (by decide), h2]
      have g7 : (env.set 11 (some (.d (.int (r : Int)))))[7]? = some (some (.d (.int (A : Int)))) := by rw [List.getElem?_set_ne (by decide), h7]
      have md : ∀ x s, binV .mod (.d (.int x)) (.d (.int top)) s = .ok (.d (.int (x % top))) s := fun x s => bin_mod _ _ _ h0
      generalize L.map D.int = LD at *
      generalize L.getD (A + r) 0 = y at *
      simp [g11, g3, g2, g7, a, md])
  generalize hgd : (D.tup ((List.range n).map fun k => .bl (decide (L.getD k 0 % 2 = 1)))) = gd
  generalize hLD : L.map D.int = LD at *
  -- the rows of one number of marks
  have inner := fun (k : Nat) (hk : k < 2 ^ c) (s' : Store) (v10 v11 : Option Val) (r9 r6 : Nat) (h9 : r9 = s'.length) (h6 : r6 < s'.length) => app_for (cx := cxΔ Δ m d) (n := n) (j := 10) (body := b__law_machine_5)
    (fun l env => ∃ v10 v11, env = [some (.d (.str names)), some (.d (.int n)), some (.d (.int top)), some (.d (.lst LD)), some (.d gd), none, some (.ref r6), some (.d (.int (atM n k l : Nat))), some (.d (.int k)), some (.ref r9), v10, v11])
    (fun l => .tup ((List.range n).map fun r => .int (L.getD (atM n k l + r) 0 % top))) s'
    [some (.d (.str names)), some (.d (.int n)), some (.d (.int top)), some (.d (.lst LD)), some (.d gd), none, some (.ref r6), some (.d (.int (atM n k 0 : Nat))), some (.d (.int k)), some (.ref r9), v10, v11] ⟨v10, v11, rfl⟩ (by
    rintro l env hl ⟨v10, v11, rfl⟩
    have row := lr (atM n k l) (fun r hr => by have := atM_lt hk hl hr; omega) [some (.d (.str names)), some (.d (.int n)), some (.d (.int top)), some (.d (.lst LD)), some (.d gd), none, some (.ref r6), some (.d (.int (atM n k l : Nat))), some (.d (.int k)), some (.ref r9), some (.d (.int l)), none]
      (s' ++ [.lst ((List.range l).map fun l => .tup ((List.range n).map fun r => .int (L.getD (atM n k l + r) 0 % top)))]) rfl rfl rfl rfl
    have hls : ((List.range l).map fun l => D.tup ((List.range n).map fun r => .int (L.getD (atM n k l + r) 0 % top))).length < line := by rw [List.length_map, List.length_range]; show l < 16777216; omega
    have hA : ((atM n k l : Nat) : Int) + (n : Int) = ((atM n k (l + 1) : Nat) : Int) := by rw [atM_s]; omega
    refine ⟨[some (.d (.str names)), some (.d (.int n)), some (.d (.int top)), some (.d (.lst LD)), some (.d gd), none, some (.ref r6), some (.d (.int (atM n k (l + 1) : Nat))), some (.d (.int k)), some (.ref r9), some (.d (.int l)), v11], [], ?_, some (.d (.int l)), kill (s'.length + 1) v11, ?_⟩
    · rw [rng_succ]
      subst h9
      generalize ((List.range l).map fun l => D.tup ((List.range n).map fun r => .int (L.getD (atM n k l + r) 0 % top))) = acc at *
      generalize ((List.range n).map fun r => D.int (L.getD (atM n k l + r) 0 % top)) = rw0 at *
      generalize atM n k (l + 1) = A1 at *
      generalize atM n k l = A0 at *
      unfold b__law_machine_5
      simp [hrn, row, hls, st_g0, st_p0, hA]
    · subst h9
      have q6 : r6 < s'.length + 1 := by omega
      cases v11 <;> simp [q6])
  have outer := app_for (cx := cxΔ Δ m d) (n := 2 ^ c) (j := 8) (body := b__law_machine_6)
    (fun k env => ∃ v8 v9 v10 v11, env = [some (.d (.str names)), some (.d (.int n)), some (.d (.int top)), some (.d (.lst LD)), some (.d gd), none, some (.ref s.length), some (.d (.int (atM n k 0 : Nat))), v8, v9, v10, v11])
    (fun k => .tup ((List.range n).map fun l => .tup ((List.range n).map fun r => .int (L.getD (atM n k l + r) 0 % top)))) s
    [some (.d (.str names)), some (.d (.int n)), some (.d (.int top)), some (.d (.lst LD)), some (.d gd), none, some (.ref s.length), some (.d (.int (atM n 0 0 : Nat))), none, none, none, none] ⟨_, _, _, _, rfl⟩ (by
    rintro k env hk ⟨v8, v9, v10, v11, rfl⟩
    obtain ⟨env', hf, v10', v11', rfl⟩ := inner k hk (s ++ [.lst ((List.range k).map fun k => .tup ((List.range n).map fun l => .tup ((List.range n).map fun r => .int (L.getD (atM n k l + r) 0 % top))))]) v10 v11 (s.length + 1) s.length (by simp) (by simp)
    have hls : ((List.range k).map fun k => D.tup ((List.range n).map fun l => .tup ((List.range n).map fun r => .int (L.getD (atM n k l + r) 0 % top)))).length < line := by rw [List.length_map, List.length_range]; show k < 16777216; omega
    refine ⟨[some (.d (.str names)), some (.d (.int n)), some (.d (.int top)), some (.d (.lst LD)), some (.d gd), none, some (.ref s.length), some (.d (.int (atM n (k + 1) 0 : Nat))), some (.d (.int k)), some (.ref (s.length + 1)), v10', v11'],
      [.lst ((List.range n).map fun l => .tup ((List.range n).map fun r => .int (L.getD (atM n k l + r) 0 % top)))], ?_, some (.d (.int k)), none, kill (s.length + 1) v10', kill (s.length + 1) v11', ?_⟩
    · rw [rng_succ]
      rw [atM_n] at hf
      simp only [List.length_append, List.length_cons, List.length_nil, Nat.zero_add] at hf
      generalize ((List.range k).map fun k => D.tup ((List.range n).map fun l => .tup ((List.range n).map fun r => .int (L.getD (atM n k l + r) 0 % top)))) = acc at *
      generalize ((List.range n).map fun l => D.tup ((List.range n).map fun r => .int (L.getD (atM n k l + r) 0 % top))) = rws at *
      generalize atM n (k + 1) 0 = A1 at *
      generalize atM n k 0 = A0 at *
      simp only [List.append_assoc, List.cons_append, List.nil_append] at hf
      have l0 : (0 : Nat) ≤ line := by decide
      unfold b__law_machine_6
      simp [hrn, hf, hls, st_g0, st_g1, st_p0, st_p1, l0]
    · simp only [List.map_cons, List.map_nil, kill_d, kill_n, kill_r, Nat.lt_irrefl, if_false, if_true, Nat.lt_succ_self])
  obtain ⟨env', hf, v8', v9', v10', v11', rfl⟩ := outer
  have eT : ((mchM names c n top L).tab.map rowsD) = (List.range (2 ^ c)).map fun k => .tup ((List.range n).map fun l => .tup ((List.range n).map fun r => .int (L.getD (atM n k l + r) 0 % top))) := by
    simp only [mchM, List.map_map]
    refine List.map_congr_left fun k _ => ?_
    simp only [Function.comp, rowsD, List.map_map]
    refine congrArg D.tup (List.map_congr_left fun l _ => ?_)
    simp only [Function.comp, rowD, List.map_map]
    rfl
  have eG : D.tup ((mchM names c n top L).good.map .bl) = gd := by
    rw [← hgd]
    simp only [mchM, List.map_map]
    rfl
  have lg0 := lg [some (.d (.str names)), some (.d (.int n)), some (.d (.int top)), some (.d (.lst LD)), none, none, none, none, none, none, none, none] s rfl rfl
  unfold machD
  rw [eT, eG]
  have eN : (mchM names c n top L).names = names := rfl
  rw [eN]
  have l3 : (3 : Nat) ≤ line := by decide
  have l0 : (0 : Nat) ≤ line := by decide
  have at0 : atM n 0 0 = n := by unfold atM; omega
  rw [at0] at hf
  rw [← hgd]
  rw [← hgd] at hf
  generalize ((List.range (2 ^ c)).map fun k => D.tup ((List.range n).map fun l => .tup ((List.range n).map fun r => .int (L.getD (atM n k l + r) 0 % top)))) = tb at *
  generalize ((List.range n).map fun k => D.bl (decide (L.getD k 0 % 2 = 1))) = gl at *
  rw [← hn] at hsh hrc hf
  have hr0 : okR ((2 ^ names.length : Nat) : Int) = true := hrc
  generalize 2 ^ names.length = q at *
  simp [hrn, lg0, hsh, hnl, hr0, hf, l0, l3, st_g0, st_k0]
end
end Pv

/-! Machines of draws: steps that count. -/
namespace Pv
open PySem
section
variable {Δ : Prog} {m d : Nat}
def grw (w l r : Int) : Int := if w = 0 then l + r else if w = 1 then (if r > l then r else l) else if w = 2 then l else r
theorem grw_nn {w l r : Int} (hl : 0 ≤ l) (hr : 0 ≤ r) : 0 ≤ grw w l r := by
  unfold grw
  split
  · omega
  · split
    · split <;> omega
    · split <;> omega
theorem sp_grown (h : Has Δ "_law_grown" 3 3 b__law_grown) (w l r : Int) (s : Store) : Φ Δ m (d + 1) "_law_grown" [.d (.int w), .d (.int l), .d (.int r)] s = .ok (.d (.int (grw w l r))) s := by
  rw [h.run rfl]
  unfold b__law_grown grw
  by_cases e0 : w = 0
  · simp [e0]
  · by_cases e1 : w = 1
    · simp [e1]
    · by_cases e2 : w = 2
      · simp [e2]
      · simp [e0, e1, e2]
def grE (n : Nat) (w mo : Int) (l r : Nat) : Int := if grw w l r + mo < (n : Int) - 1 then grw w l r + mo else (n : Int) - 1
def grMo (c : Nat) (b : Int) (k : Nat) : Int := if c = 0 then 1 else (k : Int) % 2 + b % 2
def grO (n : Nat) (a b : Int) : Int := if a % 2 = 1 then b % n else (n : Int) - 1
def gradM (names : Tx) (c n : Nat) (L : List Int) : Mach :=
  ⟨names, (List.range n).map fun (k : Nat) => decide ((k : Int) = grO n (L.getD 2 0) (L.getD 3 0)), (List.range (2 ^ c)).map fun k => (List.range n).map fun l => (List.range n).map fun r => grE n (L.getD 0 0 % 4) (grMo c (L.getD 1 0) k) l r⟩
theorem gradM_wf {names : Tx} {c n : Nat} {L : List Int} (hn : names.length = c) (h1 : 1 ≤ n) : WF (gradM names c n L) c n := by
  refine ⟨hn, by simp [gradM], by simp [gradM], fun rows hr => ?_⟩
  obtain ⟨k, _, rfl⟩ := List.mem_map.mp hr
  refine ⟨by simp, fun r hr => ?_⟩
  obtain ⟨l, _, rfl⟩ := List.mem_map.mp hr
  refine ⟨by simp, fun x hx => ?_⟩
  obtain ⟨y, _, rfl⟩ := List.mem_map.mp hx
  have g := grw_nn (w := L.getD 0 0 % 4) (l := (l : Int)) (r := (y : Int)) (by omega) (by omega)
  have mo : 0 ≤ grMo c (L.getD 1 0) k := by unfold grMo; split <;> omega
  unfold grE
  split <;> omega
theorem sp_graded (h : Has Δ "_law_graded" 3 11 b__law_graded) (hg : Has Δ "_law_grown" 3 3 b__law_grown) (names : Tx) (c n : Nat) (L : List Int) (hn : names.length = c) (hc : c ≤ 20) (hn0 : 1 ≤ n) (hn1 : n ≤ 1000) (hL : 4 ≤ L.length) (s : Store) :
    Φ Δ m (d + 2) "_law_graded" [.d (.str names), .d (.int n), .d (.lst (L.map .int))] s = .ok (.d (machD (gradM names c n L))) s := by
  rw [h.run rfl]
  unfold b__law_graded
  have pw := pow_small hc
  have hrn := okR1 (j := (n : Int)) (by omega) (by omega)
  have hrc : okR ((2 ^ c : Nat) : Int) = true := by
    generalize 2 ^ c = q at *
    exact okR1 (by omega) (by omega)
  have hsh := fun s => shl_ok c (by omega) s
  have hnl : names.length ≤ line := by show _ ≤ 16777216; omega
  have a0 := atL (L := L) (i := 0) (by omega)
  have a1 := atL (L := L) (i := 1) (by omega)
  have a2 := atL (L := L) (i := 2) (by omega)
  have a3 := atL (L := L) (i := 3) (by omega)
  simp only [Int.natCast_zero] at a0
  have a1 : L2.atI (L.map D.int) 1 = some (.int (L.getD 1 0)) := a1
  have a2 : L2.atI (L.map D.int) 2 = some (.int (L.getD 2 0)) := a2
  have a3 : L2.atI (L.map D.int) 3 = some (.int (L.getD 3 0)) := a3
  have eT : ((gradM names c n L).tab.map rowsD) = (List.range (2 ^ c)).map fun k => .tup ((List.range n).map fun l => .tup ((List.range n).map fun r => .int (grE n (L.getD 0 0 % 4) (grMo c (L.getD 1 0) k) l r))) := by
    simp only [gradM, List.map_map]
    refine List.map_congr_left fun k _ => ?_
    simp only [Function.comp, rowsD, List.map_map]
    refine congrArg D.tup (List.map_congr_left fun l _ => ?_)
    simp only [Function.comp, rowD, List.map_map]
    rfl
  have eG : (gradM names c n L).good.map D.bl = (List.range n).map fun (k : Nat) => D.bl (decide ((k : Int) = grO n (L.getD 2 0) (L.getD 3 0))) := by
    simp only [gradM, List.map_map]
    rfl
  unfold machD
  rw [eT, eG]
  have eN : (gradM names c n L).names = names := rfl
  rw [eN]
  generalize L.getD 0 0 = y0 at *
  generalize L.getD 1 0 = y1 at *
  generalize L.getD 2 0 = y2 at *
  generalize L.getD 3 0 = y3 at *
  generalize hLD : L.map D.int = LD at *
  -- a row
  have lr := fun (mo : Int) (l : Nat) (env : Env) s (h1 : env[1]? = some (some (.d (.int n)))) (h2 : env[2]? = some (some (.d (.lst LD)))) (h5 : env[5]? = some (some (.d (.int mo)))) (h7 : env[7]? = some (some (.d (.int (l : Int))))) (hl : env.length = 11) =>
    lc_rng (n := n) (j := 8) (test := fun e s => evC (cxΔ Δ m (d + 1)) y__law_graded_1 e s) (elt := fun e s => evE (cxΔ Δ m (d + 1)) x__law_graded_1 e s) (env := env) (s := s)
    (fun r => .int (grE n (y0 % 4) mo l r)) (by show n ≤ 16777216; omega) (fun e => by unfold y__law_graded_1; simp) (fun r hr => by
      unfold x__law_graded_1
      have g8 : (env.set 8 (some (.d (.int (r : Int)))))[8]? = some (some (.d (.int (r : Int)))) := by rw [List.getElem?_set_self (by omega)]
      have g1 : (env.set 8 (some (.d (.int (r : Int)))))[1]? = some (some (.d (.int n))) := by rw [List.getElem?_set_ne (by decide), h1]
      have g2 : (env.set 8 (some (.d (.int (r : Int)))))[2]? = some (some (.d (.lst LD))) := by rw [List.getElem?_set_ne (by decide), h2]
      have g5 : (env.set 8 (some (.d (.int (r : Int)))))[5]? = some (some (.d (.int mo))) := by rw [List.getElem?_set_ne (by decide), h5]
      have g7 : (env.set 8 (some (.d (.int (r : Int)))))[7]? = some (some (.d (.int (l : Int)))) := by rw [List.getElem?_set_ne (by decide), h7]
      have gw := sp_grown (m := m) (d := d) hg (y0 % 4) l r
      unfold grE
      generalize grw (y0 % 4) l r = w at *
      simp [g8, g1, g2, g5, g7, a0, gw, hg.has])
  -- the truths
  have lg := fun (on : Int) (env : Env) s (h9 : env[9]? = some (some (.d (.int on)))) (hl : env.length = 11) => lc_rng (n := n) (j := 10) (test := fun e s => evC (cxΔ Δ m (d + 1)) y__law_graded_5 e s) (elt := fun e s => evE (cxΔ Δ m (d + 1)) x__law_graded_5 e s) (env := env) (s := s)
    (fun (k : Nat) => .bl (decide ((k : Int) = on))) (by show n ≤ 16777216; omega) (fun e => by unfold y__law_graded_5; simp) (fun k hk => by
      unfold x__law_graded_5
      have g10 : (env.set 10 (some (.d (.int (k : Int)))))[10]? = some (some (.d (.int (k : Int)))) := by rw [List.getElem?_set_self (by omega)]
      have g9 : (env.set 10 (some (.d (.int (k : Int)))))[9]? = some (some (.d (.int on))) := by rw [List.getElem?_set_ne (by decide), h9]
      by_cases q : (k : Int) = on
      · subst q
        simp [g10, g9]
      · simp [g10, g9, q])
  have inner := fun (k : Nat) (mo : Int) (s' : Store) (v7 v8 : Option Val) (r6 r3 : Nat) (h6 : r6 = s'.length) (h3 : r3 < s'.length) => app_for (cx := cxΔ Δ m (d + 1)) (n := n) (j := 7) (body := b__law_graded_3)
    (fun l env => ∃ v7 v8, env = [some (.d (.str names)), some (.d (.int n)), some (.d (.lst LD)), some (.ref r3), some (.d (.int k)), some (.d (.int mo)), some (.ref r6), v7, v8, none, none])
    (fun l => .tup ((List.range n).map fun r => .int (grE n (y0 % 4) mo l r))) s'
    [some (.d (.str names)), some (.d (.int n)), some (.d (.lst LD)), some (.ref r3), some (.d (.int k)), some (.d (.int mo)), some (.ref r6), v7, v8, none, none] ⟨v7, v8, rfl⟩ (by
    rintro l env hl ⟨v7, v8, rfl⟩
    have row := lr mo l [some (.d (.str names)), some (.d (.int n)), some (.d (.lst LD)), some (.ref r3), some (.d (.int k)), some (.d (.int mo)), some (.ref r6), some (.d (.int l)), none, none, none]
      (s' ++ [.lst ((List.range l).map fun l => .tup ((List.range n).map fun r => .int (grE n (y0 % 4) mo l r)))]) rfl rfl rfl rfl rfl
    have hls : ((List.range l).map fun l => D.tup ((List.range n).map fun r => .int (grE n (y0 % 4) mo l r))).length < line := by rw [List.length_map, List.length_range]; show l < 16777216; omega
    refine ⟨[some (.d (.str names)), some (.d (.int n)), some (.d (.lst LD)), some (.ref r3), some (.d (.int k)), some (.d (.int mo)), some (.ref r6), some (.d (.int l)), v8, none, none], [], ?_, some (.d (.int l)), kill (s'.length + 1) v8, ?_⟩
    · rw [rng_succ]
      subst h6
      generalize ((List.range l).map fun l => D.tup ((List.range n).map fun r => .int (grE n (y0 % 4) mo l r))) = acc at *
      generalize ((List.range n).map fun r => D.int (grE n (y0 % 4) mo l r)) = rw0 at *
      unfold b__law_graded_3
      simp [hrn, row, hls, st_g0, st_p0]
    · subst h6
      have q3 : r3 < s'.length + 1 := by omega
      simp only [List.map_cons, List.map_nil, kill_d, kill_n, kill_r, if_pos q3, Nat.lt_succ_self, if_true])
  have outer := app_for (cx := cxΔ Δ m (d + 1)) (n := 2 ^ c) (j := 4) (body := b__law_graded_4)
    (fun k env => ∃ v4 v5 v6 v7 v8, env = [some (.d (.str names)), some (.d (.int n)), some (.d (.lst LD)), some (.ref s.length), v4, v5, v6, v7, v8, none, none])
    (fun k => .tup ((List.range n).map fun l => .tup ((List.range n).map fun r => .int (grE n (y0 % 4) (grMo c y1 k) l r)))) s
    [some (.d (.str names)), some (.d (.int n)), some (.d (.lst LD)), some (.ref s.length), none, none, none, none, none, none, none] ⟨_, _, _, _, _, rfl⟩ (by
    rintro k env hk ⟨v4, v5, v6, v7, v8, rfl⟩
    obtain ⟨env', hf, v7', v8', rfl⟩ := inner k (grMo c y1 k) (s ++ [.lst ((List.range k).map fun k => .tup ((List.range n).map fun l => .tup ((List.range n).map fun r => .int (grE n (y0 % 4) (grMo c y1 k) l r))))]) v7 v8 (s.length + 1) s.length (by simp) (by simp)
    have hls : ((List.range k).map fun k => D.tup ((List.range n).map fun l => .tup ((List.range n).map fun r => .int (grE n (y0 % 4) (grMo c y1 k) l r)))).length < line := by rw [List.length_map, List.length_range]; show k < 16777216; omega
    refine ⟨[some (.d (.str names)), some (.d (.int n)), some (.d (.lst LD)), some (.ref s.length), some (.d (.int k)), some (.d (.int (grMo c y1 k))), some (.ref (s.length + 1)), v7', v8', none, none],
      [.lst ((List.range n).map fun l => .tup ((List.range n).map fun r => .int (grE n (y0 % 4) (grMo c y1 k) l r)))], ?_, some (.d (.int k)), some (.d (.int (grMo c y1 k))), none, kill (s.length + 1) v7', kill (s.length + 1) v8', ?_⟩
    · rw [rng_succ]
      simp only [List.length_append, List.length_cons, List.length_nil, Nat.zero_add] at hf
      generalize ((List.range k).map fun k => D.tup ((List.range n).map fun l => .tup ((List.range n).map fun r => .int (grE n (y0 % 4) (grMo c y1 k) l r)))) = acc at *
      generalize ((List.range n).map fun l => D.tup ((List.range n).map fun r => .int (grE n (y0 % 4) (grMo c y1 k) l r))) = rws at *
      simp only [List.append_assoc, List.cons_append, List.nil_append] at hf
      have l0 : (0 : Nat) ≤ line := by decide
      unfold b__law_graded_4
      simp only [List.set_cons_succ, List.set_cons_zero]
      rw [seqE (e1 := [some (.d (.str names)), some (.d (.int n)), some (.d (.lst LD)), some (.ref s.length), some (.d (.int k)), some (.d (.int ((k : Int) % 2 + y1 % 2))), v6, v7, v8, none, none]) (s1 := s ++ [.lst acc]) (by simp [a1])]
      rw [seqE (e1 := [some (.d (.str names)), some (.d (.int n)), some (.d (.lst LD)), some (.ref s.length), some (.d (.int k)), some (.d (.int (grMo c y1 k))), v6, v7, v8, none, none]) (s1 := s ++ [.lst acc]) (by
        unfold grMo
        by_cases e : c = 0
        · have en : names = [] := List.eq_nil_of_length_eq_zero (by omega)
          rw [ifT (s1 := s ++ [.lst acc]) (by simp [en])]
          simp [e]
        · have en : names ≠ [] := fun q => e (by rw [← hn, q]; rfl)
          rw [ifF (s1 := s ++ [.lst acc]) (by simp [en, hnl])]
          simp [e])]
      generalize grMo c y1 k = mo at *
      simp [hrn, hf, hls, st_g0, st_g1, st_p0, st_p1, l0]
    · simp only [List.map_cons, List.map_nil, kill_d, kill_n, kill_r, Nat.lt_irrefl, if_false, if_true, Nat.lt_succ_self])
  obtain ⟨env', hf, v4', v5', v6', v7', v8', rfl⟩ := outer
  have l3 : (3 : Nat) ≤ line := by decide
  have l0 : (0 : Nat) ≤ line := by decide
  generalize ((List.range (2 ^ c)).map fun k => D.tup ((List.range n).map fun l => .tup ((List.range n).map fun r => .int (grE n (y0 % 4) (grMo c y1 k) l r)))) = tb at *
  rw [← hn] at hsh hrc hf
  generalize 2 ^ names.length = q at *
  have lg1 := lg (grO n y2 y3) [some (.d (.str names)), some (.d (.int n)), some (.d (.lst LD)), some (.ref s.length), v4', v5', v6', v7', v8', some (.d (.int (grO n y2 y3))), none] (s ++ [.lst tb]) rfl rfl
  generalize ((List.range n).map fun (k : Nat) => D.bl (decide ((k : Int) = grO n y2 y3))) = gl at *
  rw [seqE (e1 := [some (.d (.str names)), some (.d (.int n)), some (.d (.lst LD)), some (.ref s.length), none, none, none, none, none, none, none]) (s1 := s ++ [.lst []]) (by simp [l0])]
  rw [seqE (e1 := [some (.d (.str names)), some (.d (.int n)), some (.d (.lst LD)), some (.ref s.length), v4', v5', v6', v7', v8', none, none]) (s1 := s ++ [.lst tb]) (by simp [hsh, hrc, hnl, hf])]
  rw [seqE (e1 := [some (.d (.str names)), some (.d (.int n)), some (.d (.lst LD)), some (.ref s.length), v4', v5', v6', v7', v8', some (.d (.int ((n : Int) - 1))), none]) (s1 := s ++ [.lst tb]) (by simp)]
  rw [seqE (e1 := [some (.d (.str names)), some (.d (.int n)), some (.d (.lst LD)), some (.ref s.length), v4', v5', v6', v7', v8', some (.d (.int (grO n y2 y3))), none]) (s1 := s ++ [.lst tb]) (by
    unfold grO
    have md : ∀ x s, binV .mod (.d (.int x)) (.d (.int (n : Int))) s = .ok (.d (.int (x % n))) s := fun x s => bin_mod _ _ _ (by omega)
    by_cases e : y2 % 2 = 1
    · rw [ifT (s1 := s ++ [.lst tb]) (by simp [a2, e])]
      simp [a3, md, e]
    · rw [ifF (s1 := s ++ [.lst tb]) (by simp [a2, e])]
      simp [e])]
  simp [hrn, lg1, l3, st_g0, st_k0]
end
end Pv

/-! Machines of draws: one step changed; rooms in a drawn order. -/
namespace Pv
open PySem
section
variable {Δ : Prog} {m d : Nat}
theorem ixN_nat {n i : Nat} (h : i < n) : L2.ixN n (i : Int) = some i := by
  unfold L2.ixN
  have h1 : ¬ (i : Int) < 0 := by omega
  have h2 : ((i : Int) < n) := by omega
  simp [h1, h2]
theorem atRow {l : List D} {i : Nat} (h : i < l.length) : L2.atI l (i : Int) = some (l[i]'h) := by
  rw [atI_pos (by omega) (by omega), Int.toNat_natCast, List.getElem?_eq_getElem h]
def spotM (M : Mach) (n : Nat) (a b e : Nat) (v : Int) : Mach := ⟨M.names, M.good, M.tab.set a ((M.tab.getD a []).set b (((M.tab.getD a []).getD b []).set e v))⟩
theorem mem_set' {α : Type} {l : List α} {i : Nat} {x y : α} (h : y ∈ l.set i x) : y ∈ l ∨ y = x := List.mem_or_eq_of_mem_set h
theorem getD_mem {α : Type} {l : List α} {i : Nat} {z : α} (h : i < l.length) : l.getD i z ∈ l := by
  rw [List.getD_eq_getElem?_getD, List.getElem?_eq_getElem h]
  exact List.getElem_mem h
theorem spotM_wf {M : Mach} {c n : Nat} (w : WF M c n) {a b e : Nat} {v : Int} (ha : a < 2 ^ c) (hb : b < n) (hv : 0 ≤ v ∧ v < (n : Int)) : WF (spotM M n a b e v) c n := by
  have ma := getD_mem (z := []) (by rw [w.tl]; exact ha : a < M.tab.length)
  obtain ⟨l1, w1⟩ := w.rl _ ma
  have mb := getD_mem (z := []) (by rw [l1]; exact hb : b < (M.tab.getD a []).length)
  obtain ⟨l2, w2⟩ := w1 _ mb
  refine ⟨w.nl, w.gl, by show (List.set _ _ _).length = _; rw [List.length_set]; exact w.tl, fun rows hr => ?_⟩
  rcases mem_set' hr with q | rfl
  · exact w.rl rows q
  · refine ⟨by rw [List.length_set]; exact l1, fun r hr => ?_⟩
    rcases mem_set' hr with q | rfl
    · exact w1 r q
    · refine ⟨by rw [List.length_set]; exact l2, fun x hx => ?_⟩
      rcases mem_set' hx with q | rfl
      · exact w2 x q
      · exact hv
theorem map_getD {α : Type} (f : α → D) {l : List α} {i : Nat} {z : α} (h : i < l.length) : L2.atI (l.map f) (i : Int) = some (f (l.getD i z)) := by
  rw [atI_pos (by omega) (by rw [List.length_map]; omega), Int.toNat_natCast, List.getElem?_map, List.getD_eq_getElem?_getD, List.getElem?_eq_getElem h]
  rfl
theorem sp_spotted (h : Has Δ "_law_spotted" 2 7 b__law_spotted) (M : Mach) (c n : Nat) (w : WF M c n) (hc : c ≤ 20) (h1 : 1 ≤ n) (hn : n ≤ 1000) (s0 s1 s2 s3 : Int) :
    ∃ a b e : Nat, ∃ v : Int, a < 2 ^ c ∧ b < n ∧ (0 ≤ v ∧ v < (n : Int)) ∧ ∀ s, Φ Δ m (d + 1) "_law_spotted" [.d (machD M), .d (.lst [.int s0, .int s1, .int s2, .int s3])] s = .ok (.d (machD (spotM M n a b e v))) s := by
  have pw := pow_small hc
  have pp : 0 < 2 ^ c := Nat.two_pow_pos c
  refine ⟨(s0 % ((2 ^ c : Nat) : Int)).toNat, (s1 % (n : Int)).toNat, (s2 % (n : Int)).toNat, s3 % (n : Int), ?_, ?_, ?_, ?_⟩
  · generalize 2 ^ c = q at *
    have := Int.emod_nonneg s0 (by omega : (q : Int) ≠ 0)
    have := Int.emod_lt_of_pos s0 (by omega : (0 : Int) < q)
    omega
  · have := Int.emod_nonneg s1 (by omega : (n : Int) ≠ 0)
    have := Int.emod_lt_of_pos s1 (by omega : (0 : Int) < n)
    omega
  · exact ⟨Int.emod_nonneg s3 (by omega), Int.emod_lt_of_pos s3 (by omega)⟩
  intro s
  have ea : s0 % ((2 ^ c : Nat) : Int) = (((s0 % ((2 ^ c : Nat) : Int)).toNat : Nat) : Int) ∧ (s0 % ((2 ^ c : Nat) : Int)).toNat < 2 ^ c := by
    generalize 2 ^ c = q at *
    have := Int.emod_nonneg s0 (by omega : (q : Int) ≠ 0)
    have := Int.emod_lt_of_pos s0 (by omega : (0 : Int) < q)
    omega
  have eb : ∀ x : Int, x % (n : Int) = (((x % (n : Int)).toNat : Nat) : Int) ∧ (x % (n : Int)).toNat < n := fun x => by
    have := Int.emod_nonneg x (by omega : (n : Int) ≠ 0)
    have := Int.emod_lt_of_pos x (by omega : (0 : Int) < n)
    omega
  obtain ⟨ea, la⟩ := ea
  obtain ⟨e1, l1⟩ := eb s1
  obtain ⟨e2, l2⟩ := eb s2
  rw [h.run rfl]
  unfold b__law_spotted
  have mdn : ∀ x s, binV .mod (.d (.int x)) (.d (.int (n : Int))) s = .ok (.d (.int (x % n))) s := fun x s => bin_mod _ _ _ (by omega)
  have md2 : ∀ x s, binV .mod (.d (.int x)) (.d (.int ((2 ^ c : Nat) : Int))) s = .ok (.d (.int (x % ((2 ^ c : Nat) : Int)))) s := fun x s => bin_mod _ _ _ (by omega)
  have tl := w.tl
  have ma := getD_mem (z := []) (by rw [w.tl]; exact la : (s0 % ((2 ^ c : Nat) : Int)).toNat < M.tab.length)
  obtain ⟨rl1, w1⟩ := w.rl _ ma
  have mb := getD_mem (z := []) (by rw [rl1]; exact l1 : (s1 % (n : Int)).toNat < (M.tab.getD (s0 % ((2 ^ c : Nat) : Int)).toNat []).length)
  obtain ⟨rl2, w2⟩ := w1 _ mb
  have A1 := map_getD rowsD (z := []) (by rw [w.tl]; exact la : (s0 % ((2 ^ c : Nat) : Int)).toNat < M.tab.length)
  have A2 := map_getD rowD (z := []) (by rw [rl1]; exact l1 : (s1 % (n : Int)).toNat < (M.tab.getD (s0 % ((2 ^ c : Nat) : Int)).toNat []).length)
  rw [← ea] at A1
  rw [← e1] at A2
  have X1 := ixN_nat la
  have X2 := ixN_nat l1
  have X3 := ixN_nat l2
  rw [← ea] at X1
  rw [← e1] at X2
  rw [← e2] at X3
  unfold machD spotM
  have gl := w.gl
  generalize hmo : s3 % (n : Int) = v
  generalize hso : (M.tab.getD (s0 % ((2 ^ c : Nat) : Int)).toNat []).getD (s1 % (n : Int)).toNat [] = ro at *
  generalize hto : M.tab.getD (s0 % ((2 ^ c : Nat) : Int)).toNat [] = rs at *
  have E1 : (ro.set (s2 % (n : Int)).toNat v).map D.int = (ro.map D.int).set (s2 % (n : Int)).toNat (.int v) := List.map_set
  have E2 : (rs.set (s1 % (n : Int)).toNat (ro.set (s2 % (n : Int)).toNat v)).map rowD = (rs.map rowD).set (s1 % (n : Int)).toNat (rowD (ro.set (s2 % (n : Int)).toNat v)) := List.map_set
  have E3 : (M.tab.set (s0 % ((2 ^ c : Nat) : Int)).toNat (rs.set (s1 % (n : Int)).toNat (ro.set (s2 % (n : Int)).toNat v))).map rowsD = (M.tab.map rowsD).set (s0 % ((2 ^ c : Nat) : Int)).toNat (rowsD (rs.set (s1 % (n : Int)).toNat (ro.set (s2 % (n : Int)).toNat v))) := List.map_set
  simp only []
  rw [E3, show rowsD (rs.set (s1 % (n : Int)).toNat (ro.set (s2 % (n : Int)).toNat v)) = .tup ((rs.set (s1 % (n : Int)).toNat (ro.set (s2 % (n : Int)).toNat v)).map rowD) from rfl, E2, show rowD (ro.set (s2 % (n : Int)).toNat v) = .tup ((ro.set (s2 % (n : Int)).toNat v).map .int) from rfl, E1]
  have A1 : L2.atI (M.tab.map rowsD) (s0 % ((2 ^ c : Nat) : Int)) = some (.tup (rs.map rowD)) := A1
  have A2 : L2.atI (rs.map rowD) (s1 % (n : Int)) = some (.tup (ro.map .int)) := A2
  have T1 : (M.tab.map rowsD).length = 2 ^ c := by rw [List.length_map]; exact tl
  have T2 : (rs.map rowD).length = n := by rw [List.length_map]; exact rl1
  have T3 : (ro.map D.int).length = n := by rw [List.length_map]; exact rl2
  have G1 : (M.good.map D.bl).length = n := by rw [List.length_map]; exact gl
  have l3 : (3 : Nat) ≤ line := by decide
  have b0 : L2.atI [D.str M.names, .tup (M.good.map .bl), .tup (M.tab.map rowsD)] 0 = some (.str M.names) := rfl
  have b1 : L2.atI [D.str M.names, .tup (M.good.map .bl), .tup (M.tab.map rowsD)] 1 = some (.tup (M.good.map .bl)) := rfl
  have b2 : L2.atI [D.str M.names, .tup (M.good.map .bl), .tup (M.tab.map rowsD)] 2 = some (.tup (M.tab.map rowsD)) := rfl
  have d0 : L2.atI [D.int s0, .int s1, .int s2, .int s3] 0 = some (.int s0) := rfl
  have d1 : L2.atI [D.int s0, .int s1, .int s2, .int s3] 1 = some (.int s1) := rfl
  have d2 : L2.atI [D.int s0, .int s1, .int s2, .int s3] 2 = some (.int s2) := rfl
  have d3 : L2.atI [D.int s0, .int s1, .int s2, .int s3] 3 = some (.int s3) := rfl
  generalize (s0 % ((2 ^ c : Nat) : Int)).toNat = ia at *
  generalize (s1 % (n : Int)).toNat = ib at *
  generalize (s2 % (n : Int)).toNat = ie at *
  have m0 := md2 s0
  have m1 := mdn s1
  have m2 := mdn s2
  have m3 := mdn s3
  rw [hmo] at m3
  generalize s0 % ((2 ^ c : Nat) : Int) = xa at *
  generalize s1 % (n : Int) = xb at *
  generalize s2 % (n : Int) = xe at *
  generalize M.tab.map rowsD = TD at *
  generalize rs.map rowD = RS at *
  generalize ro.map D.int = RO at *
  generalize M.good.map D.bl = GD at *
  have hp : 2 ^ c < 16777216 := by omega
  generalize hq : 2 ^ c = q at *
  have ltT : TD.length ≤ line := by show _ ≤ 16777216; omega
  have ltR : RS.length ≤ line := by show _ ≤ 16777216; omega
  have ltO : RO.length ≤ line := by show _ ≤ 16777216; omega
  rw [seqE (e1 := [some (.d (.tup [.str M.names, .tup GD, .tup TD])), some (.d (.lst [.int s0, .int s1, .int s2, .int s3])), some (.d (.int n)), none, none, none, none]) (s1 := s) (by simp [b1, G1])]
  rw [seqE (e1 := [some (.d (.tup [.str M.names, .tup GD, .tup TD])), some (.d (.lst [.int s0, .int s1, .int s2, .int s3])), some (.d (.int n)), some (.ref s.length), none, none, none]) (s1 := s ++ [.lst TD]) (by simp [b2])]
  rw [seqE (e1 := [some (.d (.tup [.str M.names, .tup GD, .tup TD])), some (.d (.lst [.int s0, .int s1, .int s2, .int s3])), some (.d (.int n)), some (.ref s.length), some (.d (.int xa)), none, none]) (s1 := s ++ [.lst TD]) (by simp [d0, st_g0, T1, m0])]
  rw [seqE (e1 := [some (.d (.tup [.str M.names, .tup GD, .tup TD])), some (.d (.lst [.int s0, .int s1, .int s2, .int s3])), some (.d (.int n)), some (.ref s.length), some (.d (.int xa)), some (.ref (s.length + 1)), none]) (s1 := s ++ [.lst TD, .lst RS]) (by simp [st_g0, A1])]
  rw [seqE (e1 := [some (.d (.tup [.str M.names, .tup GD, .tup TD])), some (.d (.lst [.int s0, .int s1, .int s2, .int s3])), some (.d (.int n)), some (.ref s.length), some (.d (.int xa)), some (.ref (s.length + 1)), some (.ref (s.length + 2))]) (s1 := s ++ [.lst TD, .lst RS, .lst RO]) (by simp [st_g1, d1, m1, A2])]
  rw [seqE (e1 := [some (.d (.tup [.str M.names, .tup GD, .tup TD])), some (.d (.lst [.int s0, .int s1, .int s2, .int s3])), some (.d (.int n)), some (.ref s.length), some (.d (.int xa)), some (.ref (s.length + 1)), some (.ref (s.length + 2))]) (s1 := s ++ [.lst TD, .lst RS, .lst (RO.set ie (.int v))]) (by simp [st_g2, st_p2, d2, d3, m2, m3, T3, X3])]
  rw [seqE (e1 := [some (.d (.tup [.str M.names, .tup GD, .tup TD])), some (.d (.lst [.int s0, .int s1, .int s2, .int s3])), some (.d (.int n)), some (.ref s.length), some (.d (.int xa)), some (.ref (s.length + 1)), some (.ref (s.length + 2))]) (s1 := s ++ [.lst TD, .lst (RS.set ib (.tup (RO.set ie (.int v)))), .lst (RO.set ie (.int v))]) (by simp [st_g1, st_g2, st_p1, d1, m1, T2, X2])]
  rw [seqE (e1 := [some (.d (.tup [.str M.names, .tup GD, .tup TD])), some (.d (.lst [.int s0, .int s1, .int s2, .int s3])), some (.d (.int n)), some (.ref s.length), some (.d (.int xa)), some (.ref (s.length + 1)), some (.ref (s.length + 2))]) (s1 := s ++ [.lst (TD.set ia (.tup (RS.set ib (.tup (RO.set ie (.int v)))))), .lst (RS.set ib (.tup (RO.set ie (.int v)))), .lst (RO.set ie (.int v))]) (by simp [st_g0, st_g1, st_p0, T1, X1])]
  simp [b0, b1, st_g0, st_k0, l3]
/-! ### rooms in a drawn order -/
def ownL (W : List Int) : Nat → List Int
  | 0 => [0]
  | i + 1 => (ownL W i).take (1 + W.getD (2 * (i + 1)) 0 % ((i + 1 : Nat) : Int)).toNat ++ [((i + 1 : Nat) : Int)] ++ (ownL W i).drop (1 + W.getD (2 * (i + 1)) 0 % ((i + 1 : Nat) : Int)).toNat
theorem ownL_perm (W : List Int) : ∀ i, (ownL W i).Perm ((List.range (i + 1)).map fun (k : Nat) => (k : Int))
  | 0 => .refl _
  | i + 1 => by
    have ih := ownL_perm W i
    rw [ownL, rng_succ]
    generalize (1 + W.getD (2 * (i + 1)) 0 % ((i + 1 : Nat) : Int)).toNat = p
    have h1 : ((ownL W i).take p ++ [((i + 1 : Nat) : Int)] ++ (ownL W i).drop p).Perm ((ownL W i).take p ++ (ownL W i).drop p ++ [((i + 1 : Nat) : Int)]) := by
      rw [List.append_assoc, List.append_assoc]
      exact List.Perm.append_left _ List.perm_append_comm
    rw [List.take_append_drop] at h1
    exact h1.trans (ih.append_right _)
theorem ownL_len (W : List Int) (i : Nat) : (ownL W i).length = i + 1 := by
  have := (ownL_perm W i).length_eq
  simpa using this
theorem sp_owner (h : Has Δ "_law_owner" 3 6 b__law_owner) (n : Nat) (W : List Int) (h1 : 1 ≤ n) (hn : n ≤ 1000) (hW : 2 * n ≤ W.length) (s : Store) :
    Φ Δ m (d + 1) "_law_owner" [.d (.int n), .d (.int 0), .d (.lst (W.map .int))] s = .ok (.new ((ownL W (n - 1)).map .int)) s := by
  rw [h.run rfl]
  unfold b__law_owner
  have key := forL_inv (w := ⟨rangeL 1 (n - 1), none⟩) (n := s.length + 1) (tg := .name 4) (body := fun e s => evSs (cxΔ Δ m d) b__law_owner_1 e s)
    (env := [some (.d (.int n)), some (.d (.int 0)), some (.d (.lst (W.map .int))), some (.ref s.length), none, none]) (s := s ++ [.lst [.int 0]])
    (fun i env s1 => (∃ g4 g5, env = [some (.d (.int n)), some (.d (.int 0)), some (.d (.lst (W.map .int))), some (.ref s.length), g4, g5]) ∧ s1 = s ++ [.lst ((ownL W i).map .int)])
    ⟨⟨_, _, rfl⟩, rfl⟩ (by
    rintro i dd env s1 hdd ⟨⟨g4, g5, rfl⟩, rfl⟩
    obtain ⟨hi, rfl⟩ := rl_get _ hdd
    refine ⟨rfl, _, rfl, ?_⟩
    have ek : (1 : Int) + (i : Int) = ((i + 1 : Nat) : Int) := by omega
    rw [ek, ownL]
    have ol := ownL_len W i
    have aw := atL (L := W) (i := 2 * (i + 1)) (by omega)
    have e2 : ((2 * (i + 1) : Nat) : Int) = 2 * ((i + 1 : Nat) : Int) := by omega
    rw [e2] at aw
    have em : ((((ownL W i).take (1 + W.getD (2 * (i + 1)) 0 % ((i + 1 : Nat) : Int)).toNat ++ [((i + 1 : Nat) : Int)] ++ (ownL W i).drop (1 + W.getD (2 * (i + 1)) 0 % ((i + 1 : Nat) : Int)).toNat)).map D.int) =
        ((ownL W i).map D.int).take (1 + W.getD (2 * (i + 1)) 0 % ((i + 1 : Nat) : Int)).toNat ++ [D.int ((i + 1 : Nat) : Int)] ++ ((ownL W i).map D.int).drop (1 + W.getD (2 * (i + 1)) 0 % ((i + 1 : Nat) : Int)).toNat := by
      rw [List.map_append, List.map_append, List.map_take, List.map_drop]
      rfl
    rw [em]
    have lX : ((ownL W i).map D.int).length = i + 1 := by rw [List.length_map, ol]
    generalize (ownL W i).map D.int = X at *
    generalize W.getD (2 * (i + 1)) 0 = y at *
    generalize W.map D.int = WD at *
    have md : ∀ x s, binV .mod (.d (.int x)) (.d (.int ((i + 1 : Nat) : Int))) s = .ok (.d (.int (x % ((i + 1 : Nat) : Int)))) s := fun x s => bin_mod _ _ _ (by omega)
    have y0 := Int.emod_nonneg y (by omega : ((i + 1 : Nat) : Int) ≠ 0)
    have y1 := Int.emod_lt_of_pos y (by omega : (0 : Int) < ((i + 1 : Nat) : Int))
    have mu : ∀ x s, binV .mul (.d (.int 2)) (.d (.int x)) s = .ok (.d (.int (2 * x))) s := fun x s => bin_mul _ _ _ (okM1 (by omega))
    have cmp : ¬ (n : Int) ≤ ((i + 1 : Nat) : Int) := by omega
    have lXl : X.length < line := by show _ < 16777216; omega
    have lXi : (X.length : Int) = ((i + 1 : Nat) : Int) := by omega
    have ins : ∀ a, insP X (1 + y % ((i + 1 : Nat) : Int)) a = a := fun a => insP_ok lXl (by omega) (by omega)
    generalize ((i + 1 : Nat) : Int) = k at *
    unfold b__law_owner_1
    show (evSs (cxΔ Δ m d) _ [some (.d (.int n)), some (.d (.int 0)), some (.d (.lst WD)), some (.ref s.length), some (.d (.int k)), g5] (s ++ [.lst X])).turn _
    rw [seqE (e1 := [some (.d (.int n)), some (.d (.int 0)), some (.d (.lst WD)), some (.ref s.length), some (.d (.int k)), some (.d (.int k))]) (s1 := s ++ [.lst X]) (by simp)]
    rw [seqE (e1 := [some (.d (.int n)), some (.d (.int 0)), some (.d (.lst WD)), some (.ref s.length), some (.d (.int k)), some (.d (.int k))]) (s1 := s ++ [.lst X]) (by rw [ifF (s1 := s ++ [.lst X]) (by simp [cmp])]; simp)]
    simp [mu, aw, st_g0, lXi, md, ins, st_p0, st_k1]) (fun _ _ _ => rfl)
  obtain ⟨env', s', hf, ⟨g4, g5, h2⟩, h3⟩ := key
  simp only [rl_len] at h2 h3
  subst h2 h3
  have r1 := okR1 (j := 1) (by omega) (by omega)
  have rn := okR1 (j := (n : Int) + 0) (by omega) (by omega)
  have l1 : (1 : Nat) ≤ line := by decide
  have en : ((n : Int) + 0 - 1).toNat = n - 1 := by omega
  have rg : ∀ s, rangeV [.d (.int 1), .d (.int ((n : Int) + 0))] s = .ok ⟨rangeL 1 (n - 1), none⟩ s := fun s => by rw [rng2 _ _ _ r1 rn, en]
  rw [Int.add_zero] at rg
  generalize (ownL W (n - 1)).map D.int = X at *
  generalize W.map D.int = WD at *
  simp [rg, hf, l1, st_g0, st_k0]
end
end Pv

/-! Machines of draws: rooms made more. -/
namespace Pv
open PySem
section
variable {Δ : Prog} {m d : Nat}
theorem lc_flt {n j : Nat} {test : Env → Store → R Bool} {elt : Env → Store → R Val} {env : Env} {s : Store} (p : Nat → Bool) (hn : n ≤ line) (ht : ∀ k, k < n → test (env.set j (some (.d (.int (k : Int))))) s = .ok (p k) s)
    (h : ∀ k, k < n → elt (env.set j (some (.d (.int (k : Int))))) s = .ok (.d (.int k)) s) :
    lcL ⟨rangeL 0 n, none⟩ (.name j) test elt env (rangeL 0 n) [] s = .ok (((List.range n).filter p).map fun (k : Nat) => D.int (k : Int)) s := by
  have key := lcL_map (w := ⟨rangeL 0 n, none⟩) (tg := .name j) (test := test) (elt := elt) (env := env) (s := s) (fun d => match d with | .int k => p k.toNat | _ => false) (fun d => d)
    (rangeL 0 n) [] rfl (by rw [rl_len]; simpa using hn) (by
      intro x hx
      obtain ⟨i, hi⟩ := List.getElem?_of_mem hx
      obtain ⟨hlt, rfl⟩ := rl_get _ hi
      rw [Int.zero_add]
      exact ⟨_, rfl, ht i hlt, fun _ => ⟨.d (.int i), h i hlt, rfl⟩⟩)
  rw [key, List.nil_append]
  refine congrArg (fun l => R.ok l s) ?_
  unfold rangeL
  rw [List.map_id', List.filter_map]
  have e : ((fun d => match d with | .int k => p k.toNat | _ => false) ∘ fun (k : Nat) => D.int (0 + (k : Int))) = p := by
    funext k
    simp [Function.comp]
  rw [e]
  refine List.map_congr_left fun k _ => ?_
  rw [Int.zero_add]
/-- over a row of numbers -/
theorem lc_ints {j : Nat} {test : Env → Store → R Bool} {elt : Env → Store → R Val} {env : Env} {s : Store} (O : List Int) (g : Int → D) (hn : O.length ≤ line) (ht : ∀ e, test e s = .ok true s)
    (h : ∀ o ∈ O, elt (env.set j (some (.d (.int o)))) s = .ok (.d (g o)) s) :
    lcL ⟨O.map .int, none⟩ (.name j) test elt env (O.map .int) [] s = .ok (O.map g) s := by
  have key := lcL_map (w := ⟨O.map .int, none⟩) (tg := .name j) (test := test) (elt := elt) (env := env) (s := s) (fun _ => true) (fun d => match d with | .int k => g k | _ => .non)
    (O.map .int) [] rfl (by rw [List.length_map]; simpa using hn) (by
      intro x hx
      obtain ⟨o, ho, rfl⟩ := List.mem_map.mp hx
      exact ⟨_, rfl, ht _, fun _ => ⟨.d (g o), h o ho, rfl⟩⟩)
  rw [key, List.nil_append, List.filter_eq_self.mpr (fun _ _ => rfl), List.map_map]
  rfl
def someL (O : List Int) (n : Nat) (due : Int) : List Int := ((List.range n).filter fun z => decide (O.getD z 0 = due)).map fun (z : Nat) => (z : Int)
def blE (O : List Int) (n : Nat) (L : List Int) (due : Int) (A : Nat) : Int := (someL O n due).getD (L.getD (A % L.length) 0 % ((someL O n due).length : Int)).toNat 0
def dueV (rs : List (List Int)) (O : List Int) (x y : Nat) : Int := (rs.getD (O.getD x 0).toNat []).getD (O.getD y 0).toNat 0
def blowM (M : Mach) (O : List Int) (n : Nat) (L : List Int) : Mach :=
  ⟨M.names, O.map fun o => M.good.getD o.toNat false, (List.range M.tab.length).map fun k => (List.range n).map fun x => (List.range n).map fun y => blE O n L (dueV (M.tab.getD k []) O x y) ((k * n + x) * n + y)⟩
/-- the rooms 0 .. n - 1 in some order -/
def IsPerm (O : List Int) (n : Nat) : Prop := O.Perm ((List.range n).map fun (k : Nat) => (k : Int))
theorem IsPerm.len {O : List Int} {n : Nat} (h : IsPerm O n) : O.length = n := by simpa using h.length_eq
theorem IsPerm.rng {O : List Int} {n : Nat} (h : IsPerm O n) : ∀ o ∈ O, 0 ≤ o ∧ o < (n : Int) := fun o ho => by
  obtain ⟨k, hk, rfl⟩ := List.mem_map.mp (h.mem_iff.mp ho)
  have : k < n := by simpa using hk
  omega
theorem IsPerm.get {O : List Int} {n x : Nat} (h : IsPerm O n) (hx : x < n) : (((O.getD x 0).toNat : Nat) : Int) = O.getD x 0 ∧ (O.getD x 0).toNat < n := by
  have := h.rng _ (getD_mem (z := (0 : Int)) (by rw [h.len]; exact hx : x < O.length))
  omega
theorem IsPerm.all {O : List Int} {n : Nat} (h : IsPerm O n) {due : Int} (h0 : 0 ≤ due) (h1 : due < (n : Int)) : ∃ z, z < n ∧ O.getD z 0 = due := by
  have hm : due ∈ O := h.mem_iff.mpr (List.mem_map.mpr ⟨due.toNat, by simp; omega, by omega⟩)
  obtain ⟨i, hi, e⟩ := List.getElem_of_mem hm
  refine ⟨i, by rw [← h.len]; exact hi, ?_⟩
  rw [List.getD_eq_getElem?_getD, List.getElem?_eq_getElem hi]
  exact e
theorem someL_pos {O : List Int} {n : Nat} (h : IsPerm O n) {due : Int} (h0 : 0 ≤ due) (h1 : due < (n : Int)) : 0 < (someL O n due).length := by
  obtain ⟨z, hz, e⟩ := h.all h0 h1
  have : (z : Int) ∈ someL O n due := List.mem_map.mpr ⟨z, List.mem_filter.mpr ⟨by simpa using hz, decide_eq_true e⟩, rfl⟩
  exact List.length_pos_of_mem this
theorem someL_rng {O : List Int} {n : Nat} {due : Int} : ∀ x ∈ someL O n due, 0 ≤ x ∧ x < (n : Int) := fun x hx => by
  obtain ⟨z, hz, rfl⟩ := List.mem_map.mp hx
  have := (List.mem_filter.mp hz).1
  have : z < n := by simpa using this
  omega
theorem someL_ix {O : List Int} {n : Nat} (h : IsPerm O n) {due : Int} (h0 : 0 ≤ due) (h1 : due < (n : Int)) (y : Int) : (((y % ((someL O n due).length : Int)).toNat : Nat) : Int) = y % ((someL O n due).length : Int) ∧ (y % ((someL O n due).length : Int)).toNat < (someL O n due).length := by
  have := someL_pos h h0 h1
  have := Int.emod_nonneg y (by omega : ((someL O n due).length : Int) ≠ 0)
  have := Int.emod_lt_of_pos y (by omega : (0 : Int) < ((someL O n due).length : Int))
  omega
theorem dueV_rng {M : Mach} {c n : Nat} (w : WF M c n) {O : List Int} (h : IsPerm O n) {k x y : Nat} (hk : k < 2 ^ c) (hx : x < n) (hy : y < n) : 0 ≤ dueV (M.tab.getD k []) O x y ∧ dueV (M.tab.getD k []) O x y < (n : Int) := by
  have m1 := getD_mem (z := []) (by rw [w.tl]; exact hk : k < M.tab.length)
  obtain ⟨l1, w1⟩ := w.rl _ m1
  have m2 := getD_mem (z := []) (by rw [l1]; exact (h.get hx).2 : (O.getD x 0).toNat < (M.tab.getD k []).length)
  obtain ⟨l2, w2⟩ := w1 _ m2
  exact w2 _ (getD_mem (z := (0 : Int)) (by rw [l2]; exact (h.get hy).2))
theorem blowM_wf {M : Mach} {c n : Nat} (w : WF M c n) {O L : List Int} (h : IsPerm O n) : WF (blowM M O n L) c n := by
  refine ⟨w.nl, by show (List.map _ O).length = _; rw [List.length_map]; exact h.len, by show (List.map _ _).length = _; rw [List.length_map, List.length_range]; exact w.tl, fun rows hr => ?_⟩
  obtain ⟨k, hk, rfl⟩ := List.mem_map.mp hr
  have hk : k < 2 ^ c := by rw [← w.tl]; simpa using hk
  refine ⟨by simp, fun r hr => ?_⟩
  obtain ⟨x, hx, rfl⟩ := List.mem_map.mp hr
  have hx : x < n := by simpa using hx
  refine ⟨by simp, fun e he => ?_⟩
  obtain ⟨y, hy, rfl⟩ := List.mem_map.mp he
  have hy : y < n := by simpa using hy
  obtain ⟨d0, d1⟩ := dueV_rng w h hk hx hy
  exact someL_rng _ (getD_mem (z := (0 : Int)) (someL_ix h d0 d1 _).2)
theorem sp_blown (h : Has Δ "_law_blown" 3 15 b__law_blown) (M : Mach) (c n : Nat) (w : WF M c n) (hc : c ≤ 20) (h1 : 1 ≤ n) (hn : n ≤ 1000) (O L : List Int) (hO : IsPerm O n) (hL : 0 < L.length) (hL2 : L.length ≤ 100000) (s : Store) :
    Φ Δ m (d + 1) "_law_blown" [.d (machD M), .d (.lst (O.map .int)), .d (.lst (L.map .int))] s = .ok (.d (machD (blowM M O n L))) s := by
  rw [h.run rfl]
  unfold b__law_blown
  have pw := pow_small hc
  have hrn := okR1 (j := (n : Int)) (by omega) (by omega)
  have ol := hO.len
  have aO := fun x (hx : x < n) => atL (L := O) (i := x) (by omega)
  have oL : (O.map D.int).length = n := by rw [List.length_map]; exact ol
  have lL : ((L.map D.int).length : Int) = L.length := by rw [List.length_map]
  -- one entry
  have turn := fun (k : Nat) (hk : k < 2 ^ c) (x : Nat) (hx : x < n) (y : Nat) (hy : y < n) (A : Nat) (v12 v13 : Option Val) (r5 r7 r9 : Nat) (st : Store) (acc : List D) (ha : acc.length < line) (hs : st[r9]? = some (.lst acc)) =>
    (show evSs (cxΔ Δ m d) b__law_blown_3 [some (.d (machD M)), some (.d (.lst (O.map .int))), some (.d (.lst (L.map .int))), some (.d (.int n)), some (.d (.int A)), some (.ref r5), some (.d (rowsD (M.tab.getD k []))), some (.ref r7), some (.d (.int x)), some (.ref r9), some (.d (.int y)), v12, v13, none, none] st =
      .nx [some (.d (machD M)), some (.d (.lst (O.map .int))), some (.d (.lst (L.map .int))), some (.d (.int n)), some (.d (.int (A + 1 : Nat))), some (.ref r5), some (.d (rowsD (M.tab.getD k []))), some (.ref r7), some (.d (.int x)), some (.ref r9), some (.d (.int y)), some (.d (.int (dueV (M.tab.getD k []) O x y))), some (.d (.lst ((someL O n (dueV (M.tab.getD k []) O x y)).map .int))), none, none]
        (st.set r9 (.lst (acc ++ [.int (blE O n L (dueV (M.tab.getD k []) O x y) A)]))) from by
    obtain ⟨d0, d1⟩ := dueV_rng w hO hk hx hy
    have m1 := getD_mem (z := []) (by rw [w.tl]; exact hk : k < M.tab.length)
    obtain ⟨l1, w1⟩ := w.rl _ m1
    have m2 := getD_mem (z := []) (by rw [l1]; exact (hO.get hx).2 : (O.getD x 0).toNat < (M.tab.getD k []).length)
    obtain ⟨l2, w2⟩ := w1 _ m2
    have A1 := map_getD rowD (z := []) (by rw [l1]; exact (hO.get hx).2 : (O.getD x 0).toNat < (M.tab.getD k []).length)
    have A2 := atL (L := (M.tab.getD k []).getD (O.getD x 0).toNat []) (i := (O.getD y 0).toNat) (by rw [l2]; exact (hO.get hy).2)
    rw [(hO.get hx).1] at A1
    rw [(hO.get hy).1] at A2
    replace A2 : L2.atI (((M.tab.getD k []).getD (O.getD x 0).toNat []).map D.int) (O.getD y 0) = some (.int (dueV (M.tab.getD k []) O x y)) := A2
    replace A1 : L2.atI ((M.tab.getD k []).map rowD) (O.getD x 0) = some (.tup (((M.tab.getD k []).getD (O.getD x 0).toNat []).map .int)) := A1
    have ax := aO x hx
    have ay := aO y hy
    have hmod : A % L.length < L.length := Nat.mod_lt _ hL
    have AL := atL (L := L) (i := A % L.length) hmod
    rw [Int.natCast_emod] at AL
    unfold blE
    obtain ⟨si, sl⟩ := someL_ix hO d0 d1 (L.getD (A % L.length) 0)
    have AS := atL (L := someL O n (dueV (M.tab.getD k []) O x y)) (i := (L.getD (A % L.length) 0 % ((someL O n (dueV (M.tab.getD k []) O x y)).length : Int)).toNat) sl
    rw [si] at AS
    have sp := someL_pos hO d0 d1
    show evSs _ _ [some (.d (machD M)), some (.d (.lst (O.map .int))), some (.d (.lst (L.map .int))), some (.d (.int n)), some (.d (.int A)), some (.ref r5), some (.d (.tup ((M.tab.getD k []).map rowD))), some (.ref r7), some (.d (.int x)), some (.ref r9), some (.d (.int y)), v12, v13, none, none] st =
      .nx [some (.d (machD M)), some (.d (.lst (O.map .int))), some (.d (.lst (L.map .int))), some (.d (.int n)), some (.d (.int (A + 1 : Nat))), some (.ref r5), some (.d (.tup ((M.tab.getD k []).map rowD))), some (.ref r7), some (.d (.int x)), some (.ref r9), some (.d (.int y)), some (.d (.int (dueV (M.tab.getD k []) O x y))), some (.d (.lst ((someL O n (dueV (M.tab.getD k []) O x y)).map .int))), none, none] _
    have lcf := lc_flt (n := n) (j := 13) (test := fun e s => evC (cxΔ Δ m d) y__law_blown_1 e s) (elt := fun e s => evE (cxΔ Δ m d) x__law_blown_1 e s)
      (env := [some (.d (machD M)), some (.d (.lst (O.map .int))), some (.d (.lst (L.map .int))), some (.d (.int n)), some (.d (.int A)), some (.ref r5), some (.d (.tup ((M.tab.getD k []).map rowD))), some (.ref r7), some (.d (.int x)), some (.ref r9), some (.d (.int y)), some (.d (.int (dueV (M.tab.getD k []) O x y))), v13, none, none]) (s := st)
      (fun z => decide (O.getD z 0 = dueV (M.tab.getD k []) O x y)) (by show n ≤ 16777216; omega) (fun z hz => by
        unfold y__law_blown_1
        have az := aO z hz
        generalize O.getD z 0 = oz at *
        generalize O.map D.int = OD at *
        by_cases q : oz = dueV (M.tab.getD k []) O x y
        · subst q
          simp [az]
        · simp [az, q]) (fun z hz => by unfold x__law_blown_1; simp)
    have eS : (((List.range n).filter fun z => decide (O.getD z 0 = dueV (M.tab.getD k []) O x y)).map fun (z : Nat) => D.int (z : Int)) = (someL O n (dueV (M.tab.getD k []) O x y)).map .int := by
      unfold someL
      rw [List.map_map]
      rfl
    rw [eS] at lcf
    have sL : (((someL O n (dueV (M.tab.getD k []) O x y)).map D.int).length : Int) = (someL O n (dueV (M.tab.getD k []) O x y)).length := by rw [List.length_map]
    have mdL : ∀ s, binV .mod (.d (.int (A : Int))) (.d (.int (L.length : Int))) s = .ok (.d (.int ((A : Int) % (L.length : Int)))) s := fun s => bin_mod _ _ _ (by omega)
    have mdS : ∀ v s, binV .mod (.d (.int v)) (.d (.int ((someL O n (dueV (M.tab.getD k []) O x y)).length : Int))) s = .ok (.d (.int (v % ((someL O n (dueV (M.tab.getD k []) O x y)).length : Int)))) s := fun v s => bin_mod _ _ _ (by omega)
    generalize hdue : dueV (M.tab.getD k []) O x y = due at *
    generalize (someL O n due).getD (L.getD (A % L.length) 0 % ((someL O n due).length : Int)).toNat 0 = ent at *
    generalize ((someL O n due).length : Int) = sn at *
    generalize (someL O n due).map D.int = SD at *
    generalize ((M.tab.getD k []).getD (O.getD x 0).toNat []).map D.int = RX at *
    generalize (M.tab.getD k []).map rowD = RD at *
    generalize L.getD (A % L.length) 0 = lv at *
    generalize O.getD x 0 = ox at *
    generalize O.getD y 0 = oy at *
    generalize O.map D.int = OD at *
    generalize L.map D.int = LD at *
    generalize machD M = MD at *
    unfold b__law_blown_3
    rw [seqE (e1 := [some (.d MD), some (.d (.lst OD)), some (.d (.lst LD)), some (.d (.int n)), some (.d (.int A)), some (.ref r5), some (.d (.tup RD)), some (.ref r7), some (.d (.int x)), some (.ref r9), some (.d (.int y)), some (.d (.int due)), v13, none, none]) (s1 := st) (by simp [ax, ay, A1, A2])]
    rw [seqE (e1 := [some (.d MD), some (.d (.lst OD)), some (.d (.lst LD)), some (.d (.int n)), some (.d (.int A)), some (.ref r5), some (.d (.tup RD)), some (.ref r7), some (.d (.int x)), some (.ref r9), some (.d (.int y)), some (.d (.int due)), some (.d (.lst SD)), none, none]) (s1 := st) (by simp [hrn, lcf])]
    rw [seqE (e1 := [some (.d MD), some (.d (.lst OD)), some (.d (.lst LD)), some (.d (.int n)), some (.d (.int A)), some (.ref r5), some (.d (.tup RD)), some (.ref r7), some (.d (.int x)), some (.ref r9), some (.d (.int y)), some (.d (.int due)), some (.d (.lst SD)), none, none]) (s1 := st.set r9 (.lst (acc ++ [.int ent]))) (by simp [lL, mdL, AL, sL, mdS, AS, hs, ha])]
    simp)
  have eA1 : ∀ k x, (k * n + x) * n + n = (k * n + (x + 1)) * n + 0 := fun k x => by rw [Nat.add_zero, ← Nat.add_assoc, Nat.succ_mul]
  have eA2 : ∀ k, (k * n + n) * n + 0 = ((k + 1) * n + 0) * n + 0 := fun k => by rw [Nat.add_zero, Nat.add_zero, Nat.add_zero, Nat.succ_mul]
  generalize hMD : machD M = MD at *
  generalize hOD : O.map D.int = OD at *
  generalize hLD : L.map D.int = LD at *
  have ly := fun (k : Nat) (hk : k < 2 ^ c) (x : Nat) (hx : x < n) (s' : Store) (u10 u11 u12 : Option Val) (r5 r7 r9 : Nat) (h5 : r5 < s'.length) (h7 : r7 < s'.length) (h9 : r9 = s'.length) => app_for (cx := cxΔ Δ m d) (n := n) (j := 10) (body := b__law_blown_3)
    (fun y env => ∃ u10 u11 u12, env = [some (.d MD), some (.d (.lst OD)), some (.d (.lst LD)), some (.d (.int n)), some (.d (.int ((k * n + x) * n + y : Nat))), some (.ref r5), some (.d (rowsD (M.tab.getD k []))), some (.ref r7), some (.d (.int x)), some (.ref r9), u10, u11, u12, none, none])
    (fun y => .int (blE O n L (dueV (M.tab.getD k []) O x y) ((k * n + x) * n + y))) s'
    [some (.d MD), some (.d (.lst OD)), some (.d (.lst LD)), some (.d (.int n)), some (.d (.int ((k * n + x) * n + 0 : Nat))), some (.ref r5), some (.d (rowsD (M.tab.getD k []))), some (.ref r7), some (.d (.int x)), some (.ref r9), u10, u11, u12, none, none] ⟨_, _, _, rfl⟩ (by
    rintro y env hy ⟨u10, u11, u12, rfl⟩
    have t := turn k hk x hx y hy ((k * n + x) * n + y) u11 u12 r5 r7 r9 (s' ++ [.lst ((List.range y).map fun y => .int (blE O n L (dueV (M.tab.getD k []) O x y) ((k * n + x) * n + y)))]) ((List.range y).map fun y => .int (blE O n L (dueV (M.tab.getD k []) O x y) ((k * n + x) * n + y)))
      (by rw [List.length_map, List.length_range]; show y < 16777216; omega) (by subst h9; exact st_g0 _ _ _)
    subst h9
    rw [st_p0] at t
    refine ⟨[some (.d MD), some (.d (.lst OD)), some (.d (.lst LD)), some (.d (.int n)), some (.d (.int ((k * n + x) * n + y + 1 : Nat))), some (.ref r5), some (.d (rowsD (M.tab.getD k []))), some (.ref r7), some (.d (.int x)), some (.ref s'.length), some (.d (.int y)), some (.d (.int (dueV (M.tab.getD k []) O x y))), some (.d (.lst ((someL O n (dueV (M.tab.getD k []) O x y)).map .int))), none, none],
      [], ?_, some (.d (.int y)), some (.d (.int (dueV (M.tab.getD k []) O x y))), some (.d (.lst ((someL O n (dueV (M.tab.getD k []) O x y)).map .int))), ?_⟩
    · rw [rng_succ]
      exact t
    · have q5 : r5 < s'.length + 1 := by omega
      have q7 : r7 < s'.length + 1 := by omega
      simp only [List.map_cons, List.map_nil, kill_d, kill_n, kill_r, if_pos q5, if_pos q7, Nat.lt_succ_self, if_true, Nat.add_assoc])
  have lx := fun (k : Nat) (hk : k < 2 ^ c) (s' : Store) (u8 u9 u10 u11 u12 : Option Val) (r5 r7 : Nat) (h5 : r5 < s'.length) (h7 : r7 = s'.length) => app_for (cx := cxΔ Δ m d) (n := n) (j := 8) (body := b__law_blown_4)
    (fun x env => ∃ u8 u9 u10 u11 u12, env = [some (.d MD), some (.d (.lst OD)), some (.d (.lst LD)), some (.d (.int n)), some (.d (.int ((k * n + x) * n + 0 : Nat))), some (.ref r5), some (.d (rowsD (M.tab.getD k []))), some (.ref r7), u8, u9, u10, u11, u12, none, none])
    (fun x => .tup ((List.range n).map fun y => .int (blE O n L (dueV (M.tab.getD k []) O x y) ((k * n + x) * n + y)))) s'
    [some (.d MD), some (.d (.lst OD)), some (.d (.lst LD)), some (.d (.int n)), some (.d (.int ((k * n + 0) * n + 0 : Nat))), some (.ref r5), some (.d (rowsD (M.tab.getD k []))), some (.ref r7), u8, u9, u10, u11, u12, none, none] ⟨_, _, _, _, _, rfl⟩ (by
    rintro x env hx ⟨u8, u9, u10, u11, u12, rfl⟩
    subst h7
    obtain ⟨env', hf, v10, v11, v12, rfl⟩ := ly k hk x hx (s' ++ [.lst ((List.range x).map fun x => .tup ((List.range n).map fun y => .int (blE O n L (dueV (M.tab.getD k []) O x y) ((k * n + x) * n + y))))]) u10 u11 u12 r5 s'.length (s'.length + 1) (by simp; omega) (by simp) (by simp)
    have hls : ((List.range x).map fun x => D.tup ((List.range n).map fun y => .int (blE O n L (dueV (M.tab.getD k []) O x y) ((k * n + x) * n + y)))).length < line := by rw [List.length_map, List.length_range]; show x < 16777216; omega
    refine ⟨[some (.d MD), some (.d (.lst OD)), some (.d (.lst LD)), some (.d (.int n)), some (.d (.int ((k * n + (x + 1)) * n + 0 : Nat))), some (.ref r5), some (.d (rowsD (M.tab.getD k []))), some (.ref s'.length), some (.d (.int x)), some (.ref (s'.length + 1)), v10, v11, v12, none, none],
      [.lst ((List.range n).map fun y => .int (blE O n L (dueV (M.tab.getD k []) O x y) ((k * n + x) * n + y)))], ?_, some (.d (.int x)), none, kill (s'.length + 1) v10, kill (s'.length + 1) v11, kill (s'.length + 1) v12, ?_⟩
    · rw [rng_succ]
      rw [eA1] at hf
      simp only [List.length_append, List.length_cons, List.length_nil, Nat.zero_add] at hf
      generalize ((List.range x).map fun x => D.tup ((List.range n).map fun y => .int (blE O n L (dueV (M.tab.getD k []) O x y) ((k * n + x) * n + y)))) = acc at *
      generalize ((List.range n).map fun y => D.int (blE O n L (dueV (M.tab.getD k []) O x y) ((k * n + x) * n + y))) = rws at *
      generalize (k * n + (x + 1)) * n + 0 = B1 at *
      generalize (k * n + x) * n + 0 = B0 at *
      generalize rowsD (M.tab.getD k []) = RR at *
      simp only [List.append_assoc, List.cons_append, List.nil_append] at hf
      have l0 : (0 : Nat) ≤ line := by decide
      unfold b__law_blown_4
      simp [hrn, hf, hls, st_g0, st_g1, st_p0, st_p1, l0]
    · have q5 : r5 < s'.length + 1 := by omega
      simp only [List.map_cons, List.map_nil, kill_d, kill_n, kill_r, if_pos q5, Nat.lt_irrefl, if_false, if_true, Nat.lt_succ_self])
  have key := forL_inv (w := ⟨M.tab.map rowsD, none⟩) (n := s.length + 1) (tg := .name 6) (body := fun e s => evSs (cxΔ Δ m d) b__law_blown_5 e s)
    (env := [some (.d MD), some (.d (.lst OD)), some (.d (.lst LD)), some (.d (.int n)), some (.d (.int 0)), some (.ref s.length), none, none, none, none, none, none, none, none, none]) (s := s ++ [.lst []])
    (fun k env s1 => (∃ u6 u7 u8 u9 u10 u11 u12, env = [some (.d MD), some (.d (.lst OD)), some (.d (.lst LD)), some (.d (.int n)), some (.d (.int ((k * n + 0) * n + 0 : Nat))), some (.ref s.length), u6, u7, u8, u9, u10, u11, u12, none, none]) ∧
      s1 = s ++ [.lst ((List.range k).map fun k => .tup ((List.range n).map fun x => .tup ((List.range n).map fun y => .int (blE O n L (dueV (M.tab.getD k []) O x y) ((k * n + x) * n + y)))))])
    ⟨⟨none, none, none, none, none, none, none, by simp⟩, rfl⟩ (by
    rintro k dd env s1 hdd ⟨⟨u6, u7, u8, u9, u10, u11, u12, rfl⟩, rfl⟩
    have hdd : (M.tab.map rowsD)[k]? = some dd := hdd
    have hk : k < M.tab.length := by
      rcases Nat.lt_or_ge k M.tab.length with q | q
      · exact q
      · rw [List.getElem?_eq_none (by rw [List.length_map]; exact q)] at hdd; cases hdd
    have hk2 : k < 2 ^ c := by rw [← w.tl]; exact hk
    have ed : dd = rowsD (M.tab.getD k []) := by
      rw [List.getElem?_map, List.getElem?_eq_getElem hk] at hdd
      cases hdd
      rw [List.getD_eq_getElem?_getD, List.getElem?_eq_getElem hk]
      rfl
    subst ed
    have hls : ((List.range k).map fun k => D.tup ((List.range n).map fun x => .tup ((List.range n).map fun y => .int (blE O n L (dueV (M.tab.getD k []) O x y) ((k * n + x) * n + y))))).length < line := by rw [List.length_map, List.length_range]; show k < 16777216; omega
    rw [rng_succ]
    generalize ((List.range k).map fun k => D.tup ((List.range n).map fun x => .tup ((List.range n).map fun y => .int (blE O n L (dueV (M.tab.getD k []) O x y) ((k * n + x) * n + y))))) = acc at *
    have lxk := lx k hk2 (s ++ [.lst acc]) u8 u9 u10 u11 u12 s.length (s.length + 1) (by rw [List.length_append]; exact Nat.lt_succ_self _) (by rw [List.length_append]; rfl)
    rw [eA2] at lxk
    simp only [List.length_append, List.length_cons, List.length_nil, Nat.zero_add] at lxk
    obtain ⟨env', hf, v8, v9, v10, v11, v12, rfl⟩ := lxk
    refine ⟨rfl, _, rfl, ?_⟩
    generalize ((List.range n).map fun x => D.tup ((List.range n).map fun y => .int (blE O n L (dueV (M.tab.getD k []) O x y) ((k * n + x) * n + y)))) = rws at *
    generalize ((k + 1) * n + 0) * n + 0 = B1 at *
    generalize (k * n + 0) * n + 0 = B0 at *
    generalize rowsD (M.tab.getD k []) = RR at *
    simp only [List.append_assoc, List.cons_append, List.nil_append] at hf
    have l0 : (0 : Nat) ≤ line := by decide
    unfold b__law_blown_5
    simp [hrn, hf, hls, st_g0, st_g1, st_p0, st_p1, st_k1, l0]) (fun _ _ _ => rfl)
  obtain ⟨env', s', hf, ⟨u6, u7, u8, u9, u10, u11, u12, h2⟩, h3⟩ := key
  have wl : (⟨M.tab.map rowsD, none⟩ : Walk).items.length = M.tab.length := List.length_map _
  rw [wl] at h2 h3
  subst h2 h3
  have aG : ∀ o ∈ O, L2.atI (M.good.map D.bl) o = some (.bl (M.good.getD o.toNat false)) := fun o ho => by
    obtain ⟨o0, o1⟩ := hO.rng o ho
    have := map_getD D.bl (l := M.good) (i := o.toNat) (z := false) (by rw [w.gl]; omega)
    rw [show ((o.toNat : Nat) : Int) = o by omega] at this
    exact this
  have eT : ((blowM M O n L).tab.map rowsD) = (List.range M.tab.length).map fun k => .tup ((List.range n).map fun x => .tup ((List.range n).map fun y => .int (blE O n L (dueV (M.tab.getD k []) O x y) ((k * n + x) * n + y)))) := by
    simp only [blowM, List.map_map]
    refine List.map_congr_left fun k _ => ?_
    simp only [Function.comp, rowsD, List.map_map]
    refine congrArg D.tup (List.map_congr_left fun x _ => ?_)
    simp only [Function.comp, rowD, List.map_map]
    rfl
  have eG : (blowM M O n L).good.map D.bl = O.map fun o => D.bl (M.good.getD o.toNat false) := by
    simp only [blowM, List.map_map]
    rfl
  have eN : (blowM M O n L).names = M.names := rfl
  show _ = Pv.R.ok (Val.d (.tup [.str (blowM M O n L).names, .tup ((blowM M O n L).good.map .bl), .tup ((blowM M O n L).tab.map rowsD)])) s
  rw [eT, eG, eN]
  generalize ((List.range M.tab.length).map fun k => D.tup ((List.range n).map fun x => .tup ((List.range n).map fun y => .int (blE O n L (dueV (M.tab.getD k []) O x y) ((k * n + x) * n + y))))) = tb at *
  generalize (M.tab.length * n + 0) * n + 0 = B at *
  subst hMD
  have lg := lc_ints (j := 14) (test := fun e s => evC (cxΔ Δ m d) y__law_blown_6 e s) (elt := fun e s => evE (cxΔ Δ m d) x__law_blown_6 e s)
    (env := [some (.d (machD M)), some (.d (.lst OD)), some (.d (.lst LD)), some (.d (.int n)), some (.d (.int B)), some (.ref s.length), u6, u7, u8, u9, u10, u11, u12, none, none]) (s := s ++ [.lst tb]) O (fun o => .bl (M.good.getD o.toNat false)) (by show _ ≤ 16777216; omega) (fun e => by unfold y__law_blown_6; simp) (fun o ho => by
      have ag := aG o ho
      have b1 : L2.atI [D.str M.names, .tup (M.good.map .bl), .tup (M.tab.map rowsD)] 1 = some (.tup (M.good.map .bl)) := rfl
      unfold x__law_blown_6 machD
      generalize M.good.map D.bl = GD at *
      generalize M.tab.map rowsD = TD at *
      generalize M.good.getD o.toNat false = gb at *
      simp [b1, ag])
  rw [hOD] at lg
  have b0 : L2.atI [D.str M.names, .tup (M.good.map .bl), .tup (M.tab.map rowsD)] 0 = some (.str M.names) := rfl
  have b2 : L2.atI [D.str M.names, .tup (M.good.map .bl), .tup (M.tab.map rowsD)] 2 = some (.tup (M.tab.map rowsD)) := rfl
  have l3 : (3 : Nat) ≤ line := by decide
  have l0 : (0 : Nat) ≤ line := by decide
  have oLI : (OD.length : Int) = n := by omega
  clear aG eT eG eN ly lx turn aO
  unfold machD at hf lg ⊢
  generalize (O.map fun o => D.bl (M.good.getD o.toNat false)) = gl at *
  generalize M.good.map D.bl = GD at *
  generalize M.tab.map rowsD = TD at *
  generalize M.names = nm at *
  rw [seqE (e1 := [some (.d (.tup [.str nm, .tup GD, .tup TD])), some (.d (.lst OD)), some (.d (.lst LD)), some (.d (.int n)), none, none, none, none, none, none, none, none, none, none, none]) (s1 := s) (by simp [oLI])]
  rw [seqE (e1 := [some (.d (.tup [.str nm, .tup GD, .tup TD])), some (.d (.lst OD)), some (.d (.lst LD)), some (.d (.int n)), some (.d (.int 0)), none, none, none, none, none, none, none, none, none, none]) (s1 := s) (by simp)]
  rw [seqE (e1 := [some (.d (.tup [.str nm, .tup GD, .tup TD])), some (.d (.lst OD)), some (.d (.lst LD)), some (.d (.int n)), some (.d (.int 0)), some (.ref s.length), none, none, none, none, none, none, none, none, none]) (s1 := s ++ [.lst []]) (by simp [l0])]
  rw [seqE (e1 := [some (.d (.tup [.str nm, .tup GD, .tup TD])), some (.d (.lst OD)), some (.d (.lst LD)), some (.d (.int n)), some (.d (.int B)), some (.ref s.length), u6, u7, u8, u9, u10, u11, u12, none, none]) (s1 := s ++ [.lst tb]) (by simp [b2, hf])]
  simp [b0, lg, l3, st_g0, st_k0]
end
end Pv

/-! Machines of draws: any machine. -/
namespace Pv
open PySem
section
variable {Δ : Prog} {m d : Nat}
structure HasAny (Δ : Prog) : Prop where
  cell : Has Δ "_law_cell" 2 2 b__law_cell
  mixed : Has Δ "_law_mixed" 3 4 b__law_mixed
  draws : Has Δ "_law_draws" 3 6 b__law_draws
  shape : Has Δ "_law_shape" 1 2 b__law_shape
  names : Has Δ "_law_names" 2 3 b__law_names
  blocks : Has Δ "_law_blocks" 4 6 b__law_blocks
  grown : Has Δ "_law_grown" 3 3 b__law_grown
  graded : Has Δ "_law_graded" 3 11 b__law_graded
  spotted : Has Δ "_law_spotted" 2 7 b__law_spotted
  blown : Has Δ "_law_blown" 3 15 b__law_blown
  owner : Has Δ "_law_owner" 3 6 b__law_owner
  machine : Has Δ "_law_machine" 4 12 b__law_machine
  any : Has Δ "_law_any" 3 10 b__law_any
theorem cut4 {L : List Int} (h : 8 ≤ L.length) : ∃ a b e f, cutL (L.map D.int) (some 4) (some 8) = [.int a, .int b, .int e, .int f] := by
  rw [cut_mid _ (by omega) (by omega)]
  have h1 : (((L.map D.int).take 8).drop 4) = ((L.take 8).drop 4).map .int := by rw [List.map_drop, List.map_take]
  have h2 : ((L.take 8).drop 4).length = 4 := by rw [List.length_drop, List.length_take]; omega
  show ∃ a b e f, ((L.map D.int).take 8).drop 4 = _
  rw [h1]
  generalize (L.take 8).drop 4 = l at h2
  match l, h2 with
  | [a, b, e, f], _ => exact ⟨a, b, e, f, rfl⟩
theorem cut22 (L : List Int) (h : 30 ≤ L.length) : ∃ W : List Int, W.length = 22 ∧ cutL (L.map D.int) (some 8) (some 30) = W.map .int := by
  rw [cut_mid _ (by omega) (by omega)]
  refine ⟨(L.take 30).drop 8, by rw [List.length_drop, List.length_take]; omega, ?_⟩
  show ((L.map D.int).take 30).drop 8 = _
  rw [List.map_drop, List.map_take]
def b__law_any_in : Ss :=
 (.cons (.set 8 (.call "_law_graded" (.cons (.var 6) (.cons (.var 5) (.cons (.var 7) .nil)))))
 (.cons (.ife (.cmp .eq (.bin .mod (.ix (.var 3) (.int 4)) (.int 3)) (.int 0)) (.cons (.set 8 (.call "_law_spotted" (.cons (.var 8) (.cons (.slice (.var 7) (.int 4) (.int 8)) .nil))))
 .nil) .nil)
 (.cons (.ret (.call "_law_blown" (.cons (.var 8) (.cons (.call "_law_owner" (.cons (.var 5) (.cons (.int 0) (.cons (.slice (.var 7) (.int 8) (.int 30)) .nil)))) (.cons (.var 7) .nil)))))
 .nil)))
def b__law_any_tail : Ss :=
 (.cons (.ife (.cmp .eq (.bin .mod (.ix (.var 3) (.int 3)) (.int 3)) (.int 0)) b__law_any_in .nil)
 (.cons (.set 9 (.var 5))
 (.cons (.ife (.cmp .eq (.bin .mod (.ix (.var 3) (.int 1)) (.int 3)) (.int 0)) (.cons (.set 9 (.bin .add (.int 1) (.bin .mod (.ix (.var 3) (.int 2)) (.var 5))))
 .nil) .nil)
 (.cons (.ret (.call "_law_machine" (.cons (.var 6) (.cons (.var 5) (.cons (.var 9) (.cons (.var 7) .nil))))))
 .nil))))
theorem sp_any (H : HasAny Δ) (ns : List Int) (a : Int) (pool : Tx) (hp : 6 ≤ pool.length) (hp2 : pool.length ≤ line) :
    ∃ (M : Mach) (c n : Nat), c ≤ 5 ∧ 1 ≤ n ∧ n ≤ 9 ∧ n * n * 2 ^ c ≤ 200 ∧ WF M c n ∧ M.names = sortG ltN (pool.take c) ∧
      ∀ s, Φ Δ m (d + 4) "_law_any" [.d (.lst (ns.map .int)), .d (.int a), .d (.str pool)] s = .ok (.d (machD M)) s := by
  obtain ⟨C, hC⟩ := cells_of (m := m) (d := d + 1) H.cell ns
  obtain ⟨ca, hca⟩ := sp_cell (m := m) (d := d + 2) H.cell ns a
  have hd := sp_draws (m := m) (d := d + 1) H.draws H.mixed ca 10 1000003 (by omega) (by omega)
  have hdl := drawsI_len ca 10 1000003
  generalize drawsI ca 10 1000003 = T at hd hdl
  have hdl : T.length = 10 := hdl
  have t0 : L2.atI (T.map D.int) 0 = some (.int (T.getD 0 0)) := atL (L := T) (i := 0) (by omega)
  have t1 : L2.atI (T.map D.int) 1 = some (.int (T.getD 1 0)) := atL (L := T) (i := 1) (by omega)
  have t2 : L2.atI (T.map D.int) 2 = some (.int (T.getD 2 0)) := atL (L := T) (i := 2) (by omega)
  have t3 : L2.atI (T.map D.int) 3 = some (.int (T.getD 3 0)) := atL (L := T) (i := 3) (by omega)
  have t4 : L2.atI (T.map D.int) 4 = some (.int (T.getD 4 0)) := atL (L := T) (i := 4) (by omega)
  generalize T.getD 0 0 = y0 at *
  generalize T.getD 1 0 = y1 at *
  generalize T.getD 2 0 = y2 at *
  generalize T.getD 3 0 = y3 at *
  generalize T.getD 4 0 = y4 at *
  generalize T.map D.int = TD at *
  obtain ⟨c, n, hc, hn1, hn9, hnn, hsh⟩ := sp_shape (m := m) (d := d + 2) H.shape y0
  have hnm := sp_names (m := m) (d := d + 2) H.names pool c (by omega) (by omega) hp2
  have nml : (sortG ltN (pool.take c)).length = c := by rw [(sortG_perm (lt := ltN) _).length_eq, List.length_take]; omega
  generalize hnmE : sortG ltN (pool.take c) = nm at *
  have pp : 1 ≤ 2 ^ c := Nat.two_pow_pos c
  have pw := pow_small (c := c) (by omega)
  have hmany : ∃ q : Nat, (n : Int) + (n : Int) * (n : Int) * ((2 ^ c : Nat) : Int) + 40 = (q : Int) ∧ q = n + n * n * 2 ^ c + 40 ∧ q ≤ 300 := by
    refine ⟨n + n * n * 2 ^ c + 40, ?_, rfl, by omega⟩
    push_cast
    rfl
  obtain ⟨q, hq1, hq2, hq3⟩ := hmany
  have hb := sp_blocks (m := m) (d := d) H.blocks H.cell H.draws H.mixed ns hC (a + 1) q 3000017 (by omega) (by omega)
  have bl : (blkI C (a + 1) q 3000017).length = q := by
    have := blkL_len C (a + 1) q 3000017 (by omega) (((q : Int) + 49) / 50).toNat (by omega)
    unfold blkI
    split at this <;> omega
  generalize blkI C (a + 1) q 3000017 = L at *
  have l3 : (3 : Nat) ≤ line := by decide
  have m1 : ∀ s, binV .mul (.d (.int (n : Int))) (.d (.int (n : Int))) s = .ok (.d (.int ((n : Int) * n))) s := fun s => bin_mul _ _ _ (okM1 (by omega))
  have hn81 : (n : Int) * n ≤ 81 := by
    have := Nat.mul_le_mul hn9 hn9
    have : ((n * n : Nat) : Int) ≤ 81 := by omega
    push_cast at this
    exact this
  have hn0 : 0 ≤ (n : Int) * n := by
    have : (0 : Int) ≤ ((n * n : Nat) : Int) := by omega
    push_cast at this
    exact this
  have m2 : ∀ s, binV .mul (.d (.int ((n : Int) * n))) (.d (.int ((2 ^ c : Nat) : Int))) s = .ok (.d (.int ((n : Int) * n * ((2 ^ c : Nat) : Int)))) s := fun s => bin_mul _ _ _ (okM1 (by omega))
  have hs5 := fun s => shl_ok c (by omega) s
  have pre : ∀ s, evSs (cxΔ Δ m (d + 3)) b__law_any [some (.d (.lst (ns.map .int))), some (.d (.int a)), some (.d (.str pool)), none, none, none, none, none, none, none] s =
      evSs (cxΔ Δ m (d + 3)) b__law_any_tail [some (.d (.lst (ns.map .int))), some (.d (.int a)), some (.d (.str pool)), some (.d (.lst TD)), some (.d (.int c)), some (.d (.int n)), some (.d (.str nm)), some (.d (.lst (L.map .int))), none, none] s := fun s => by
    have hd := hd s
    have hca := hca s
    have hsh := hsh s
    have hnm := hnm s
    have hb := hb s
    have hs5 := hs5 s
    have m1 := m1 s
    have m2 := m2 s
    generalize ((2 ^ c : Nat) : Int) = Q at *
    generalize ns.map D.int = ND at *
    generalize L.map D.int = LD at *
    unfold b__law_any
    rw [seqE (e1 := [some (.d (.lst ND)), some (.d (.int a)), some (.d (.str pool)), some (.d (.lst TD)), none, none, none, none, none, none]) (s1 := s) (by simp [hca, hd, H.cell.has, H.draws.has])]
    rw [seqE (e1 := [some (.d (.lst ND)), some (.d (.int a)), some (.d (.str pool)), some (.d (.lst TD)), some (.d (.int c)), some (.d (.int n)), none, none, none, none]) (s1 := s) (by simp [t0, hsh, H.shape.has, bindT, bindTs])]
    rw [seqE (e1 := [some (.d (.lst ND)), some (.d (.int a)), some (.d (.str pool)), some (.d (.lst TD)), some (.d (.int c)), some (.d (.int n)), some (.d (.str nm)), none, none, none]) (s1 := s) (by simp [hnm, H.names.has])]
    rw [seqE (e1 := [some (.d (.lst ND)), some (.d (.int a)), some (.d (.str pool)), some (.d (.lst TD)), some (.d (.int c)), some (.d (.int n)), some (.d (.str nm)), some (.d (.lst LD)), none, none]) (s1 := s) (by simp [m1, m2, hs5, hq1, hb, H.blocks.has])]
    rfl
  by_cases c3 : y3 % 3 = 0
  · have G := sp_graded (m := m) (d := d + 1) H.graded H.grown nm c n L nml (by omega) hn1 (by omega) (by omega)
    have GW := gradM_wf (L := L) nml hn1
    have GN : (gradM nm c n L).names = nm := rfl
    obtain ⟨W, wl, ew⟩ := cut22 L (by omega)
    have O := sp_owner (m := m) (d := d + 2) H.owner n W hn1 (by omega) (by omega)
    have OP : IsPerm (ownL W (n - 1)) n := by
      have := ownL_perm W (n - 1)
      rw [show n - 1 + 1 = n by omega] at this
      exact this
    by_cases c4 : y4 % 3 = 0
    · obtain ⟨s0, s1, s2, s3, e4⟩ := cut4 (L := L) (by omega)
      obtain ⟨ia, ib, ie, iv, ha, hb', hv, S⟩ := sp_spotted (m := m) (d := d + 2) H.spotted (gradM nm c n L) c n GW (by omega) hn1 (by omega) s0 s1 s2 s3
      have SW := spotM_wf GW (e := ie) ha hb' hv
      have B := sp_blown (m := m) (d := d + 2) H.blown (spotM (gradM nm c n L) n ia ib ie iv) c n SW (by omega) hn1 (by omega) (ownL W (n - 1)) L OP (by omega) (by omega)
      refine ⟨blowM (spotM (gradM nm c n L) n ia ib ie iv) (ownL W (n - 1)) n L, c, n, hc, hn1, hn9, hnn, blowM_wf SW OP, hnmE.symm, fun s => ?_⟩
      have G := G s
      have O := O s
      have S := S s
      have B := B s
      rw [H.any.run rfl]
      show endF (evSs _ b__law_any [some (.d (.lst (ns.map .int))), some (.d (.int a)), some (.d (.str pool)), none, none, none, none, none, none, none] s) s.length = _
      rw [pre s]
      unfold b__law_any_tail
      generalize machD (blowM (spotM (gradM nm c n L) n ia ib ie iv) (ownL W (n - 1)) n L) = R3 at *
      generalize machD (spotM (gradM nm c n L) n ia ib ie iv) = R2 at *
      generalize machD (gradM nm c n L) = R1 at *
      generalize (ownL W (n - 1)).map D.int = OD at *
      generalize W.map D.int = WD at *
      generalize L.map D.int = LD at *
      generalize ns.map D.int = ND at *
      have hif : evS (cxΔ Δ m (d + 3)) (.ife (.cmp .eq (.bin .mod (.ix (.var 3) (.int 3)) (.int 3)) (.int 0)) b__law_any_in .nil) [some (.d (.lst ND)), some (.d (.int a)), some (.d (.str pool)), some (.d (.lst TD)), some (.d (.int c)), some (.d (.int n)), some (.d (.str nm)), some (.d (.lst LD)), none, none] s = .rt (.d R3) s := by
        rw [ifT (s1 := s) (by simp [t3, c3])]
        unfold b__law_any_in
        rw [seqE (e1 := [some (.d (.lst ND)), some (.d (.int a)), some (.d (.str pool)), some (.d (.lst TD)), some (.d (.int c)), some (.d (.int n)), some (.d (.str nm)), some (.d (.lst LD)), some (.d R1), none]) (s1 := s) (by simp [G, H.graded.has])]
        rw [seqE (e1 := [some (.d (.lst ND)), some (.d (.int a)), some (.d (.str pool)), some (.d (.lst TD)), some (.d (.int c)), some (.d (.int n)), some (.d (.str nm)), some (.d (.lst LD)), some (.d R2), none]) (s1 := s) (by rw [ifT (s1 := s) (by simp [t4, c4])]; simp [e4, S, H.spotted.has])]
        simp [ew, O, B, H.owner.has, H.blown.has]
      rw [seqR hif]
      simp
    · have B := sp_blown (m := m) (d := d + 2) H.blown (gradM nm c n L) c n GW (by omega) hn1 (by omega) (ownL W (n - 1)) L OP (by omega) (by omega)
      refine ⟨blowM (gradM nm c n L) (ownL W (n - 1)) n L, c, n, hc, hn1, hn9, hnn, blowM_wf GW OP, hnmE.symm, fun s => ?_⟩
      have G := G s
      have O := O s
      have B := B s
      rw [H.any.run rfl]
      show endF (evSs _ b__law_any [some (.d (.lst (ns.map .int))), some (.d (.int a)), some (.d (.str pool)), none, none, none, none, none, none, none] s) s.length = _
      rw [pre s]
      unfold b__law_any_tail
      generalize machD (blowM (gradM nm c n L) (ownL W (n - 1)) n L) = R3 at *
      generalize machD (gradM nm c n L) = R1 at *
      generalize (ownL W (n - 1)).map D.int = OD at *
      generalize W.map D.int = WD at *
      generalize L.map D.int = LD at *
      generalize ns.map D.int = ND at *
      have hif : evS (cxΔ Δ m (d + 3)) (.ife (.cmp .eq (.bin .mod (.ix (.var 3) (.int 3)) (.int 3)) (.int 0)) b__law_any_in .nil) [some (.d (.lst ND)), some (.d (.int a)), some (.d (.str pool)), some (.d (.lst TD)), some (.d (.int c)), some (.d (.int n)), some (.d (.str nm)), some (.d (.lst LD)), none, none] s = .rt (.d R3) s := by
        rw [ifT (s1 := s) (by simp [t3, c3])]
        unfold b__law_any_in
        rw [seqE (e1 := [some (.d (.lst ND)), some (.d (.int a)), some (.d (.str pool)), some (.d (.lst TD)), some (.d (.int c)), some (.d (.int n)), some (.d (.str nm)), some (.d (.lst LD)), some (.d R1), none]) (s1 := s) (by simp [G, H.graded.has])]
        rw [seqE (e1 := [some (.d (.lst ND)), some (.d (.int a)), some (.d (.str pool)), some (.d (.lst TD)), some (.d (.int c)), some (.d (.int n)), some (.d (.str nm)), some (.d (.lst LD)), some (.d R1), none]) (s1 := s) (by rw [ifF (s1 := s) (by simp [t4, c4])]; simp)]
        simp [ew, O, B, H.owner.has, H.blown.has]
      rw [seqR hif]
      simp
  · have y2n := Int.emod_nonneg y2 (by omega : (n : Int) ≠ 0)
    have y2l := Int.emod_lt_of_pos y2 (by omega : (0 : Int) < (n : Int))
    have fin : ∀ top : Int, 0 < top → top ≤ n → (∀ s, evSs (cxΔ Δ m (d + 3)) b__law_any_tail [some (.d (.lst (ns.map .int))), some (.d (.int a)), some (.d (.str pool)), some (.d (.lst TD)), some (.d (.int c)), some (.d (.int n)), some (.d (.str nm)), some (.d (.lst (L.map .int))), none, none] s =
        evSs (cxΔ Δ m (d + 3)) (.cons (.ret (.call "_law_machine" (.cons (.var 6) (.cons (.var 5) (.cons (.var 9) (.cons (.var 7) .nil)))))) .nil) [some (.d (.lst (ns.map .int))), some (.d (.int a)), some (.d (.str pool)), some (.d (.lst TD)), some (.d (.int c)), some (.d (.int n)), some (.d (.str nm)), some (.d (.lst (L.map .int))), none, some (.d (.int top))] s) →
        ∃ (M : Mach) (c n : Nat), c ≤ 5 ∧ 1 ≤ n ∧ n ≤ 9 ∧ n * n * 2 ^ c ≤ 200 ∧ WF M c n ∧ M.names = sortG ltN (pool.take c) ∧
          ∀ s, Φ Δ m (d + 4) "_law_any" [.d (.lst (ns.map .int)), .d (.int a), .d (.str pool)] s = .ok (.d (machD M)) s := fun top h0 h1 ht => by
      have Mm := sp_machine (m := m) (d := d + 2) H.machine nm c n top L nml (by omega) (by omega) h0 (by omega)
      refine ⟨mchM nm c n top L, c, n, hc, hn1, hn9, hnn, mchM_wf nml h0 h1, hnmE.symm, fun s => ?_⟩
      rw [H.any.run rfl]
      show endF (evSs _ b__law_any [some (.d (.lst (ns.map .int))), some (.d (.int a)), some (.d (.str pool)), none, none, none, none, none, none, none] s) s.length = _
      rw [pre s, ht s]
      have Mm := Mm s
      generalize machD (mchM nm c n top L) = R1 at *
      generalize L.map D.int = LD at *
      generalize ns.map D.int = ND at *
      simp [Mm, H.machine.has]
    have md : ∀ x s, binV .mod (.d (.int x)) (.d (.int (n : Int))) s = .ok (.d (.int (x % n))) s := fun x s => bin_mod _ _ _ (by omega)
    generalize hND : ns.map D.int = ND at *
    generalize hLD : L.map D.int = LD at *
    by_cases c1 : y1 % 3 = 0
    · refine fin (1 + y2 % n) (by omega) (by omega) fun s => ?_
      unfold b__law_any_tail
      rw [seqE (e1 := [some (.d (.lst ND)), some (.d (.int a)), some (.d (.str pool)), some (.d (.lst TD)), some (.d (.int c)), some (.d (.int n)), some (.d (.str nm)), some (.d (.lst LD)), none, none]) (s1 := s) (by rw [ifF (s1 := s) (by simp [t3, c3])]; simp)]
      rw [seqE (e1 := [some (.d (.lst ND)), some (.d (.int a)), some (.d (.str pool)), some (.d (.lst TD)), some (.d (.int c)), some (.d (.int n)), some (.d (.str nm)), some (.d (.lst LD)), none, some (.d (.int n))]) (s1 := s) (by simp)]
      rw [seqE (e1 := [some (.d (.lst ND)), some (.d (.int a)), some (.d (.str pool)), some (.d (.lst TD)), some (.d (.int c)), some (.d (.int n)), some (.d (.str nm)), some (.d (.lst LD)), none, some (.d (.int (1 + y2 % n)))]) (s1 := s) (by rw [ifT (s1 := s) (by simp [t1, c1])]; simp [t2, md])]
    · refine fin n (by omega) (by omega) fun s => ?_
      unfold b__law_any_tail
      rw [seqE (e1 := [some (.d (.lst ND)), some (.d (.int a)), some (.d (.str pool)), some (.d (.lst TD)), some (.d (.int c)), some (.d (.int n)), some (.d (.str nm)), some (.d (.lst LD)), none, none]) (s1 := s) (by rw [ifF (s1 := s) (by simp [t3, c3])]; simp)]
      rw [seqE (e1 := [some (.d (.lst ND)), some (.d (.int a)), some (.d (.str pool)), some (.d (.lst TD)), some (.d (.int c)), some (.d (.int n)), some (.d (.str nm)), some (.d (.lst LD)), none, some (.d (.int n))]) (s1 := s) (by simp)]
      rw [seqE (e1 := [some (.d (.lst ND)), some (.d (.int a)), some (.d (.str pool)), some (.d (.lst TD)), some (.d (.int c)), some (.d (.int n)), some (.d (.str nm)), some (.d (.lst LD)), none, some (.d (.int n))]) (s1 := s) (by rw [ifF (s1 := s) (by simp [t1, c1])]; simp)]
end
end Pv

/-! Marks over fewer names. -/
namespace Pv
open PySem
theorem bitAnd_one (n : Nat) : Builtin.bitAnd (n : Int) 1 = ((n % 2 : Nat) : Int) := by
  unfold Builtin.bitAnd
  have h1 : decide (0 ≤ (n : Int)) = true := decide_eq_true (by omega)
  have h2 : decide (0 ≤ (1 : Int)) = true := by decide
  rw [h1, h2]
  show ((((n : Int).toNat &&& (1 : Int).toNat : Nat)) : Int) = _
  rw [Int.toNat_natCast, show (1 : Int).toNat = 1 from rfl, Nat.and_one_is_mod]
/-- which names have a figure one -/
theorem mk_bit : ∀ (l : Tx) (n i : Nat) (hi : i < l.length), l.Nodup → n < 2 ^ l.length → (l[i] ∈ mkOf l n ↔ n / 2 ^ (l.length - 1 - i) % 2 = 1)
  | x :: r, n, 0, hi, nd, hn => by
    obtain ⟨nx, nd⟩ := List.nodup_cons.mp nd
    rw [List.length_cons, Nat.pow_succ] at hn
    show x ∈ mkOf (x :: r) n ↔ n / 2 ^ (r.length + 1 - 1 - 0) % 2 = 1
    rw [show r.length + 1 - 1 - 0 = r.length by omega, mkOf]
    have hp : 0 < 2 ^ r.length := Nat.two_pow_pos _
    by_cases c : 2 ^ r.length ≤ n
    · rw [if_pos c]
      have : n / 2 ^ r.length = 1 := by
        rw [Nat.div_eq_iff hp]
        omega
      rw [this]
      simp
    · rw [if_neg c, Nat.div_eq_of_lt (by omega)]
      simp only [Nat.zero_mod, Nat.zero_ne_one, iff_false]
      exact fun q => nx ((mkOf_sub r n).subset q)
  | x :: r, n, i + 1, hi, nd, hn => by
    obtain ⟨nx, nd⟩ := List.nodup_cons.mp nd
    rw [List.length_cons, Nat.pow_succ] at hn
    have hi' : i < r.length := by simpa using hi
    show r[i] ∈ mkOf (x :: r) n ↔ n / 2 ^ (r.length + 1 - 1 - (i + 1)) % 2 = 1
    have ne : r[i] ≠ x := fun e => nx (e ▸ List.getElem_mem hi')
    have e1 : r.length + 1 - 1 - (i + 1) = r.length - 1 - i := by omega
    rw [e1, mkOf]
    by_cases c : 2 ^ r.length ≤ n
    · rw [if_pos c]
      have ih := mk_bit r (n - 2 ^ r.length) i hi' nd (by omega)
      have e2 : 2 ^ r.length = 2 ^ (r.length - 1 - i) * (2 * 2 ^ i) := by
        rw [← Nat.mul_assoc, ← Nat.pow_succ, ← Nat.pow_add]
        congr 1
        omega
      have e3 : n / 2 ^ (r.length - 1 - i) % 2 = (n - 2 ^ r.length) / 2 ^ (r.length - 1 - i) % 2 := by
        have hp : 0 < 2 ^ (r.length - 1 - i) := Nat.two_pow_pos _
        have en : n = (n - 2 ^ r.length) + 2 ^ (r.length - 1 - i) * (2 * 2 ^ i) := by omega
        generalize n - 2 ^ r.length = m at en ⊢
        generalize 2 ^ (r.length - 1 - i) = p at *
        rw [en, Nat.add_mul_div_left _ _ hp]
        omega
      rw [e3, ← ih]
      simp [ne]
    · rw [if_neg c]
      exact mk_bit r n i hi' nd (by omega)
theorem atTx {l : Tx} {i : Nat} (h : i < l.length) : L2.atI l (i : Int) = some l[i] := by
  rw [atI_pos (by omega) (by omega), Int.toNat_natCast, List.getElem?_eq_getElem h]
section
variable {Δ : Prog} {m d : Nat}
/-- the number that the marks of a number have over some of the names -/
def thinN (names more : Tx) (n : Nat) : Nat := val (more.filter fun x => decide (x ∈ names)) (fun x => decide (x ∈ mkOf more n))
theorem sp_thin (h : Has Δ "_law_thin" 3 5 b__law_thin) (names more : Tx) (n : Nat) (nd : more.Nodup) (hn : n < 2 ^ more.length) (hl : more.length ≤ 1000) (s : Store) :
    Φ Δ m (d + 1) "_law_thin" [.d (.str names), .d (.str more), .d (.int n)] s = .ok (.d (.int (thinN names more n : Nat))) s := by
  rw [h.run rfl]
  unfold b__law_thin
  have lml : more.length ≤ line := by show _ ≤ 16777216; omega
  have key := forL_inv (w := ⟨rangeL 0 more.length, none⟩) (n := s.length) (tg := .name 4) (body := fun e s => evSs (cxΔ Δ m d) b__law_thin_1 e s)
    (env := [some (.d (.str names)), some (.d (.str more)), some (.d (.int n)), some (.d (.int 0)), none]) (s := s)
    (fun i e s1 => (∃ (acc : Nat) (g : Option Val), e = [some (.d (.str names)), some (.d (.str more)), some (.d (.int n)), some (.d (.int acc)), g] ∧
      acc * 2 ^ ((more.drop i).filter fun x => decide (x ∈ names)).length + val ((more.drop i).filter fun x => decide (x ∈ names)) (fun x => decide (x ∈ mkOf more n)) = thinN names more n) ∧ s1 = s)
    ⟨⟨0, _, rfl, by simp [thinN]⟩, rfl⟩ (by
    rintro i dd env s1 hdd ⟨⟨acc, g, rfl, hv⟩, rfl⟩
    obtain ⟨hi, rfl⟩ := rl_get _ hdd
    rw [Int.zero_add]
    refine ⟨rfl, _, rfl, ?_⟩
    have ai : L2.atI more (i : Int) = some more[i] := atTx hi
    have bt := mk_bit more n i hi nd hn
    rw [List.drop_eq_getElem_cons hi, List.filter_cons] at hv
    have mk : okMul 2 (acc : Int) = true := okM1 (by omega)
    have ex : ((more.length : Int) - 1 - (i : Int)) = ((more.length - 1 - i : Nat) : Int) := by omega
    have shr : ∀ s, binV .shr (.d (.int (n : Int))) (.d (.int ((more.length : Int) - 1 - (i : Int)))) s = .ok (.d (.int ((n / 2 ^ (more.length - 1 - i) : Nat) : Int))) s := fun s => by
      rw [ex, bin_shr _ _ _ (by omega), Int.toNat_natCast]
      congr 3
    have ba := bitAnd_one (n / 2 ^ (more.length - 1 - i))
    generalize n / 2 ^ (more.length - 1 - i) = q at *
    generalize hx : more[i] = x at *
    generalize mkOf more n = mo at *
    generalize (List.drop (i + 1) more).filter (fun x => decide (x ∈ names)) = rest at *
    unfold b__law_thin_1
    by_cases c : x ∈ names
    · rw [if_pos (by simpa using c), val, List.length_cons, Nat.pow_succ] at hv
      have ts : s1.take s1.length = s1 := List.take_of_length_le (Nat.le_refl _)
      have e1 : (2 : Int) * (acc : Int) + ((q % 2 : Nat) : Int) = ((2 * acc + q % 2 : Nat) : Int) := by omega
      simp [ai, c, lml, shr, ba, mk, e1, ts]
      refine ⟨2 * acc + q % 2, by omega, ?_⟩
      rw [← hv, Nat.add_mul, Nat.mul_comm 2 acc, Nat.mul_assoc, Nat.mul_comm 2]
      by_cases hq : q % 2 = 1
      · rw [if_pos (by simpa using bt.mpr hq), hq]
        omega
      · rw [if_neg (by simpa using fun z => hq (bt.mp z)), show q % 2 = 0 by omega]
        omega
    · rw [if_neg (by simpa using c)] at hv
      have ts : s1.take s1.length = s1 := List.take_of_length_le (Nat.le_refl _)
      simp [ai, c, lml, ts]
      exact ⟨acc, rfl, hv⟩) (fun _ _ _ => rfl)
  obtain ⟨env', s', h1, ⟨acc, g, h2, hv⟩, h3⟩ := key
  simp only [rl_len, List.drop_length, List.filter_nil, List.length_nil, Nat.pow_zero, Nat.mul_one, val, Nat.add_zero] at hv
  subst h2 h3
  have hr := lenR_ok lml
  simp [h1, hv, hr, lml]
end
end Pv

/-! Bodies of defs that many laws have (printed by gen.py). -/
namespace Pv
/- slots of rooms_of: 0 machine, 1 tree, 2 tops, 3 rooms, 4 branches, 5 marks, 6 left, 7 right, 8 room -/
def b_rooms_of_1 : Ss :=
 (.cons (.set 6 (.int 0))
 (.cons (.set 7 (.int 0))
 (.cons (.ife (.cmp .ge (.var 4) (.int 2)) (.cons (.set 7 (.meth .pop (.var 2) .nil))
 .nil) .nil)
 (.cons (.ife (.cmp .eq (.bin .mod (.var 4) (.int 2)) (.int 1)) (.cons (.set 6 (.meth .pop (.var 2) .nil))
 .nil) .nil)
 (.cons (.set 8 (.ix (.ix (.ix (.ix (.var 0) (.int 2)) (.call "letter_of" (.cons (.ix (.var 0) (.int 0)) (.cons (.var 5) .nil)))) (.var 6)) (.var 7)))
 (.cons (.ex (.meth .append (.var 2) (.cons (.var 8) .nil)))
 (.cons (.ex (.meth .append (.var 3) (.cons (.var 8) .nil)))
 .nil)))))))
def b_rooms_of : Ss :=
 (.cons (.set 2 (.list .nil))
 (.cons (.set 3 (.list .nil))
 (.cons (.forr (.tup (.cons (.name 4) (.cons (.name 5) .nil))) (.val (.var 1)) b_rooms_of_1)
 (.cons (.ret (.blt .tuple (.cons (.var 3) .nil)))
 .nil))))
/- slots of lets_by: 0 machine, 1 tree, 2 rooms -/
def b_lets_by : Ss :=
 (.cons (.set 2 (.call "rooms_of" (.cons (.var 0) (.cons (.var 1) .nil))))
 (.cons (.ife (.cmp .eq (.blt .len (.cons (.var 2) .nil)) (.int 0)) (.cons (.ret (.ix (.ix (.var 0) (.int 1)) (.int 0)))
 .nil) .nil)
 (.cons (.ret (.ix (.ix (.var 0) (.int 1)) (.ix (.var 2) (.neg (.int 1)))))
 .nil)))
/- slots of _law_links: 0 _law_tree, 1 _law_heap, 2 _law_found, 3 _law_k, 4 _law_left, 5 _law_right -/
def b__law_links_1 : Ss :=
 (.cons (.set 4 .non)
 (.cons (.set 5 .non)
 (.cons (.ife (.cmp .ge (.ix (.ix (.var 0) (.var 3)) (.int 0)) (.int 2)) (.cons (.set 5 (.meth .pop (.var 1) .nil))
 .nil) .nil)
 (.cons (.ife (.cmp .eq (.bin .mod (.ix (.ix (.var 0) (.var 3)) (.int 0)) (.int 2)) (.int 1)) (.cons (.set 4 (.meth .pop (.var 1) .nil))
 .nil) .nil)
 (.cons (.ex (.meth .append (.var 2) (.cons (.tup (.cons (.var 4) (.cons (.var 5) .nil))) .nil)))
 (.cons (.ex (.meth .append (.var 1) (.cons (.var 3) .nil)))
 .nil))))))
def b__law_links : Ss :=
 (.cons (.set 1 (.list .nil))
 (.cons (.set 2 (.list .nil))
 (.cons (.forr (.name 3) (.range (.cons (.blt .len (.cons (.var 0) .nil)) .nil)) b__law_links_1)
 (.cons (.ret (.var 2))
 .nil))))
/- slots of _law_letter: 0 _law_names_here, 1 _law_marks_here, 2 _law_found, 3 _law_name -/
def b__law_letter_1 : Ss :=
 (.cons (.set 2 (.bin .add (.bin .mul (.int 2) (.var 2)) (.blt .int (.cons (.cmp .isin (.var 3) (.var 1)) .nil))))
 .nil)
def b__law_letter : Ss :=
 (.cons (.set 2 (.int 0))
 (.cons (.forr (.name 3) (.val (.var 0)) b__law_letter_1)
 (.cons (.ret (.var 2))
 .nil)))
/- slots of _law_rooms: 0 _law_machine_here, 1 _law_tree, 2 _law_rooms_here, 3 _law_links_here, 4 _law_k, 5 _law_left, 6 _law_right -/
def b__law_rooms_1 : Ss :=
 (.cons (.set 5 (.int 0))
 (.cons (.set 6 (.int 0))
 (.cons (.ife (.cmp .isnot (.ix (.ix (.var 3) (.var 4)) (.int 0)) .non) (.cons (.set 5 (.ix (.var 2) (.ix (.ix (.var 3) (.var 4)) (.int 0))))
 .nil) .nil)
 (.cons (.ife (.cmp .isnot (.ix (.ix (.var 3) (.var 4)) (.int 1)) .non) (.cons (.set 6 (.ix (.var 2) (.ix (.ix (.var 3) (.var 4)) (.int 1))))
 .nil) .nil)
 (.cons (.ife (.not (.call "_law_same" (.cons (.ix (.var 2) (.var 4)) (.cons (.ix (.ix (.ix (.ix (.var 0) (.int 2)) (.call "_law_letter" (.cons (.ix (.var 0) (.int 0)) (.cons (.ix (.ix (.var 1) (.var 4)) (.int 1)) .nil)))) (.var 5)) (.var 6)) .nil)))) (.cons (.ret (.bl false))
 .nil) .nil)
 .nil)))))
def b__law_rooms : Ss :=
 (.cons (.ife (.or (.cons (.not (.isi .tup (.var 2))) (.cons (.cmp .ne (.blt .len (.cons (.var 2) .nil)) (.blt .len (.cons (.var 1) .nil))) .nil))) (.cons (.ret (.bl false))
 .nil) .nil)
 (.cons (.set 3 (.frz (.call "_law_links" (.cons (.var 1) .nil))))
 (.cons (.forr (.name 4) (.range (.cons (.blt .len (.cons (.var 1) .nil)) .nil)) b__law_rooms_1)
 (.cons (.ret (.bl true))
 .nil))))
/- slots of _law_bare: 0 _law_tree, 1 _law_names_here, 2 _law_branches, 3 _law_marks_here, 4 _law_sign -/
def x__law_bare_1 : E :=
 (.var 4)
def y__law_bare_1 : Es :=
 (.cons (.cmp .isin (.var 4) (.var 1)) .nil)
def x__law_bare_3 : E :=
 (.tup (.cons (.var 2) (.cons (.meth .join (.str []) (.cons (.lc x__law_bare_1 (.name 4) (.val (.var 3)) y__law_bare_1) .nil)) .nil)))
def y__law_bare_3 : Es :=
 .nil
def b__law_bare : Ss :=
 (.cons (.ret (.blt .tuple (.cons (.lc x__law_bare_3 (.tup (.cons (.name 2) (.cons (.name 3) .nil))) (.val (.var 0)) y__law_bare_3) .nil)))
 .nil)
/- slots of _law_told_right: 0 _law_machine_here, 1 _law_tree, 2 _law_rooms_here, 3 _law_due, 4 _law_bare_here -/
def b__law_told_right : Ss :=
 (.cons (.set 2 (.call "rooms_of" (.cons (.var 0) (.cons (.var 1) .nil))))
 (.cons (.ife (.not (.call "_law_rooms" (.cons (.var 0) (.cons (.var 1) (.cons (.var 2) .nil))))) (.cons (.ret (.bl false))
 .nil) .nil)
 (.cons (.set 3 (.ix (.ix (.var 0) (.int 1)) (.int 0)))
 (.cons (.ife (.cmp .gt (.blt .len (.cons (.var 1) .nil)) (.int 0)) (.cons (.set 3 (.ix (.ix (.var 0) (.int 1)) (.ix (.var 2) (.neg (.int 1)))))
 .nil) .nil)
 (.cons (.ife (.not (.call "_law_same" (.cons (.call "lets_by" (.cons (.var 0) (.cons (.var 1) .nil))) (.cons (.var 3) .nil)))) (.cons (.ret (.bl false))
 .nil) .nil)
 (.cons (.set 4 (.call "_law_bare" (.cons (.var 1) (.cons (.ix (.var 0) (.int 0)) .nil))))
 (.cons (.ret (.and (.cons (.call "_law_same" (.cons (.call "lets_by" (.cons (.var 0) (.cons (.var 4) .nil))) (.cons (.var 3) .nil))) (.cons (.call "_law_same" (.cons (.call "rooms_of" (.cons (.var 0) (.cons (.var 4) .nil))) (.cons (.var 2) .nil))) .nil))))
 .nil)))))))
end Pv

/-! Rooms of a tree. -/
namespace Pv
open PySem
def opR (o : Option Int) (l : List Int) : Int := match o with
  | some p => atR l p
  | none => 0
/-- the room to which two rooms and marks lead -/
def roomV (M : Mach) (z : Tx) (l r : Int) : Int := ((M.tab.getD (val M.names (fun x => decide (x ∈ z))) []).getD l.toNat []).getD r.toNat 0
/-- the rooms, the last one first -/
def rmR (M : Mach) : List Plc → List Int
  | [] => []
  | x :: r => roomV M x.2 (opR (lft x.1 (r.map (·.1))) (rmR M r)) (opR (rgt x.1 (r.map (·.1))) (rmR M r)) :: rmR M r
def roomsI (M : Mach) (t : List Plc) : List Int := (rmR M t.reverse).reverse
theorem rmR_len (M : Mach) : ∀ r, (rmR M r).length = r.length
  | [] => rfl
  | x :: r => by rw [rmR, List.length_cons, List.length_cons, rmR_len M r]
theorem roomsI_len (M : Mach) (t : List Plc) : (roomsI M t).length = t.length := by
  unfold roomsI
  rw [List.length_reverse, rmR_len, List.length_reverse]
theorem room_at {M : Mach} {c n : Nat} (w : WF M c n) (z : Tx) {l r : Int} (l0 : 0 ≤ l) (l1 : l < n) (r0 : 0 ≤ r) (r1 : r < n) : ∃ rows row, L2.atI (M.tab.map rowsD) ((val M.names (fun x => decide (x ∈ z)) : Nat) : Int) = some (.tup rows) ∧
    L2.atI rows l = some (.tup row) ∧ L2.atI row r = some (.int (roomV M z l r)) ∧ 0 ≤ roomV M z l r ∧ roomV M z l r < n := by
  have hv : val M.names (fun x => decide (x ∈ z)) < M.tab.length := by
    rw [w.tl, ← w.nl]
    exact val_lt _ _
  have a1 := map_getD rowsD (z := []) hv
  have w1 := w.rl _ (getD_mem (z := []) hv)
  unfold roomV
  generalize M.tab.getD (val M.names (fun x => decide (x ∈ z))) [] = rows at *
  obtain ⟨w1, w2⟩ := w1
  have hl : l.toNat < rows.length := by omega
  have a2 := map_getD rowD (z := []) hl
  have w3 := w2 _ (getD_mem (z := []) hl)
  generalize rows.getD l.toNat [] = row at *
  obtain ⟨w3, w4⟩ := w3
  have hr : r.toNat < row.length := by omega
  have a3 := atL hr
  have w5 := w4 _ (getD_mem (z := 0) hr)
  rw [show ((l.toNat : Nat) : Int) = l by omega] at a2
  rw [show ((r.toNat : Nat) : Int) = r by omega] at a3
  exact ⟨rows.map rowD, row.map .int, a1, a2, a3, w5⟩
theorem atR_mem {l : List Int} {p : Int} {n : Nat} (h : ∀ x ∈ l, 0 ≤ x ∧ x < (n : Int)) (hn : 1 ≤ n) : 0 ≤ atR l p ∧ atR l p < (n : Int) := by
  unfold atR
  cases e : l.reverse[p.toNat]? with
  | none => exact ⟨Int.le_refl _, by show (0 : Int) < _; omega⟩
  | some x => exact h x (List.mem_reverse.mp (List.mem_of_getElem? e))
theorem opR_in {o : Option Int} {l : List Int} {n : Nat} (h : ∀ x ∈ l, 0 ≤ x ∧ x < (n : Int)) (hn : 1 ≤ n) : 0 ≤ opR o l ∧ opR o l < (n : Int) := by
  cases o with
  | none => exact ⟨Int.le_refl _, by show (0 : Int) < _; omega⟩
  | some p => exact atR_mem h hn
theorem rmR_in {M : Mach} {c n : Nat} (w : WF M c n) (hn : 1 ≤ n) : ∀ r, ∀ x ∈ rmR M r, 0 ≤ x ∧ x < (n : Int)
  | [], x, h => by cases h
  | y :: r, x, h => by
    have ih := rmR_in w hn r
    rcases List.mem_cons.mp h with rfl | h
    · obtain ⟨l0, l1⟩ := opR_in (o := lft y.1 (r.map (·.1))) ih hn
      obtain ⟨r0, r1⟩ := opR_in (o := rgt y.1 (r.map (·.1))) ih hn
      obtain ⟨_, _, _, _, _, h⟩ := room_at w y.2 l0 l1 r0 r1
      exact h
    · exact ih x h
/-- the rooms of the tops that wait -/
def topR (M : Mach) (r : List Plc) : List Int := (stk (r.map (·.1))).map (atR (rmR M r))
theorem topR_cons (M : Mach) (x : Plc) (r : List Plc) (w : Wd (r.map (·.1))) : ∃ v, rmR M (x :: r) = v :: rmR M r ∧ v = roomV M x.2 (opR (lft x.1 (r.map (·.1))) (rmR M r)) (opR (rgt x.1 (r.map (·.1))) (rmR M r)) ∧ topR M (x :: r) = v :: (topR M r).drop (mny x.1).toNat := by
  refine ⟨_, rfl, rfl, ?_⟩
  unfold topR
  rw [rmR]
  generalize roomV M x.2 (opR (lft x.1 (r.map (·.1))) (rmR M r)) (opR (rgt x.1 (r.map (·.1))) (rmR M r)) = v
  rw [List.map_cons, stk, List.map_cons, ← List.map_drop]
  congr 1
  · have : ((r.map (·.1)).length : Int) = ((rmR M r).length : Nat) := by rw [rmR_len, List.length_map]
    rw [this]
    exact atR_new
  · refine List.map_congr_left fun p hp => ?_
    obtain ⟨p0, p1⟩ := stk_in w p (List.mem_of_mem_drop hp)
    exact atR_old p0 (by rw [rmR_len]; rw [List.length_map] at p1; exact p1)
def preP (t : List Plc) (i : Nat) : List Plc := (t.take i).reverse
theorem preP_succ {t : List Plc} {i : Nat} (h : i < t.length) : preP t (i + 1) = t[i] :: preP t i := by
  unfold preP
  rw [List.take_succ_eq_append_getElem h, List.reverse_append]
  rfl
theorem preP_map (t : List Plc) (i : Nat) : (preP t i).map (·.1) = pre t i := by
  unfold preP pre
  rw [List.map_reverse]
theorem preP_len {t : List Plc} {i : Nat} (h : i ≤ t.length) : (preP t i).length = i := by
  unfold preP
  rw [List.length_reverse, List.length_take, Nat.min_eq_left h]
theorem preP_all (t : List Plc) : preP t t.length = t.reverse := by unfold preP; rw [List.take_length]
section
variable {Δ : Prog} {m d : Nat}
theorem sp_llinks (h : Has Δ "_law_links" 1 6 b__law_links) (t : List Plc) (w : Wd (bi t)) (hl : t.length < line) (s : Store) :
    Φ Δ m (d + 1) "_law_links" [.d (.tup (t.map plD))] s = .ok (.new (linksI t)) s := by
  have w : Wd (t.map (·.1)).reverse := w
  rw [h.run rfl]
  unfold b__law_links
  have key := forL_inv (w := ⟨rangeL 0 t.length, none⟩) (n := s.length + 2) (tg := .name 3) (body := fun e s => evSs (cxΔ Δ m d) b__law_links_1 e s)
    (env := [some (.d (.tup (t.map plD))), some (.ref s.length), some (.ref (s.length + 1)), none, none, none]) (s := s ++ [.lst [], .lst []])
    (fun i env s1 => (∃ g1 g2 g3, env = [some (.d (.tup (t.map plD))), some (.ref s.length), some (.ref (s.length + 1)), g1, g2, g3]) ∧ s1 = s ++ [.lst ((stk (pre t i)).reverse.map .int), .lst (lnkR (pre t i)).reverse])
    ⟨⟨_, _, _, rfl⟩, rfl⟩ (by
    rintro i dd env s1 hdd ⟨⟨g1, g2, g3, rfl⟩, rfl⟩
    obtain ⟨hi, rfl⟩ := rl_get _ hdd
    refine ⟨rfl, _, rfl, ?_⟩
    have hix := ixD hi
    have wd := pre_wd w (i + 1)
    rw [pre_succ hi] at wd ⊢
    have pl := pre_len (t := t) (i := i) (by omega)
    obtain ⟨w0, w3, w1, w2⟩ := wd
    have sl := stk_len w2
    have hll : (lnkR (pre t i)).length < line := by rw [lnkR_len, pl]; omega
    have hls : (stk (pre t i)).length < line := by have := hgt_le w2; rw [pl] at this; omega
    have hlb : 2 ≤ line := by decide
    unfold b__law_links_1
    rw [lnkR, stk, pl]
    generalize hb : t[i].1 = b at w0 w3 w1
    have hix : L2.atI (t.map plD) (i : Int) = some (.tup [.int b, .str t[i].2]) := by rw [hix, ← hb]; rfl
    generalize pre t i = r at *
    have h20 : ¬ (2 : Int) ≤ 0 := by omega
    have h21 : ¬ (2 : Int) ≤ 1 := by omega
    rcases four w0 w3 with rfl | rfl | rfl | rfl
    · simp [hix, ix0, st0, stj, set0, setj, takj, hll, hls, hlb, lft, rgt, oD, mny]
    · cases hs : stk r with
      | nil => rw [hs] at sl; simp [mny] at w1 sl; omega
      | cons t0 l =>
        rw [hs] at hls
        simp only [List.length_cons] at hls
        have hls' : l.length < line := by omega
        simp [hix, ix0, st0, stj, set0, setj, takj, hll, hls', hlb, lft, rgt, oD, mny, hs]
    · cases hs : stk r with
      | nil => rw [hs] at sl; simp [mny] at w1 sl; omega
      | cons t0 l =>
        rw [hs] at hls
        simp only [List.length_cons] at hls
        have hls' : l.length < line := by omega
        simp [hix, ix0, st0, stj, set0, setj, takj, hll, hls', hlb, lft, rgt, oD, mny, hs]
    · match hs : stk r with
      | [] => rw [hs] at sl; simp [mny] at w1 sl; omega
      | [t0] => rw [hs] at sl; simp [mny] at w1 sl; omega
      | t0 :: t1 :: l =>
        rw [hs] at hls
        simp only [List.length_cons] at hls
        have hls' : l.length < line := by omega
        simp [hix, ix0, st0, stj, set0, setj, takj, hll, hls', hlb, lft, rgt, oD, mny, hs]) (fun _ _ _ => rfl)
  obtain ⟨env', s', h1, ⟨g1, g2, g3, h2⟩, h3⟩ := key
  simp only [rl_len] at h2 h3
  subst h2 h3
  have hr := lenR_ok (Nat.le_of_lt hl)
  rw [pre_all] at h1
  simp [hr, h1, st0, stj, tak0, linksI]
theorem sp_lletter (h : Has Δ "_law_letter" 2 4 b__law_letter) (names marks : Tx) (s : Store) : Φ Δ m (d + 1) "_law_letter" [.d (.str names), .d (.str marks)] s = .ok (.d (.int (val names (fun x => decide (x ∈ marks)) : Nat))) s := by
  rw [h.run rfl]
  unfold b__law_letter
  have key := forL_inv (w := ⟨names.map fun c => D.str [c], none⟩) (n := s.length) (tg := .name 3) (body := fun e s => evSs (cxΔ Δ m d) b__law_letter_1 e s)
    (env := [some (.d (.str names)), some (.d (.str marks)), some (.d (.int 0)), none]) (s := s)
    (fun i e s1 => (∃ (acc : Nat) (g : Option Val), e = [some (.d (.str names)), some (.d (.str marks)), some (.d (.int acc)), g] ∧ acc * 2 ^ (names.length - i) + val (names.drop i) (fun x => decide (x ∈ marks)) = val names (fun x => decide (x ∈ marks))) ∧ s1 = s)
    ⟨⟨0, _, rfl, by simp⟩, rfl⟩ (by
    rintro i dd env s1 hdd ⟨⟨acc, g, rfl, hv⟩, rfl⟩
    obtain ⟨hi, rfl⟩ := strs_get hdd
    refine ⟨rfl, _, rfl, ?_⟩
    rw [List.drop_eq_getElem_cons hi, val, List.length_drop] at hv
    have mk : okMul 2 (acc : Int) = true := okM1 (by omega)
    have e1 : names.length - i = (names.length - (i + 1)) + 1 := by omega
    rw [e1, Nat.pow_succ] at hv
    generalize names[i] = c at hv
    unfold b__law_letter_1
    by_cases q : c ∈ marks
    · rw [if_pos (by simpa using q)] at hv
      simp [mk, q]
      refine ⟨acc * 2 + 1, by omega, ?_⟩
      rw [← hv, Nat.add_mul, Nat.one_mul, Nat.mul_assoc, Nat.mul_comm 2]
      omega
    · rw [if_neg (by simpa using q)] at hv
      simp [mk, q]
      refine ⟨acc * 2, by omega, ?_⟩
      rw [← hv, Nat.mul_assoc, Nat.mul_comm 2]
      omega) (fun _ _ _ => rfl)
  obtain ⟨env', s', h1, ⟨acc, g, h2, hv⟩, h3⟩ := key
  simp only [List.length_map, Nat.sub_self, List.drop_length, Nat.pow_zero, Nat.mul_one, val, Nat.add_zero] at hv
  subst h2 h3
  simp [h1, hv]
end
end Pv

/-! Rooms of a tree, as the program and the law find them. -/
namespace Pv
open PySem
section
variable {Δ : Prog} {m d : Nat}
theorem mach3 (a b e : D) : L2.atI [a, b, e] 0 = some a ∧ L2.atI [a, b, e] 1 = some b ∧ L2.atI [a, b, e] 2 = some e := ⟨rfl, rfl, rfl⟩
theorem sp_rooms_of (h : Has Δ "rooms_of" 2 9 b_rooms_of) (hlt : Has Δ "letter_of" 2 4 b_letter_of) {M : Mach} {c n : Nat} (W : WF M c n) (hn : 1 ≤ n) (t : List Plc) (w : Wd (bi t)) (hl : t.length < line) (s : Store) :
    Φ Δ m (d + 2) "rooms_of" [.d (machD M), .d (.tup (t.map plD))] s = .ok (.d (.tup ((roomsI M t).map .int))) s := by
  have w : Wd (t.map (·.1)).reverse := w
  rw [h.run rfl]
  unfold b_rooms_of machD
  have hle := fun z s => sp_letter_of (m := m) (d := d) hlt M.names z s
  obtain ⟨aa0, _, aa2⟩ := mach3 (.str M.names) (.tup (M.good.map .bl)) (.tup (M.tab.map rowsD))
  have key := forL_inv (w := ⟨t.map plD, none⟩) (n := s.length + 2) (tg := .tup (.cons (.name 4) (.cons (.name 5) .nil))) (body := fun e s => evSs (cxΔ Δ m (d + 1)) b_rooms_of_1 e s)
    (env := [some (.d (.tup [.str M.names, .tup (M.good.map .bl), .tup (M.tab.map rowsD)])), some (.d (.tup (t.map plD))), some (.ref s.length), some (.ref (s.length + 1)), none, none, none, none, none]) (s := s ++ [.lst [], .lst []])
    (fun i env s1 => (∃ g1 g2 g3 g4 g5, env = [some (.d (.tup [.str M.names, .tup (M.good.map .bl), .tup (M.tab.map rowsD)])), some (.d (.tup (t.map plD))), some (.ref s.length), some (.ref (s.length + 1)), g1, g2, g3, g4, g5]) ∧ s1 = s ++ [.lst ((topR M (preP t i)).reverse.map .int), .lst ((rmR M (preP t i)).reverse.map .int)])
    ⟨⟨_, _, _, _, _, rfl⟩, rfl⟩ (by
    rintro i dd env s1 hdd ⟨⟨g1, g2, g3, g4, g5, rfl⟩, rfl⟩
    obtain ⟨hi, hdd⟩ := List.getElem?_eq_some_iff.mp hdd
    have hi : i < t.length := by simpa using hi
    have hdd : plD t[i] = dd := by simpa using hdd
    subst hdd
    refine ⟨rfl, _, rfl, ?_⟩
    have wd := pre_wd w (i + 1)
    rw [pre_succ hi, ← preP_map] at wd
    rw [preP_succ hi]
    have pl := preP_len (t := t) (i := i) (by omega)
    obtain ⟨w0, w3, w1, w2⟩ := wd
    have sl := stk_len w2
    have hrl : (rmR M (preP t i)).length < line := by rw [rmR_len, pl]; omega
    have hls : (stk ((preP t i).map (·.1))).length < line := by have := hgt_le w2; rw [List.length_map, pl] at this; omega
    obtain ⟨v, e1, e2, e3⟩ := topR_cons M t[i] (preP t i) w2
    rw [e1, e3]
    have rin := rmR_in W hn (preP t i)
    obtain ⟨l0, l1⟩ := opR_in (o := lft t[i].1 ((preP t i).map (·.1))) rin hn
    obtain ⟨r0, r1⟩ := opR_in (o := rgt t[i].1 ((preP t i).map (·.1))) rin hn
    obtain ⟨rows, row, a1, a2, a3, _⟩ := room_at W t[i].2 l0 l1 r0 r1
    rw [← e2] at a3
    clear e2 e1 e3 l0 l1 r0 r1
    have hz := hle t[i].2
    unfold topR
    generalize t[i].2 = z at *
    generalize hb : t[i].1 = b at *
    generalize val M.names (fun x => decide (x ∈ z)) = vz at *
    generalize M.tab.map rowsD = T at *
    generalize M.good.map D.bl = G at *
    generalize M.names = names at *
    generalize rmR M (preP t i) = rm at *
    generalize (preP t i).map (·.1) = r at *
    unfold b_rooms_of_1
    rcases four w0 w3 with rfl | rfl | rfl | rfl
    · simp only [lft, rgt, opR] at a2 a3
      simp at a2 a3
      simp [st0, stj, set0, setj, takj, hrl, hls, mny, hz, hlt.has, aa0, aa2, a1, a2, a3]
    · cases hs : stk r with
      | nil => rw [hs] at sl; simp [mny] at w1 sl; omega
      | cons t0 l =>
        rw [hs] at hls
        simp only [List.length_cons] at hls
        have hls' : l.length < line := by omega
        simp [lft, rgt, opR, hs] at a2 a3
        simp [st0, stj, set0, setj, takj, hrl, hls', mny, hz, hlt.has, aa0, aa2, a1, a2, a3]
    · cases hs : stk r with
      | nil => rw [hs] at sl; simp [mny] at w1 sl; omega
      | cons t0 l =>
        rw [hs] at hls
        simp only [List.length_cons] at hls
        have hls' : l.length < line := by omega
        simp [lft, rgt, opR, hs] at a2 a3
        simp [st0, stj, set0, setj, takj, hrl, hls', mny, hz, hlt.has, aa0, aa2, a1, a2, a3]
    · match hs : stk r with
      | [] => rw [hs] at sl; simp [mny] at w1 sl; omega
      | [t0] => rw [hs] at sl; simp [mny] at w1 sl; omega
      | t0 :: t1 :: l =>
        rw [hs] at hls
        simp only [List.length_cons] at hls
        have hls' : l.length < line := by omega
        simp [lft, rgt, opR, hs] at a2 a3
        simp [st0, stj, set0, setj, takj, hrl, hls', mny, hz, hlt.has, aa0, aa2, a1, a2, a3]) (fun _ _ _ => rfl)
  obtain ⟨env', s', h1, ⟨g1, g2, g3, g4, g5, h2⟩, h3⟩ := key
  simp only [List.length_map] at h2 h3
  subst h2 h3
  rw [preP_all] at h1
  simp [h1, st0, stj, tak0, roomsI]
theorem lets_len {M : Mach} {t : List Plc} (h : t ≠ []) : ∃ x, (roomsI M t).getLast? = some x := by
  cases e : (roomsI M t).getLast? with
  | none =>
    rw [List.getLast?_eq_none_iff] at e
    have := roomsI_len M t
    rw [e] at this
    exact absurd (List.eq_nil_of_length_eq_zero this.symm) h
  | some x => exact ⟨x, rfl⟩
end
end Pv

/-! Rooms of a tree: the law's check of them. -/
namespace Pv
open PySem
theorem ixN_neg1 {n : Nat} (h : 0 < n) : L2.ixN n (-1) = some (n - 1) := by
  unfold L2.ixN
  rw [if_neg (by omega), if_pos (by omega)]
  congr 1
  omega
theorem atI_last {α : Type} {xs : List α} (h : xs ≠ []) : L2.atI xs (-1) = xs.getLast? := by
  unfold L2.atI
  rw [ixN_neg1 (List.length_pos_iff.mpr h), List.getLast?_eq_getElem?]
  rfl
/-- the signs of a text that a test lets by -/
theorem lc_sgnf {j : Nat} {test : Env → Store → R Bool} {elt : Env → Store → R Val} {env : Env} {s : Store} (p : Nat → Bool) (z : Tx) (hn : z.length ≤ line) (ht : ∀ c ∈ z, test (env.set j (some (.d (.str [c])))) s = .ok (p c) s)
    (h : ∀ c ∈ z, elt (env.set j (some (.d (.str [c])))) s = .ok (.d (.str [c])) s) :
    lcL ⟨z.map fun c => .str [c], none⟩ (.name j) test elt env (z.map fun c => .str [c]) [] s = .ok (((z.filter p).map fun c => ([c] : Tx)).map .str) s := by
  have key := lcL_map (w := ⟨z.map fun c => .str [c], none⟩) (tg := .name j) (test := test) (elt := elt) (env := env) (s := s) (fun d => match d with | .str [c] => p c | _ => false) (fun d => d)
    (z.map fun c => .str [c]) [] rfl (by rw [List.length_map]; simpa using hn) (by
      intro x hx
      obtain ⟨c, hc, rfl⟩ := List.mem_map.mp hx
      exact ⟨_, rfl, ht c hc, fun _ => ⟨_, h c hc, rfl⟩⟩)
  rw [key, List.nil_append, List.map_id', List.filter_map, List.map_map]
  rfl
/-- a comprehension over places -/
theorem lc_plc {i j : Nat} {test : Env → Store → R Bool} {elt : Env → Store → R Val} {env : Env} {s : Store} (g : Plc → D) (t : List Plc) (hn : t.length ≤ line) (ht : ∀ e, test e s = .ok true s)
    (h : ∀ x ∈ t, elt ((env.set i (some (.d (.int x.1)))).set j (some (.d (.str x.2)))) s = .ok (.d (g x)) s) :
    lcL ⟨t.map plD, none⟩ (.tup (.cons (.name i) (.cons (.name j) .nil))) test elt env (t.map plD) [] s = .ok (t.map g) s := by
  have key := lcL_map (w := ⟨t.map plD, none⟩) (tg := .tup (.cons (.name i) (.cons (.name j) .nil))) (test := test) (elt := elt) (env := env) (s := s) (fun _ => true) (fun d => match d with | .tup [.int b, .str z] => g (b, z) | _ => .non)
    (t.map plD) [] rfl (by rw [List.length_map]; simpa using hn) (by
      intro x hx
      obtain ⟨y, hy, rfl⟩ := List.mem_map.mp hx
      exact ⟨_, rfl, ht _, fun _ => ⟨_, h y hy, rfl⟩⟩)
  rw [key, List.nil_append, List.filter_eq_self.mpr (fun _ _ => rfl), List.map_map]
  rfl
def bareI (names : Tx) (t : List Plc) : List Plc := t.map fun x => (x.1, x.2.filter fun c => decide (c ∈ names))
theorem bareI_len (names : Tx) (t : List Plc) : (bareI names t).length = t.length := List.length_map _
theorem bareI_bi (names : Tx) (t : List Plc) : bi (bareI names t) = bi t := by
  unfold bi bareI
  rw [List.map_map]
  rfl
theorem roomV_bare (M : Mach) (z : Tx) (l r : Int) : roomV M (z.filter fun c => decide (c ∈ M.names)) l r = roomV M z l r := by
  unfold roomV
  rw [val_congr (Q := fun x => decide (x ∈ z)) fun x hx => by
    simp [List.mem_filter, hx]]
theorem rmR_bare (M : Mach) : ∀ r : List Plc, rmR M (r.map fun x => (x.1, x.2.filter fun c => decide (c ∈ M.names))) = rmR M r
  | [] => rfl
  | x :: r => by
    have e : (r.map fun x : Plc => (x.1, x.2.filter fun c => decide (c ∈ M.names))).map (·.1) = r.map (·.1) := by
      rw [List.map_map]
      rfl
    rw [List.map_cons, rmR, rmR, rmR_bare M r, e, roomV_bare]
theorem roomsI_bare (M : Mach) (t : List Plc) : roomsI M (bareI M.names t) = roomsI M t := by
  unfold roomsI bareI
  rw [← List.map_reverse, rmR_bare]
/-- the room of the top -/
def topI (M : Mach) (t : List Plc) : Int := ((roomsI M t).getLast?).getD 0
def letsI (M : Mach) (t : List Plc) : Bool := M.good.getD (topI M t).toNat false
theorem roomsI_in {M : Mach} {c n : Nat} (W : WF M c n) (hn : 1 ≤ n) (t : List Plc) : ∀ x ∈ roomsI M t, 0 ≤ x ∧ x < (n : Int) := fun x hx => rmR_in W hn _ x (List.mem_reverse.mp hx)
theorem topI_in {M : Mach} {c n : Nat} (W : WF M c n) (hn : 1 ≤ n) (t : List Plc) : 0 ≤ topI M t ∧ topI M t < (n : Int) := by
  unfold topI
  cases e : (roomsI M t).getLast? with
  | none => exact ⟨Int.le_refl _, by show (0 : Int) < _; omega⟩
  | some x => exact roomsI_in W hn t x (List.mem_of_getLast? e)
theorem roomsI_nil (M : Mach) : roomsI M [] = [] := rfl
theorem last_map {l : List Int} (h : l ≠ []) : L2.atI (l.map D.int) (-1) = some (.int (l.getLast?.getD 0)) := by
  rw [atI_last (by simpa using h), List.getLast?_map]
  cases e : l.getLast? with
  | none => exact absurd (List.getLast?_eq_none_iff.mp e) h
  | some x => rfl
theorem good_at {M : Mach} {c n : Nat} (W : WF M c n) {i : Int} (h0 : 0 ≤ i) (h1 : i < n) : L2.atI (M.good.map D.bl) i = some (.bl (M.good.getD i.toNat false)) := by
  have := map_getD D.bl (z := false) (l := M.good) (i := i.toNat) (by rw [W.gl]; omega)
  rw [show ((i.toNat : Nat) : Int) = i by omega] at this
  exact this
section
variable {Δ : Prog} {m d : Nat}
theorem sp_lets (h : Has Δ "lets_by" 2 3 b_lets_by) (hr : Has Δ "rooms_of" 2 9 b_rooms_of) (hlt : Has Δ "letter_of" 2 4 b_letter_of) {M : Mach} {c n : Nat} (W : WF M c n) (hn : 1 ≤ n) (t : List Plc) (w : Wd (bi t)) (hl : t.length < line) (s : Store) :
    Φ Δ m (d + 3) "lets_by" [.d (machD M), .d (.tup (t.map plD))] s = .ok (.d (.bl (letsI M t))) s := by
  rw [h.run rfl]
  have rr := fun s => sp_rooms_of (m := m) (d := d) hr hlt W hn t w hl s
  unfold b_lets_by
  obtain ⟨_, aa1, _⟩ := mach3 (.str M.names) (.tup (M.good.map .bl)) (.tup (M.tab.map rowsD))
  obtain ⟨t0, t1⟩ := topI_in W hn t
  have gt := good_at W t0 t1
  have rl := roomsI_len M t
  unfold letsI
  have ln := fun q => last_map (l := roomsI M t) q
  unfold topI at *
  unfold machD at *
  generalize M.good.getD ((roomsI M t).getLast?.getD 0).toNat false = b at *
  generalize M.good.map D.bl = G at *
  cases q : roomsI M t with
  | nil =>
    rw [q] at rr gt
    simp at gt
    simp [rr, hr.has, aa1, gt]
  | cons x r =>
    rw [q] at rr gt ln rl
    have ln := ln (by simp)
    generalize (x :: r).getLast?.getD 0 = y at *
    have hl2 : ((x :: r).map D.int).length ≤ line := by rw [List.length_map, rl]; omega
    have hl3 : ((x :: r).map D.int).length ≠ 0 := by simp
    generalize (x :: r).map D.int = RR at *
    simp [rr, hr.has, aa1, gt, ln, hl2, hl3]
theorem sp_bare (h : Has Δ "_law_bare" 2 5 b__law_bare) (names : Tx) (t : List Plc) (hl : t.length ≤ line) (hz : ∀ x ∈ t, x.2.length ≤ 60) (s : Store) :
    Φ Δ m (d + 1) "_law_bare" [.d (.tup (t.map plD)), .d (.str names)] s = .ok (.d (.tup ((bareI names t).map plD))) s := by
  rw [h.run rfl]
  unfold b__law_bare
  have inner := fun (z : Tx) (hz : z.length ≤ 60) (env : Env) (e1 : env[1]? = some (some (.d (.str names)))) (hlen : env.length = 5) => lc_sgnf (j := 4) (test := fun e s => evC (cxΔ Δ m d) y__law_bare_1 e s) (elt := fun e s => evE (cxΔ Δ m d) x__law_bare_1 e s) (env := env) (s := s)
    (fun c => decide (c ∈ names)) z (by show _ ≤ 16777216; omega) (fun c hc => by
      unfold y__law_bare_1
      have g4 : (env.set 4 (some (.d (.str [c]))))[4]? = some (some (.d (.str [c]))) := by rw [List.getElem?_set_self (by omega)]
      have g1 : (env.set 4 (some (.d (.str [c]))))[1]? = some (some (.d (.str names))) := by rw [List.getElem?_set_ne (by decide), e1]
      by_cases q : c ∈ names
      · simp [g4, g1, q]
      · simp [g4, g1, q]) (fun c hc => by
      unfold x__law_bare_1
      have g4 : (env.set 4 (some (.d (.str [c]))))[4]? = some (some (.d (.str [c]))) := by rw [List.getElem?_set_self (by omega)]
      simp [g4])
  have outer := lc_plc (i := 2) (j := 3) (test := fun e s => evC (cxΔ Δ m d) y__law_bare_3 e s) (elt := fun e s => evE (cxΔ Δ m d) x__law_bare_3 e s) (env := [some (.d (.tup (t.map plD))), some (.d (.str names)), none, none, none]) (s := s)
    (fun x => plD (x.1, x.2.filter fun c => decide (c ∈ names))) t hl (fun e => by unfold y__law_bare_3; simp) (fun x hx => by
      unfold x__law_bare_3
      obtain ⟨b, z⟩ := x
      have hz := hz _ hx
      have i1 := inner z hz [some (.d (.tup (t.map plD))), some (.d (.str names)), some (.d (.int b)), some (.d (.str z)), none] rfl rfl
      have fl : (z.filter fun c => decide (c ∈ names)).length ≤ 60 := Nat.le_trans (List.length_filter_le _ _) hz
      have jr := joinR s [] ((z.filter fun c => decide (c ∈ names)).map fun c => ([c] : Tx)) (by rw [ones_sum]; simp only [List.length_nil, Nat.mul_zero]; show _ ≤ 16777216; omega)
      rw [join_one] at jr
      have l2 : (2 : Nat) ≤ line := by decide
      generalize t.map plD = TT at *
      unfold plD
      generalize ((z.filter fun c => decide (c ∈ names)).map fun c => ([c] : Tx)).map D.str = P at *
      simp [i1, jr, l2])
  have ol : (t.map fun x => plD (x.1, x.2.filter fun c => decide (c ∈ names))).length ≤ line := by rw [List.length_map]; exact hl
  have eB : (bareI names t).map plD = t.map fun x => plD (x.1, x.2.filter fun c => decide (c ∈ names)) := by
    unfold bareI
    rw [List.map_map]
    rfl
  rw [eB]
  generalize t.map plD = TT at *
  have we : wipeE [some (.d (.tup TT)), some (.d (.str names)), none, none, none] (slotsT (.tup (.cons (.name 2) (.cons (.name 3) .nil)))) = [some (.d (.tup TT)), some (.d (.str names)), none, none, none] := rfl
  simp [outer, ol, we]
end
theorem rm_at {M : Mach} (x : Plc) (r : List Plc) : ∀ p : List Plc, (rmR M (p ++ x :: r)).reverse[r.length]? = some (roomV M x.2 (opR (lft x.1 (r.map (·.1))) (rmR M r)) (opR (rgt x.1 (r.map (·.1))) (rmR M r))) ∧ ∀ q : Nat, q < r.length → (rmR M (p ++ x :: r)).reverse[q]? = (rmR M r).reverse[q]?
  | [] => by
    rw [List.nil_append, rmR, List.reverse_cons]
    refine ⟨?_, fun q hq => ?_⟩
    · rw [List.getElem?_append_right (by rw [List.length_reverse, rmR_len]; exact Nat.le_refl _), List.length_reverse, rmR_len, Nat.sub_self]
      rfl
    · rw [List.getElem?_append_left (by rw [List.length_reverse, rmR_len]; exact hq)]
  | y :: p => by
    obtain ⟨h1, h2⟩ := rm_at x r p
    have ll : (rmR M (p ++ x :: r)).reverse.length = p.length + r.length + 1 := by rw [List.length_reverse, rmR_len, List.length_append, List.length_cons]; omega
    rw [List.cons_append, rmR, List.reverse_cons]
    refine ⟨?_, fun q hq => ?_⟩
    · rw [List.getElem?_append_left (by rw [ll]; omega)]
      exact h1
    · rw [List.getElem?_append_left (by rw [ll]; omega)]
      exact h2 q hq
theorem preP_split {t : List Plc} {i : Nat} (h : i < t.length) : ∃ p, t.reverse = p ++ t[i] :: preP t i := by
  refine ⟨(t.drop (i + 1)).reverse, ?_⟩
  rw [← preP_succ h]
  unfold preP
  rw [← List.reverse_append, List.take_append_drop]
theorem rooms_at {M : Mach} {t : List Plc} {i : Nat} (h : i < t.length) : L2.atI ((roomsI M t).map D.int) (i : Int) = some (.int (roomV M t[i].2 (opR (lft t[i].1 (pre t i)) (rmR M (preP t i))) (opR (rgt t[i].1 (pre t i)) (rmR M (preP t i))))) ∧
    ∀ q : Int, 0 ≤ q → q < (i : Int) → L2.atI ((roomsI M t).map D.int) q = some (.int (atR (rmR M (preP t i)) q)) := by
  obtain ⟨p, e⟩ := preP_split h
  obtain ⟨h1, h2⟩ := rm_at (M := M) t[i] (preP t i) p
  rw [preP_len (by omega)] at h1 h2
  rw [preP_map] at h1
  have rl := roomsI_len M t
  refine ⟨?_, fun q q0 q1 => ?_⟩
  · rw [atI_nat (by rw [List.length_map, rl]; exact h), List.getElem?_map]
    unfold roomsI
    rw [e, h1]
    rfl
  · rw [atI_pos q0 (by rw [List.length_map, rl]; omega), List.getElem?_map]
    unfold roomsI
    rw [e, h2 q.toNat (by omega)]
    have : q.toNat < (rmR M (preP t i)).reverse.length := by rw [List.length_reverse, rmR_len, preP_len (by omega)]; omega
    unfold atR
    rw [List.getElem?_eq_getElem this]
    rfl
section
variable {Δ : Prog} {m d : Nat}
theorem sp_lrooms (h : Has Δ "_law_rooms" 3 7 b__law_rooms) (hL : Has Δ "_law_links" 1 6 b__law_links) (hlt : Has Δ "_law_letter" 2 4 b__law_letter) (hs : Has Δ "_law_same" 2 3 b__law_same) {M : Mach} {c n : Nat} (W : WF M c n) (hn : 1 ≤ n) (t : List Plc) (w : Wd (bi t)) (hl : t.length < line) (s : Store) :
    Φ Δ m (d + 2) "_law_rooms" [.d (machD M), .d (.tup (t.map plD)), .d (.tup ((roomsI M t).map .int))] s = .ok (.d (.bl true)) s := by
  have w' : Wd (t.map (·.1)).reverse := w
  rw [h.run rfl]
  unfold b__law_rooms
  have hlk := sp_llinks (m := m) (d := d) hL t w hl s
  have hle := fun z s => sp_lletter (m := m) (d := d) hlt M.names z s
  have hsm := fun (i : Int) s => sp_same (m := m) (d := d) hs 1 (.int i) s trivial
  obtain ⟨aa0, _, aa2⟩ := mach3 (.str M.names) (.tup (M.good.map .bl)) (.tup (M.tab.map rowsD))
  have key := forL_inv (w := ⟨rangeL 0 t.length, none⟩) (n := s.length) (tg := .name 4) (body := fun e s => evSs (cxΔ Δ m (d + 1)) b__law_rooms_1 e s)
    (env := [some (.d (machD M)), some (.d (.tup (t.map plD))), some (.d (.tup ((roomsI M t).map .int))), some (.d (.lst (linksI t))), none, none, none]) (s := s)
    (fun i env s1 => (∃ g1 g2 g3, env = [some (.d (machD M)), some (.d (.tup (t.map plD))), some (.d (.tup ((roomsI M t).map .int))), some (.d (.lst (linksI t))), g1, g2, g3]) ∧ s1 = s)
    ⟨⟨_, _, _, rfl⟩, rfl⟩ (by
    rintro i dd env s1 hdd ⟨⟨g1, g2, g3, rfl⟩, es⟩
    subst s1
    obtain ⟨hi, rfl⟩ := rl_get _ hdd
    refine ⟨rfl, _, rfl, ?_⟩
    rw [Int.zero_add]
    have hix := ixD hi
    have hli := atI_nat (l := linksI t) (k := i) (by rw [linksI_len]; exact hi)
    rw [linksI_at hi] at hli
    obtain ⟨r1, r2⟩ := rooms_at (M := M) hi
    have wp := pre_wd w' i
    have pl := pre_len (t := t) (i := i) (by omega)
    have rin := rmR_in W hn (preP t i)
    obtain ⟨l0, l1⟩ := opR_in (o := lft t[i].1 (pre t i)) rin hn
    obtain ⟨o0, o1⟩ := opR_in (o := rgt t[i].1 (pre t i)) rin hn
    obtain ⟨rows, row, a1, a2, a3, _⟩ := room_at W t[i].2 l0 l1 o0 o1
    have hz := hle t[i].2 s
    have hix : L2.atI (t.map plD) (i : Int) = some (.tup [.int t[i].1, .str t[i].2]) := hix
    have lin := fun p (h : lft t[i].1 (pre t i) = some p) => lft_in wp h
    have rin2 := fun p (h : rgt t[i].1 (pre t i) = some p) => rgt_in wp h
    clear l0 l1 o0 o1
    generalize roomV M t[i].2 (opR (lft t[i].1 (pre t i)) (rmR M (preP t i))) (opR (rgt t[i].1 (pre t i)) (rmR M (preP t i))) = v at *
    generalize t[i].2 = z at *
    generalize t[i].1 = b at *
    generalize val M.names (fun x => decide (x ∈ z)) = vz at *
    unfold machD
    generalize M.tab.map rowsD = T at *
    generalize M.good.map D.bl = G at *
    generalize M.names = names at *
    generalize rmR M (preP t i) = rm at *
    generalize pre t i = r at *
    generalize (roomsI M t).map D.int = RR at *
    generalize linksI t = LL at *
    unfold b__law_rooms_1
    cases hL' : lft b r with
    | none =>
      cases hR' : rgt b r with
      | none =>
        rw [hL', hR'] at hli
        simp [hL', hR', opR] at a2 a3
        simp [oD] at hli
        simp [hli, ix0, ix1, hix, r1, hz, hlt.has, aa0, aa2, a1, a2, a3, hsm, hs.has]
      | some p =>
        obtain ⟨p0, p1⟩ := rin2 _ hR'
        have rp := r2 p p0 (by omega)
        rw [hL', hR'] at hli
        simp [hL', hR', opR] at a2 a3
        simp [oD] at hli
        simp [hli, ix0, ix1, hix, r1, rp, hz, hlt.has, aa0, aa2, a1, a2, a3, hsm, hs.has]
    | some q =>
      obtain ⟨q0, q1⟩ := lin _ hL'
      have rq := r2 q q0 (by omega)
      cases hR' : rgt b r with
      | none =>
        rw [hL', hR'] at hli
        simp [hL', hR', opR] at a2 a3
        simp [oD] at hli
        simp [hli, ix0, ix1, hix, r1, rq, hz, hlt.has, aa0, aa2, a1, a2, a3, hsm, hs.has]
      | some p =>
        obtain ⟨p0, p1⟩ := rin2 _ hR'
        have rp := r2 p p0 (by omega)
        rw [hL', hR'] at hli
        simp [hL', hR', opR] at a2 a3
        simp [oD] at hli
        simp [hli, ix0, ix1, hix, r1, rp, rq, hz, hlt.has, aa0, aa2, a1, a2, a3, hsm, hs.has]) (fun _ _ _ => rfl)
  obtain ⟨env', s', h1, ⟨g1, g2, g3, h2⟩, h3⟩ := key
  simp only [rl_len] at h1
  subst h2 h3
  have hr := lenR_ok (Nat.le_of_lt hl)
  have rl : ((roomsI M t).map D.int).length = t.length := by rw [List.length_map, roomsI_len]
  have tl : (t.map plD).length = t.length := List.length_map _
  have hll : t.length ≤ line := Nat.le_of_lt hl
  generalize (roomsI M t).map D.int = RR at *
  generalize t.map plD = TT at *
  generalize machD M = MD at *
  generalize linksI t = LL at *
  simp [hr, rl, tl, hll, hlk, hL.has, h1]
end
end Pv

/-! Fillings of a tree: words and rooms, in order (plain Lean). -/
namespace Pv
open PySem
theorem tt_stk (T : TT) {R : List Int} (w : Wd R) : stk (bi (fl T) ++ R) = if T.isE = true then stk R else (((fl T).length : Int) + (R.length : Int) - 1) :: stk R := (tt_sz T w).2
theorem tt_wd1 (T : TT) {R : List Int} (w : Wd R) : Wd (bi (fl T) ++ R) := (tt_wd T w).1
/-! ### fillings of a tree: words and rooms, in order -/
section
variable (W : Nat) (n : Nat) (st : Tx → Nat → Int → Int → Int)
/-- a step stays among the rooms -/
def Stp : Prop := ∀ z w a b, w < W → 0 ≤ a → a < (n : Int) → 0 ≤ b → b < (n : Int) → 0 ≤ st z w a b ∧ st z w a b < (n : Int)
def Fl : TT → List (List Nat × Int)
  | .e => [([], 0)]
  | .n l r z => (Fl l).flatMap fun a => (Fl r).flatMap fun b => (List.range W).map fun w => (a.1 ++ b.1 ++ [w], st z w a.2 b.2)
variable {W n st}
theorem Fl_in (h : Stp W n st) (hn : 1 ≤ n) : ∀ T : TT, ∀ y ∈ Fl W st T, 0 ≤ y.2 ∧ y.2 < (n : Int)
  | .e, y, hy => by
    rw [Fl] at hy
    rw [List.mem_singleton.mp hy]
    exact ⟨Int.le_refl _, by show (0 : Int) < _; omega⟩
  | .n l r z, y, hy => by
    rw [Fl] at hy
    obtain ⟨a, ha, hy⟩ := List.mem_flatMap.mp hy
    obtain ⟨b, hb, hy⟩ := List.mem_flatMap.mp hy
    obtain ⟨w, hw, rfl⟩ := List.mem_map.mp hy
    obtain ⟨a0, a1⟩ := Fl_in h hn l a ha
    obtain ⟨b0, b1⟩ := Fl_in h hn r b hb
    exact h z w a.2 b.2 (List.mem_range.mp hw) a0 a1 b0 b1
theorem Fl_words : ∀ T : TT, (Fl W st T).map (·.1) = words W (fl T).length
  | .e => rfl
  | .n l r z => by
    rw [fl_len, words, words_app, ← Fl_words l, ← Fl_words r, Fl]
    simp [List.map_flatMap, List.flatMap_map, List.flatMap_assoc, Function.comp_def]
theorem words_len (W : Nat) : ∀ k, (words W k).length = W ^ k
  | 0 => rfl
  | k + 1 => by
    have e : ∀ L : List (List Nat), (L.flatMap fun a => (List.range W).map fun w => a ++ [w]).length = L.length * W := by
      intro L
      induction L with
      | nil => simp
      | cons x L ih => rw [List.flatMap_cons, List.length_append, ih, List.length_map, List.length_range, List.length_cons, Nat.succ_mul]; omega
    rw [words, e, words_len W k, Nat.pow_succ]
theorem Fl_len (T : TT) : (Fl W st T).length = W ^ (fl T).length := by
  rw [← words_len, ← Fl_words (st := st) T, List.length_map]
theorem Fl_ix (hW : 0 < W) (T : TT) {i : Nat} {y : List Nat × Int} (h : (Fl W st T)[i]? = some y) : i < W ^ (fl T).length ∧ y.1 = dig W (fl T).length i := by
  obtain ⟨hi, rfl⟩ := List.getElem?_eq_some_iff.mp h
  rw [Fl_len] at hi
  refine ⟨hi, ?_⟩
  have e : ((Fl W st T).map (·.1))[i]? = some ((dig W (fl T).length i)) := by
    rw [Fl_words, words_dig hW, List.getElem?_map, List.getElem?_range hi]
    rfl
  rw [List.getElem?_map, h] at e
  exact Option.some.inj e
/-- of the numbers of rooms: how many ways of a place lead there -/
def waysI (W : Nat) (st : Tx → Nat → Int → Int → Int) (z : Tx) (a b x : Int) : Int := tot (fun w => if st z w a b = x then 1 else 0) (List.range W)
theorem cnt_n (h : Stp W n st) (hn : 1 ≤ n) (l r : TT) (z : Tx) (x : Int) : cntI (Fl W st (.n l r z)) x =
    tot (fun a : Nat => tot (fun b : Nat => cntI (Fl W st l) a * cntI (Fl W st r) b * waysI W st z a b x) (List.range n)) (List.range n) := by
  unfold cntI
  rw [Fl, tot_flat]
  rw [tot_congr (h := fun a => (fun i : Int => tot (fun b : Nat => cntI (Fl W st r) b * waysI W st z i b x) (List.range n)) a.2) fun a ha => by
    rw [tot_flat]
    rw [tot_congr (h := fun b => (fun j : Int => waysI W st z a.2 j x) b.2) fun b hb => by
      rw [tot_map]; rfl]
    exact tot_cnt (fun j : Int => waysI W st z a.2 j x) (Fl_in h hn r)]
  rw [tot_cnt (fun i : Int => tot (fun b : Nat => cntI (Fl W st r) b * waysI W st z i b x) (List.range n)) (Fl_in h hn l)]
  refine tot_congr fun a _ => ?_
  rw [← tot_mul]
  refine tot_congr fun b _ => ?_
  rw [← Int.mul_assoc]
  rfl
theorem waysI_nn (z : Tx) (a b x : Int) : 0 ≤ waysI W st z a b x := tot_nn fun w _ => by split <;> decide
theorem cnt_e (x : Int) : cntI (Fl W st .e) x = if x = 0 then 1 else 0 := by
  unfold cntI
  rw [Fl, tot, tot, Int.add_zero]
  by_cases q : x = 0
  · rw [if_pos q, if_pos q.symm]
  · rw [if_neg q, if_neg (fun h => q h.symm)]
/-- what the ways of a place take -/
def topsI (W : Nat) (st : Tx → Nat → Int → Int → Int) (tk : Int → Int) (z : Tx) (a b : Int) : Int := tot (fun w => tk (st z w a b)) (List.range W)
/-- what a filling of the left branch takes -/
def leftsI (W n : Nat) (st : Tx → Nat → Int → Int → Int) (tk : Int → Int) (r : TT) (z : Tx) (a : Int) : Int := tot (fun b : Nat => cntI (Fl W st r) b * topsI W st tk z a b) (List.range n)
theorem lefts_eq (h : Stp W n st) (hn : 1 ≤ n) (tk : Int → Int) (r : TT) (z : Tx) (a : Int) : leftsI W n st tk r z a = tot (fun b => topsI W st tk z a b.2) (Fl W st r) :=
  (tot_cnt (fun j => topsI W st tk z a j) (Fl_in h hn r)).symm
theorem Fl_ah (h : Stp W n st) (hn : 1 ≤ n) (tk : Int → Int) {l r : TT} {z : Tx} {a b : List Nat × Int} {w : Nat} {s u v : Int} (hw : w < W)
    (h1 : Ah (fun y => leftsI W n st tk r z y.2) (Fl W st l) a s) (h2 : Ah (fun y => topsI W st tk z a.2 y.2) (Fl W st r) b u) (hv : v = tot (fun w => tk (st z w a.2 b.2)) (List.range w)) :
    Ah (fun y => tk y.2) (Fl W st (.n l r z)) (a.1 ++ b.1 ++ [w], st z w a.2 b.2) (s + (u + v)) := by
  rw [Fl]
  have e1 : ∀ b' : List Nat × Int, tot (fun y : List Nat × Int => tk y.2) ((List.range W).map fun w => (a.1 ++ b'.1 ++ [w], st z w a.2 b'.2)) = topsI W st tk z a.2 b'.2 := fun b' => by rw [tot_map]; rfl
  refine ah_flat (ah_congr (fun a' _ => ?_) h1) ?_
  · rw [tot_flat, lefts_eq h hn]
    refine tot_congr fun b' _ => ?_
    rw [tot_map]
    rfl
  · refine ah_flat (ah_congr (fun b' _ => (e1 b').symm) h2) ?_
    subst hv
    exact ah_map (a := w) (ah_range hw)
theorem tk_tot (h : Stp W n st) (hn : 1 ≤ n) (tk : Int → Int) (l r : TT) (z : Tx) : tot (fun y => tk y.2) (Fl W st (.n l r z)) = tot (fun y => leftsI W n st tk r z y.2) (Fl W st l) := by
  rw [Fl, tot_flat]
  refine tot_congr fun a _ => ?_
  rw [tot_flat, lefts_eq h hn]
  refine tot_congr fun b' _ => ?_
  rw [tot_map]
  rfl
/-! ### bounds -/
theorem tot_le {α : Type} {g : α → Int} {B : Int} : ∀ {l : List α}, (∀ x ∈ l, g x ≤ B) → tot g l ≤ (l.length : Int) * B
  | [], _ => by simp [tot]
  | x :: l, h => by
    have := tot_le fun y hy => h y (List.mem_cons_of_mem x hy)
    have := h x List.mem_cons_self
    rw [tot, List.length_cons, Int.natCast_succ, Int.add_mul, Int.one_mul]
    omega
theorem cnt_le (T : TT) (x : Int) : cntI (Fl W st T) x ≤ (W : Int) ^ (fl T).length := by
  have := tot_le (B := 1) (g := fun y : List Nat × Int => if y.2 = x then 1 else 0) (l := Fl W st T) fun y _ => by
    show (if y.2 = x then 1 else 0) ≤ _
    split <;> decide
  rw [Fl_len, Int.mul_one, Int.natCast_pow] at this
  exact this
theorem tops_bd (h : Stp W n st) {tk : Int → Int} {B : Int} (ht : ∀ x, 0 ≤ x → x < (n : Int) → 0 ≤ tk x ∧ tk x ≤ B) {z : Tx} {a b : Int} (a0 : 0 ≤ a) (a1 : a < n) (b0 : 0 ≤ b) (b1 : b < n) : 0 ≤ topsI W st tk z a b ∧ topsI W st tk z a b ≤ B * W := by
  have k : ∀ w ∈ List.range W, 0 ≤ tk (st z w a b) ∧ tk (st z w a b) ≤ B := fun w hw => by
    obtain ⟨x0, x1⟩ := h z w a b (List.mem_range.mp hw) a0 a1 b0 b1
    exact ht _ x0 x1
  refine ⟨tot_nn fun w hw => (k w hw).1, ?_⟩
  have := tot_le (B := B) fun w hw => (k w hw).2
  rw [List.length_range, Int.mul_comm] at this
  exact this
theorem lefts_bd (h : Stp W n st) (hn : 1 ≤ n) {tk : Int → Int} {B : Int} (ht : ∀ x, 0 ≤ x → x < (n : Int) → 0 ≤ tk x ∧ tk x ≤ B) {r : TT} {z : Tx} {a : Int} (a0 : 0 ≤ a) (a1 : a < n) : 0 ≤ leftsI W n st tk r z a ∧ leftsI W n st tk r z a ≤ B * W ^ ((fl r).length + 1) := by
  rw [lefts_eq h hn]
  have k : ∀ y ∈ Fl W st r, 0 ≤ topsI W st tk z a y.2 ∧ topsI W st tk z a y.2 ≤ B * W := fun y hy => by
    obtain ⟨b0, b1⟩ := Fl_in h hn r y hy
    exact tops_bd h ht a0 a1 b0 b1
  refine ⟨tot_nn fun y hy => (k y hy).1, ?_⟩
  have := tot_le (B := B * W) fun y hy => (k y hy).2
  rw [Fl_len, Int.natCast_pow] at this
  rw [Int.pow_succ]
  rw [show B * ((W : Int) ^ (fl r).length * W) = (W : Int) ^ (fl r).length * (B * W) by rw [← Int.mul_assoc, Int.mul_comm B, Int.mul_assoc]]
  exact this
end
/-! ### what is reckoned from below, place by place -/
theorem lr_tt (l r : TT) {R : List Int} (w : Wd R) : lft (brn l r) (bi (fl r) ++ (bi (fl l) ++ R)) = (if l.isE = true then none else some (((fl l).length : Int) + (R.length : Int) - 1)) ∧
    rgt (brn l r) (bi (fl r) ++ (bi (fl l) ++ R)) = (if r.isE = true then none else some (((fl r).length : Int) + (((fl l).length : Int) + (R.length : Int)) - 1)) := by
  have w1 := tt_wd1 l w
  have t1 := tt_stk l w
  have t2 := tt_stk r w1
  have ll : ((bi (fl l) ++ R).length : Int) = (fl l).length + R.length := by rw [List.length_append, bi_len]; omega
  rw [ll, t1] at t2
  unfold lft rgt
  rw [t2]
  rcases brn_cases l r with ⟨a, b, c⟩ | ⟨a, b, c⟩ | ⟨a, b, c⟩ | ⟨a, b, c⟩ <;> simp [a, b, c]
section
variable {α : Type} (g : Plc → α → α → α) (z0 : α)
def opG (o : Option Int) (l : List α) : α := match o with
  | some p => (l.reverse[p.toNat]?).getD z0
  | none => z0
def stG : List Plc → List α
  | [] => []
  | x :: r => g x (opG z0 (lft x.1 (r.map (·.1))) (stG r)) (opG z0 (rgt x.1 (r.map (·.1))) (stG r)) :: stG r
def toG : TT → α
  | .e => z0
  | .n l r z => g (brn l r, z) (toG l) (toG r)
def alG : TT → List α
  | .e => []
  | .n l r z => alG l ++ alG r ++ [toG g z0 (.n l r z)]
theorem alG_len : ∀ T : TT, (alG g z0 T).length = (fl T).length
  | .e => rfl
  | .n l r z => by rw [alG, fl, List.length_append, List.length_append, List.length_append, List.length_append, alG_len l, alG_len r]; rfl
theorem stG_len : ∀ q : List Plc, (stG g z0 q).length = q.length
  | [] => rfl
  | x :: q => by rw [stG, List.length_cons, List.length_cons, stG_len q]
theorem alG_top {T : TT} (h : T.isE = false) (Y Z : List α) {p : Nat} (hp : p + 1 = Y.length + (fl T).length) : (Y ++ alG g z0 T ++ Z)[p]? = some (toG g z0 T) := by
  cases T with
  | e => cases h
  | n l r z =>
    rw [fl_len] at hp
    rw [alG, ← List.append_assoc, List.append_assoc (Y ++ (alG g z0 l ++ alG g z0 r)), List.getElem?_append_right (by rw [List.length_append, List.length_append, alG_len, alG_len]; omega)]
    rw [show p - (Y ++ (alG g z0 l ++ alG g z0 r)).length = 0 by rw [List.length_append, List.length_append, alG_len, alG_len]; omega]
    rfl
theorem opG_at {T : TT} {q Y Z : List α} (e : q.reverse = Y ++ alG g z0 T ++ Z) {k : Int} (hk : k = Y.length) : opG z0 (if T.isE = true then none else some (((fl T).length : Int) + k - 1)) q = toG g z0 T := by
  cases h : T.isE with
  | true =>
    cases T with
    | e => rfl
    | n l r z => cases h
  | false =>
    have := fl_ne h
    rw [if_neg (by simp)]
    show (q.reverse[(((fl T).length : Int) + k - 1).toNat]?).getD z0 = _
    rw [e, alG_top g z0 h Y Z (by omega)]
    rfl
theorem bi_map (q : List Plc) : q.reverse.map (·.1) = bi q := by unfold bi; rw [List.map_reverse]
theorem stG_tt : ∀ (T : TT) {R : List Plc}, Wd (R.map (·.1)) → (stG g z0 ((fl T).reverse ++ R)).reverse = (stG g z0 R).reverse ++ alG g z0 T
  | .e, R, _ => by
    show (stG g z0 ([] ++ R)).reverse = _
    rw [List.nil_append, alG, List.append_nil]
  | .n l r z, R, w => by
    have w1 := tt_wd1 l w
    have e0 : (fl (.n l r z)).reverse ++ R = (brn l r, z) :: ((fl r).reverse ++ ((fl l).reverse ++ R)) := by
      rw [fl]
      simp
    have e1 : ((fl l).reverse ++ R).map (·.1) = bi (fl l) ++ R.map (·.1) := by rw [List.map_append, bi_map]
    have e2 : ((fl r).reverse ++ ((fl l).reverse ++ R)).map (·.1) = bi (fl r) ++ (bi (fl l) ++ R.map (·.1)) := by rw [List.map_append, bi_map, e1]
    have i1 := stG_tt l w
    have i2 := stG_tt r (R := (fl l).reverse ++ R) (by rw [e1]; exact w1)
    rw [i1] at i2
    obtain ⟨h1, h2⟩ := lr_tt l r w
    rw [e0, stG, e2]
    show (g (brn l r, z) (opG z0 (lft (brn l r) _) _) (opG z0 (rgt (brn l r) _) _) :: _).reverse = _
    rw [h1, h2, List.length_map]
    have sl : ((stG g z0 R).reverse.length : Int) = R.length := by rw [List.length_reverse, stG_len]
    rw [opG_at g z0 (T := l) (Y := (stG g z0 R).reverse) (Z := alG g z0 r) i2 sl.symm]
    rw [opG_at g z0 (T := r) (Y := (stG g z0 R).reverse ++ alG g z0 l) (Z := []) (by rw [i2, List.append_nil]) (by rw [List.length_append, Int.natCast_add, sl, alG_len]; omega)]
    rw [List.reverse_cons, i2, alG]
    simp [toG]
end
/-! ### a filling put on -/
section
variable (pz : Tx → Nat → Tx)
def putT : TT → List Nat → TT
  | .e, _ => .e
  | .n l r z, ws => .n (putT l (ws.take (fl l).length)) (putT r ((ws.drop (fl l).length).take (fl r).length)) (pz z (ws.getD ((fl l).length + (fl r).length) 0))
theorem putT_isE : ∀ (T : TT) (ws : List Nat), (putT pz T ws).isE = T.isE
  | .e, _ => rfl
  | .n _ _ _, _ => rfl
def putL (t : List Plc) (ws : List Nat) : List Plc := List.zipWith (fun x w => (x.1, pz x.2 w)) t ws
theorem putL_len {t : List Plc} {ws : List Nat} (h : ws.length = t.length) : (putL pz t ws).length = t.length := by unfold putL; rw [List.length_zipWith, h, Nat.min_self]
theorem putL_bi {t : List Plc} {ws : List Nat} (h : ws.length = t.length) : bi (putL pz t ws) = bi t := by
  unfold bi putL
  congr 1
  rw [List.map_zipWith]
  induction t generalizing ws with
  | nil => rw [List.zipWith_nil_left]; rfl
  | cons x t ih =>
    cases ws with
    | nil => simp at h
    | cons w ws => rw [List.zipWith_cons_cons, ih (by simpa using h)]; rfl
theorem putT_fl : ∀ (T : TT) {ws : List Nat}, ws.length = (fl T).length → fl (putT pz T ws) = putL pz (fl T) ws
  | .e, ws, h => by rw [putT, putL, fl, List.zipWith_nil_left]
  | .n l r z, ws, h => by
    rw [fl_len] at h
    have h1 : (ws.take (fl l).length).length = (fl l).length := by rw [List.length_take]; omega
    have h2 : ((ws.drop (fl l).length).take (fl r).length).length = (fl r).length := by rw [List.length_take, List.length_drop]; omega
    have e : ws = ws.take (fl l).length ++ ((ws.drop (fl l).length).take (fl r).length) ++ [ws.getD ((fl l).length + (fl r).length) 0] := by
      refine List.ext_getElem (by rw [List.length_append, List.length_append, h1, h2]; simp; omega) fun i a b => ?_
      by_cases c1 : i < (fl l).length
      · rw [List.getElem_append_left (by rw [List.length_append, h1]; omega), List.getElem_append_left (by rw [h1]; omega), List.getElem_take]
      · by_cases c2 : i < (fl l).length + (fl r).length
        · rw [List.getElem_append_left (by rw [List.length_append, h1, h2]; omega), List.getElem_append_right (by rw [h1]; omega), List.getElem_take, List.getElem_drop]
          congr 1
          rw [h1]
          omega
        · rw [List.getElem_append_right (by rw [List.length_append, h1, h2]; omega), List.getElem_singleton, List.getD_eq_getElem?_getD, List.getElem?_eq_getElem (by omega)]
          show ws[i] = ws[_]
          congr 1
          omega
    rw [putT, fl, putT_fl l h1, putT_fl r h2, fl]
    generalize ws.getD ((fl l).length + (fl r).length) 0 = w at *
    generalize ws.take (fl l).length = u at *
    generalize (ws.drop (fl l).length).take (fl r).length = v at *
    rw [e]
    unfold putL
    rw [List.zipWith_append (by rw [List.length_append, List.length_append, h1, h2]), List.zipWith_append (by rw [h1])]
    unfold brn
    rw [putT_isE, putT_isE]
    rfl
variable {W n : Nat} {st : Tx → Nat → Int → Int → Int}
theorem Fl_put (hp : ∀ z w w' a b, st (pz z w) w' a b = st z w' a b) : ∀ (T : TT) (ws : List Nat), Fl W st (putT pz T ws) = Fl W st T
  | .e, _ => rfl
  | .n l r z, ws => by
    rw [putT, Fl, Fl, Fl_put hp l, Fl_put hp r]
    simp only [hp]
theorem Fl_wl {T : TT} {y : List Nat × Int} (h : y ∈ Fl W st T) : y.1.length = (fl T).length := by
  have hm : y.1 ∈ words W (fl T).length := by rw [← Fl_words (st := st) T]; exact List.mem_map_of_mem h
  have : ∀ k, ∀ x ∈ words W k, x.length = k := by
    intro k
    induction k with
    | zero => intro x hx; rw [words] at hx; rw [List.mem_singleton.mp hx]; rfl
    | succ k ih =>
      intro x hx
      rw [words] at hx
      obtain ⟨a, ha, hx⟩ := List.mem_flatMap.mp hx
      obtain ⟨w, _, rfl⟩ := List.mem_map.mp hx
      rw [List.length_append, ih a ha]
      rfl
  exact this _ _ hm
/-- the room to which a filling leads -/
theorem Fl_room {rv : Tx → Int → Int → Int} (hp : ∀ z w a b, w < W → rv (pz z w) a b = st z w a b) : ∀ (T : TT) (y : List Nat × Int), y ∈ Fl W st T → toG (fun x a b => rv x.2 a b) 0 (putT pz T y.1) = y.2
  | .e, y, h => by
    rw [Fl] at h
    rw [List.mem_singleton.mp h]
    rfl
  | .n l r z, y, h => by
    rw [Fl] at h
    obtain ⟨a, ha, h⟩ := List.mem_flatMap.mp h
    obtain ⟨b, hb, h⟩ := List.mem_flatMap.mp h
    obtain ⟨w, hw, rfl⟩ := List.mem_map.mp h
    have la := Fl_wl ha
    have lb := Fl_wl hb
    have e1 : (a.1 ++ b.1 ++ [w]).take (fl l).length = a.1 := by rw [List.append_assoc, List.take_left' la]
    have e2 : ((a.1 ++ b.1 ++ [w]).drop (fl l).length).take (fl r).length = b.1 := by rw [List.append_assoc, List.drop_left' la, List.take_left' lb]
    have e3 : (a.1 ++ b.1 ++ [w]).getD ((fl l).length + (fl r).length) 0 = w := by
      rw [← la, ← lb, ← List.length_append, List.getD_eq_getElem?_getD, List.getElem?_append_right (Nat.le_refl _), Nat.sub_self]
      rfl
    show rv _ _ _ = _
    show rv (pz z ((a.1 ++ b.1 ++ [w]).getD ((fl l).length + (fl r).length) 0)) (toG _ 0 (putT pz l ((a.1 ++ b.1 ++ [w]).take (fl l).length))) (toG _ 0 (putT pz r (((a.1 ++ b.1 ++ [w]).drop (fl l).length).take (fl r).length))) = _
    rw [e1, e2, e3, Fl_room hp l a ha, Fl_room hp r b hb, hp z w _ _ (List.mem_range.mp hw)]
end
end Pv

/-! Bodies: fillings (printed). -/
namespace Pv
open PySem
/- slots of refuse_names: 0 names -/
def b_refuse_names : Ss :=
 (.cons (.ife (.cmp .gt (.blt .len (.cons (.var 0) .nil)) (.glob "MOST_NAMES")) (.cons (.rais "TooGreat")
 .nil) .nil)
 .nil)
/- slots of bare_marks: 0 marks, 1 names, 2 sign -/
def x_bare_marks_1 : E :=
 (.var 2)
def y_bare_marks_1 : Es :=
 (.cons (.cmp .notin (.var 2) (.var 1)) .nil)
def b_bare_marks : Ss :=
 (.cons (.ret (.meth .join (.str []) (.cons (.lc x_bare_marks_1 (.name 2) (.val (.var 0)) y_bare_marks_1) .nil)))
 .nil)
/- slots of place_choices: 0 machine, 1 tree, 2 names, 3 found, 4 branches, 5 marks, 6 bare, 7 way -/
def x_place_choices_1 : E :=
 (.call "letter_of" (.cons (.ix (.var 0) (.int 0)) (.cons (.bin .add (.var 6) (.call "marks_of" (.cons (.var 2) (.cons (.var 7) .nil)))) .nil)))
def y_place_choices_1 : Es :=
 .nil
def b_place_choices_3 : Ss :=
 (.cons (.set 6 (.call "bare_marks" (.cons (.var 5) (.cons (.var 2) .nil))))
 (.cons (.ex (.meth .append (.var 3) (.cons (.lc x_place_choices_1 (.name 7) (.range (.cons (.bin .shl (.int 1) (.blt .len (.cons (.var 2) .nil))) .nil)) y_place_choices_1) .nil)))
 .nil))
def b_place_choices : Ss :=
 (.cons (.set 3 (.list .nil))
 (.cons (.forr (.tup (.cons (.name 4) (.cons (.name 5) .nil))) (.val (.var 1)) b_place_choices_3)
 (.cons (.ret (.var 3))
 .nil)))
/- slots of branch_ways: 0 counts, 1 top, 2 many, 3 row -/
def b_branch_ways : Ss :=
 (.cons (.ife (.cmp .isnot (.var 1) .non) (.cons (.ret (.ix (.var 0) (.var 1)))
 .nil) .nil)
 (.cons (.set 3 (.bin .mul (.list (.cons (.int 0) .nil)) (.var 2)))
 (.cons (.setix (.var 3) (.int 0) (.int 1))
 (.cons (.ret (.var 3))
 .nil))))
/- slots of part_ways: 0 machine, 1 links, 2 choices, 3 many, 4 counts, 5 place, 6 lefts, 7 rights, 8 row, 9 low, 10 high, 11 pairs, 12 letter -/
def b_part_ways_1 : Ss :=
 (.cons (.augix (.var 8) (.ix (.ix (.ix (.ix (.var 0) (.int 2)) (.var 12)) (.var 9)) (.var 10)) (.var 11))
 .nil)
def b_part_ways_2 : Ss :=
 (.cons (.set 11 (.bin .mul (.ix (.var 6) (.var 9)) (.ix (.var 7) (.var 10))))
 (.cons (.ife (.cmp .gt (.var 11) (.int 0)) (.cons (.forr (.name 12) (.val (.ix (.var 2) (.var 5))) b_part_ways_1)
 .nil) .nil)
 .nil))
def b_part_ways_3 : Ss :=
 (.cons (.forr (.name 10) (.range (.cons (.var 3) .nil)) b_part_ways_2)
 .nil)
def b_part_ways_4 : Ss :=
 (.cons (.set 6 (.frz (.call "branch_ways" (.cons (.var 4) (.cons (.ix (.ix (.var 1) (.var 5)) (.int 0)) (.cons (.var 3) .nil))))))
 (.cons (.set 7 (.frz (.call "branch_ways" (.cons (.var 4) (.cons (.ix (.ix (.var 1) (.var 5)) (.int 1)) (.cons (.var 3) .nil))))))
 (.cons (.set 8 (.bin .mul (.list (.cons (.int 0) .nil)) (.var 3)))
 (.cons (.forr (.name 9) (.range (.cons (.var 3) .nil)) b_part_ways_3)
 (.cons (.ex (.meth .append (.var 4) (.cons (.var 8) .nil)))
 .nil)))))
def b_part_ways : Ss :=
 (.cons (.set 3 (.blt .len (.cons (.ix (.var 0) (.int 1)) .nil)))
 (.cons (.set 4 (.list .nil))
 (.cons (.forr (.name 5) (.range (.cons (.blt .len (.cons (.var 1) .nil)) .nil)) b_part_ways_4)
 (.cons (.ret (.var 4))
 .nil))))
/- slots of filling_form: 0 machine, 1 tree, 2 names, 3 links, 4 choices -/
def b_filling_form : Ss :=
 (.cons (.ex (.call "refuse_names" (.cons (.var 2) .nil)))
 (.cons (.set 3 (.call "links_of" (.cons (.var 1) .nil)))
 (.cons (.set 4 (.frz (.call "place_choices" (.cons (.var 0) (.cons (.var 1) (.cons (.var 2) .nil))))))
 (.cons (.ret (.tup (.cons (.var 0) (.cons (.var 3) (.cons (.var 4) (.cons (.call "part_ways" (.cons (.var 0) (.cons (.var 3) (.cons (.var 4) .nil)))) .nil))))))
 .nil))))
/- slots of top_of: 0 links -/
def b_top_of : Ss :=
 (.cons (.ife (.cmp .eq (.blt .len (.cons (.var 0) .nil)) (.int 0)) (.cons (.ret .non)
 .nil) .nil)
 (.cons (.ret (.bin .sub (.blt .len (.cons (.var 0) .nil)) (.int 1)))
 .nil))
/- slots of taken_by_places: 0 form, 1 place, 2 taken, 3 machine, 4 many, 5 found, 6 low, 7 row, 8 high, 9 letter -/
def x_taken_by_places_1 : E :=
 (.ix (.var 2) (.ix (.ix (.ix (.ix (.var 3) (.int 2)) (.var 9)) (.var 6)) (.var 8)))
def y_taken_by_places_1 : Es :=
 .nil
def b_taken_by_places_3 : Ss :=
 (.cons (.ex (.meth .append (.var 7) (.cons (.blt .sum (.cons (.lc x_taken_by_places_1 (.name 9) (.val (.ix (.ix (.var 0) (.int 2)) (.var 1))) y_taken_by_places_1) .nil)) .nil)))
 .nil)
def b_taken_by_places_4 : Ss :=
 (.cons (.set 7 (.list .nil))
 (.cons (.forr (.name 8) (.range (.cons (.var 4) .nil)) b_taken_by_places_3)
 (.cons (.ex (.meth .append (.var 5) (.cons (.var 7) .nil)))
 .nil)))
def b_taken_by_places : Ss :=
 (.cons (.set 3 (.ix (.var 0) (.int 0)))
 (.cons (.set 4 (.blt .len (.cons (.ix (.var 3) (.int 1)) .nil)))
 (.cons (.set 5 (.list .nil))
 (.cons (.forr (.name 6) (.range (.cons (.var 4) .nil)) b_taken_by_places_4)
 (.cons (.ret (.var 5))
 .nil)))))
/- slots of taken_by_left: 0 form, 1 place, 2 tops, 3 many, 4 rights, 5 low, 6 high -/
def x_taken_by_left_1 : E :=
 (.bin .mul (.ix (.var 4) (.var 6)) (.ix (.ix (.var 2) (.var 5)) (.var 6)))
def y_taken_by_left_1 : Es :=
 .nil
def x_taken_by_left_3 : E :=
 (.blt .sum (.cons (.lc x_taken_by_left_1 (.name 6) (.range (.cons (.var 3) .nil)) y_taken_by_left_1) .nil))
def y_taken_by_left_3 : Es :=
 .nil
def b_taken_by_left : Ss :=
 (.cons (.set 3 (.blt .len (.cons (.var 2) .nil)))
 (.cons (.set 4 (.frz (.call "branch_ways" (.cons (.ix (.var 0) (.int 3)) (.cons (.ix (.ix (.ix (.var 0) (.int 1)) (.var 1)) (.int 1)) (.cons (.var 3) .nil))))))
 (.cons (.ret (.lc x_taken_by_left_3 (.name 5) (.range (.cons (.var 3) .nil)) y_taken_by_left_3))
 .nil)))
/- slots of ways_ahead: 0 form, 1 place, 2 taken, 3 own, 4 machine, 5 links, 6 choices, 7 counts, 8 tops, 9 lefts, 10 found, 11 low, 12 more, 13 high, 14 less, 15 way -/
def x_ways_ahead_1 : E :=
 (.ix (.var 2) (.ix (.ix (.ix (.ix (.var 4) (.int 2)) (.ix (.ix (.var 6) (.var 1)) (.var 15))) (.var 11)) (.var 13)))
def y_ways_ahead_1 : Es :=
 .nil
def b_ways_ahead : Ss :=
 (.cons (.ife (.cmp .is (.var 1) .non) (.cons (.ret (.tup (.cons (.int 0) (.cons (.int 0) .nil))))
 .nil) .nil)
 (.cons (.asg (.tup (.cons (.name 4) (.cons (.name 5) (.cons (.name 6) (.cons (.name 7) .nil))))) (.var 0))
 (.cons (.set 8 (.frz (.call "taken_by_places" (.cons (.var 0) (.cons (.var 1) (.cons (.var 2) .nil))))))
 (.cons (.set 9 (.frz (.call "taken_by_left" (.cons (.var 0) (.cons (.var 1) (.cons (.var 8) .nil))))))
 (.cons (.asg (.tup (.cons (.name 10) (.cons (.name 11) .nil))) (.call "ways_ahead" (.cons (.var 0) (.cons (.ix (.ix (.var 5) (.var 1)) (.int 0)) (.cons (.var 9) (.cons (.var 3) .nil))))))
 (.cons (.asg (.tup (.cons (.name 12) (.cons (.name 13) .nil))) (.call "ways_ahead" (.cons (.var 0) (.cons (.ix (.ix (.var 5) (.var 1)) (.int 1)) (.cons (.ix (.var 8) (.var 11)) (.cons (.var 3) .nil))))))
 (.cons (.set 14 (.blt .sum (.cons (.lc x_ways_ahead_1 (.name 15) (.range (.cons (.ix (.var 3) (.var 1)) .nil)) y_ways_ahead_1) .nil)))
 (.cons (.ret (.tup (.cons (.bin .add (.bin .add (.var 10) (.var 12)) (.var 14)) (.cons (.ix (.ix (.ix (.ix (.var 4) (.int 2)) (.ix (.ix (.var 6) (.var 1)) (.ix (.var 3) (.var 1)))) (.var 11)) (.var 13)) .nil))))
 .nil))))))))
/- slots of taken_by_good: 0 machine, 1 good -/
def x_taken_by_good_1 : E :=
 (.blt .int (.cons (.var 1) .nil))
def y_taken_by_good_1 : Es :=
 .nil
def b_taken_by_good : Ss :=
 (.cons (.ret (.lc x_taken_by_good_1 (.name 1) (.val (.ix (.var 0) (.int 1))) y_taken_by_good_1))
 .nil)
/- slots of let_by_many: 0 form, 1 machine, 2 links, 3 choices, 4 counts, 5 rooms, 6 room -/
def x_let_by_many_1 : E :=
 (.ix (.var 5) (.var 6))
def y_let_by_many_1 : Es :=
 (.cons (.ix (.ix (.var 1) (.int 1)) (.var 6)) .nil)
def b_let_by_many : Ss :=
 (.cons (.asg (.tup (.cons (.name 1) (.cons (.name 2) (.cons (.name 3) (.cons (.name 4) .nil))))) (.var 0))
 (.cons (.set 5 (.frz (.call "branch_ways" (.cons (.var 4) (.cons (.call "top_of" (.cons (.var 2) .nil)) (.cons (.blt .len (.cons (.ix (.var 1) (.int 1)) .nil)) .nil))))))
 (.cons (.ret (.blt .sum (.cons (.lc x_let_by_many_1 (.name 6) (.range (.cons (.blt .len (.cons (.var 5) .nil)) .nil)) y_let_by_many_1) .nil)))
 .nil)))
/- slots of fillings: 0 machine, 1 tree, 2 names -/
def b_fillings : Ss :=
 (.cons (.ret (.call "let_by_many" (.cons (.call "filling_form" (.cons (.var 0) (.cons (.var 1) (.cons (.var 2) .nil)))) .nil)))
 .nil)
/- slots of filling_rank: 0 machine, 1 tree, 2 names, 3 form, 4 own, 5 branches, 6 marks -/
def x_filling_rank_1 : E :=
 (.call "letter_of" (.cons (.var 2) (.cons (.var 6) .nil)))
def y_filling_rank_1 : Es :=
 .nil
def b_filling_rank : Ss :=
 (.cons (.set 3 (.call "filling_form" (.cons (.var 0) (.cons (.var 1) (.cons (.var 2) .nil)))))
 (.cons (.set 4 (.frz (.lc x_filling_rank_1 (.tup (.cons (.name 5) (.cons (.name 6) .nil))) (.val (.var 1)) y_filling_rank_1)))
 (.cons (.ret (.ix (.call "ways_ahead" (.cons (.var 3) (.cons (.call "top_of" (.cons (.ix (.var 3) (.int 1)) .nil)) (.cons (.call "taken_by_good" (.cons (.var 0) .nil)) (.cons (.var 4) .nil))))) (.int 0)))
 .nil)))
/- slots of _law_tree: 0 _law_draws_here, 1 _law_pool_here, 2 _law_found, 3 _law_high, 4 _law_d, 5 _law_branches -/
def b__law_tree_1 : Ss :=
 (.cons (.set 5 (.bin .mod (.var 4) (.int 4)))
 (.cons (.ife (.cmp .gt (.bin .fdiv (.bin .add (.var 5) (.int 1)) (.int 2)) (.var 3)) (.cons (.set 5 (.int 0))
 .nil) .nil)
 (.cons (.ex (.meth .append (.var 2) (.cons (.tup (.cons (.var 5) (.cons (.call "_law_marks" (.cons (.var 1) (.cons (.bin .mod (.bin .fdiv (.var 4) (.int 4)) (.int 16)) .nil))) .nil))) .nil)))
 (.cons (.set 3 (.bin .sub (.bin .add (.var 3) (.int 1)) (.bin .fdiv (.bin .add (.var 5) (.int 1)) (.int 2))))
 .nil))))
def t__law_tree_2 : E :=
 (.cmp .gt (.var 3) (.int 1))
def b__law_tree_3 : Ss :=
 (.cons (.ex (.meth .append (.var 2) (.cons (.tup (.cons (.int 3) (.cons (.ix (.ix (.var 2) (.bin .sub (.var 3) (.int 1))) (.int 1)) .nil))) .nil)))
 (.cons (.set 3 (.bin .sub (.var 3) (.int 1)))
 .nil))
def b__law_tree : Ss :=
 (.cons (.set 2 (.list .nil))
 (.cons (.set 3 (.int 0))
 (.cons (.forr (.name 4) (.val (.var 0)) b__law_tree_1)
 (.cons (.whil t__law_tree_2 b__law_tree_3)
 (.cons (.ret (.blt .tuple (.cons (.var 2) .nil)))
 .nil)))))
/- slots of _law_run: 0 _law_machine_here, 1 _law_tree_here, 2 _law_heap, 3 _law_found, 4 _law_branches, 5 _law_marks_here, 6 _law_left, 7 _law_right -/
def b__law_run_1 : Ss :=
 (.cons (.set 6 (.int 0))
 (.cons (.set 7 (.int 0))
 (.cons (.ife (.cmp .ge (.var 4) (.int 2)) (.cons (.set 7 (.meth .pop (.var 2) .nil))
 .nil) .nil)
 (.cons (.ife (.cmp .eq (.bin .mod (.var 4) (.int 2)) (.int 1)) (.cons (.set 6 (.meth .pop (.var 2) .nil))
 .nil) .nil)
 (.cons (.ex (.meth .append (.var 2) (.cons (.ix (.ix (.ix (.ix (.var 0) (.int 2)) (.call "_law_letter" (.cons (.ix (.var 0) (.int 0)) (.cons (.var 5) .nil)))) (.var 6)) (.var 7)) .nil)))
 (.cons (.ex (.meth .append (.var 3) (.cons (.ix (.var 2) (.neg (.int 1))) .nil)))
 .nil))))))
def b__law_run : Ss :=
 (.cons (.set 2 (.list .nil))
 (.cons (.set 3 (.list .nil))
 (.cons (.forr (.tup (.cons (.name 4) (.cons (.name 5) .nil))) (.val (.var 1)) b__law_run_1)
 (.cons (.ret (.var 3))
 .nil))))
/- slots of _law_lets: 0 _law_machine_here, 1 _law_tree_here -/
def b__law_lets : Ss :=
 (.cons (.ife (.cmp .eq (.blt .len (.cons (.var 1) .nil)) (.int 0)) (.cons (.ret (.ix (.ix (.var 0) (.int 1)) (.int 0)))
 .nil) .nil)
 (.cons (.ret (.ix (.ix (.var 0) (.int 1)) (.ix (.call "_law_run" (.cons (.var 0) (.cons (.var 1) .nil))) (.neg (.int 1)))))
 .nil))
/- slots of _law_put: 0 _law_tree_here, 1 _law_names, 2 _law_ways, 3 _law_found, 4 _law_k, 5 _law_marks_here, 6 _law_sign, 7 _law_j -/
def x__law_put_1 : E :=
 (.var 6)
def y__law_put_1 : Es :=
 (.cons (.cmp .notin (.var 6) (.var 1)) .nil)
def x__law_put_3 : E :=
 (.ix (.var 1) (.var 7))
def y__law_put_3 : Es :=
 (.cons (.cmp .eq (.bin .band (.bin .shr (.ix (.var 2) (.var 4)) (.bin .sub (.bin .sub (.blt .len (.cons (.var 1) .nil)) (.int 1)) (.var 7))) (.int 1)) (.int 1)) .nil)
def b__law_put_5 : Ss :=
 (.cons (.set 5 (.frz (.lc x__law_put_1 (.name 6) (.val (.ix (.ix (.var 0) (.var 4)) (.int 1))) y__law_put_1)))
 (.cons (.set 5 (.frz (.bin .add (.var 5) (.lc x__law_put_3 (.name 7) (.range (.cons (.blt .len (.cons (.var 1) .nil)) .nil)) y__law_put_3))))
 (.cons (.ex (.meth .append (.var 3) (.cons (.tup (.cons (.ix (.ix (.var 0) (.var 4)) (.int 0)) (.cons (.meth .join (.str []) (.cons (.blt .sorted (.cons (.var 5) .nil)) .nil)) .nil))) .nil)))
 .nil)))
def b__law_put : Ss :=
 (.cons (.set 3 (.list .nil))
 (.cons (.forr (.name 4) (.range (.cons (.blt .len (.cons (.var 0) .nil)) .nil)) b__law_put_5)
 (.cons (.ret (.blt .tuple (.cons (.var 3) .nil)))
 .nil)))
/- slots of _law_row_of: 0 _law_draws_here, 1 _law_pool_here, 2 _law_found, 3 _law_k, 4 _law_d -/
def b__law_row_of_1 : Ss :=
 (.cons (.ex (.meth .append (.var 2) (.cons (.tup (.cons (.bin .mul (.blt .int (.cons (.cmp .gt (.var 3) (.int 0)) .nil)) (.bin .add (.int 1) (.bin .mod (.var 4) (.int 2)))) (.cons (.call "_law_marks" (.cons (.var 1) (.cons (.bin .mod (.bin .fdiv (.var 4) (.int 2)) (.int 16)) .nil))) .nil))) .nil)))
 .nil)
def b__law_row_of : Ss :=
 (.cons (.set 2 (.list .nil))
 (.cons (.forr (.tup (.cons (.name 3) (.cons (.name 4) .nil))) (.enum (.var 0)) b__law_row_of_1)
 (.cons (.ret (.blt .tuple (.cons (.var 2) .nil)))
 .nil)))
/- slots of _law_later: 0 _law_ways, 1 _law_many, 2 _law_found, 3 _law_k -/
def t__law_later_1 : E :=
 (.and (.cons (.cmp .ge (.var 3) (.int 0)) (.cons (.cmp .eq (.ix (.var 2) (.var 3)) (.bin .sub (.var 1) (.int 1))) .nil)))
def b__law_later_2 : Ss :=
 (.cons (.setix (.var 2) (.var 3) (.int 0))
 (.cons (.set 3 (.bin .sub (.var 3) (.int 1)))
 .nil))
def b__law_later : Ss :=
 (.cons (.set 2 (.blt .list (.cons (.var 0) .nil)))
 (.cons (.set 3 (.bin .sub (.blt .len (.cons (.var 2) .nil)) (.int 1)))
 (.cons (.whil t__law_later_1 b__law_later_2)
 (.cons (.ife (.cmp .lt (.var 3) (.int 0)) (.cons (.ret .non)
 .nil) .nil)
 (.cons (.setix (.var 2) (.var 3) (.bin .add (.ix (.var 2) (.var 3)) (.int 1)))
 (.cons (.ret (.var 2))
 .nil))))))
/- slots of picked_ways: 0 form, 1 place, 2 taken, 3 number, 4 machine, 5 links, 6 choices, 7 counts, 8 tops, 9 lefts, 10 ways, 11 low, 12 more, 13 high, 14 way, 15 room -/
def t_picked_ways_1 : E :=
 (.cmp .ge (.var 3) (.ix (.var 2) (.var 15)))
def b_picked_ways_2 : Ss :=
 (.cons (.set 3 (.bin .sub (.var 3) (.ix (.var 2) (.var 15))))
 (.cons (.set 14 (.bin .add (.var 14) (.int 1)))
 (.cons (.set 15 (.ix (.ix (.ix (.ix (.var 4) (.int 2)) (.ix (.ix (.var 6) (.var 1)) (.var 14))) (.var 11)) (.var 13)))
 .nil)))
def b_picked_ways : Ss :=
 (.cons (.ife (.cmp .is (.var 1) .non) (.cons (.ret (.tup (.cons (.list .nil) (.cons (.int 0) (.cons (.var 3) .nil)))))
 .nil) .nil)
 (.cons (.asg (.tup (.cons (.name 4) (.cons (.name 5) (.cons (.name 6) (.cons (.name 7) .nil))))) (.var 0))
 (.cons (.set 8 (.frz (.call "taken_by_places" (.cons (.var 0) (.cons (.var 1) (.cons (.var 2) .nil))))))
 (.cons (.set 9 (.frz (.call "taken_by_left" (.cons (.var 0) (.cons (.var 1) (.cons (.var 8) .nil))))))
 (.cons (.asg (.tup (.cons (.name 10) (.cons (.name 11) (.cons (.name 3) .nil)))) (.call "picked_ways" (.cons (.var 0) (.cons (.ix (.ix (.var 5) (.var 1)) (.int 0)) (.cons (.var 9) (.cons (.var 3) .nil))))))
 (.cons (.asg (.tup (.cons (.name 12) (.cons (.name 13) (.cons (.name 3) .nil)))) (.call "picked_ways" (.cons (.var 0) (.cons (.ix (.ix (.var 5) (.var 1)) (.int 1)) (.cons (.ix (.var 8) (.var 11)) (.cons (.var 3) .nil))))))
 (.cons (.set 14 (.int 0))
 (.cons (.set 15 (.ix (.ix (.ix (.ix (.var 4) (.int 2)) (.ix (.ix (.var 6) (.var 1)) (.var 14))) (.var 11)) (.var 13)))
 (.cons (.whil t_picked_ways_1 b_picked_ways_2)
 (.cons (.ret (.tup (.cons (.bin .add (.bin .add (.var 10) (.var 12)) (.list (.cons (.var 14) .nil))) (.cons (.var 15) (.cons (.var 3) .nil)))))
 .nil))))))))))
/- slots of dressed_by: 0 tree, 1 names, 2 ways, 3 found, 4 place, 5 branches, 6 marks -/
def b_dressed_by_1 : Ss :=
 (.cons (.asg (.tup (.cons (.name 5) (.cons (.name 6) .nil))) (.ix (.var 0) (.var 4)))
 (.cons (.ex (.meth .append (.var 3) (.cons (.tup (.cons (.var 5) (.cons (.call "in_order" (.cons (.bin .add (.call "bare_marks" (.cons (.var 6) (.cons (.var 1) .nil))) (.call "marks_of" (.cons (.var 1) (.cons (.ix (.var 2) (.var 4)) .nil)))) .nil)) .nil))) .nil)))
 .nil))
def b_dressed_by : Ss :=
 (.cons (.set 3 (.list .nil))
 (.cons (.forr (.name 4) (.range (.cons (.blt .len (.cons (.var 0) .nil)) .nil)) b_dressed_by_1)
 (.cons (.ret (.blt .tuple (.cons (.var 3) .nil)))
 .nil)))
/- slots of filling_at: 0 machine, 1 tree, 2 names, 3 number, 4 form -/
def b_filling_at : Ss :=
 (.cons (.set 4 (.call "filling_form" (.cons (.var 0) (.cons (.var 1) (.cons (.var 2) .nil)))))
 (.cons (.ife (.or (.cons (.cmp .lt (.var 3) (.int 0)) (.cons (.cmp .ge (.var 3) (.call "let_by_many" (.cons (.var 4) .nil))) .nil))) (.cons (.rais "NoNumber")
 .nil) .nil)
 (.cons (.ret (.call "dressed_by" (.cons (.var 1) (.cons (.var 2) (.cons (.ix (.call "picked_ways" (.cons (.var 4) (.cons (.call "top_of" (.cons (.ix (.var 4) (.int 1)) .nil)) (.cons (.call "taken_by_good" (.cons (.var 0) .nil)) (.cons (.var 3) .nil))))) (.int 0)) .nil)))))
 .nil)))
/- slots of filled: 0 machine, 1 tree, 2 names, 3 form -/
def b_filled : Ss :=
 (.cons (.set 3 (.call "filling_form" (.cons (.var 0) (.cons (.var 1) (.cons (.var 2) .nil)))))
 (.cons (.ife (.cmp .eq (.call "let_by_many" (.cons (.var 3) .nil)) (.int 0)) (.cons (.ret .non)
 .nil) .nil)
 (.cons (.ret (.call "dressed_by" (.cons (.var 1) (.cons (.var 2) (.cons (.ix (.call "picked_ways" (.cons (.var 3) (.cons (.call "top_of" (.cons (.ix (.var 3) (.int 1)) .nil)) (.cons (.call "taken_by_good" (.cons (.var 0) .nil)) (.cons (.int 0) .nil))))) (.int 0)) .nil)))))
 .nil)))
/- slots of chances_of: 0 machine, 1 tree, 2 names, 3 counts, 4 row, 5 room -/
def x_chances_of_1 : E :=
 (.var 5)
def y_chances_of_1 : Es :=
 (.cons (.cmp .gt (.ix (.var 4) (.var 5)) (.int 0)) .nil)
def x_chances_of_3 : E :=
 (.blt .tuple (.cons (.lc x_chances_of_1 (.name 5) (.range (.cons (.blt .len (.cons (.var 4) .nil)) .nil)) y_chances_of_1) .nil))
def y_chances_of_3 : Es :=
 .nil
def b_chances_of : Ss :=
 (.cons (.set 3 (.ix (.call "filling_form" (.cons (.var 0) (.cons (.var 1) (.cons (.var 2) .nil)))) (.int 3)))
 (.cons (.ret (.blt .tuple (.cons (.lc x_chances_of_3 (.name 4) (.val (.var 3)) y_chances_of_3) .nil)))
 .nil))
end Pv

/-! Fillings of a tree: the numbers of fillings by rooms, the parts of a tree (plain Lean). -/
namespace Pv
open PySem
section
variable {α : Type} (g : Plc → α → α → α) (z0 : α)
theorem stG_pre : ∀ (X Y : List Plc), ∃ Z, (stG g z0 (X ++ Y)).reverse = (stG g z0 Y).reverse ++ Z
  | [], Y => ⟨[], by simp⟩
  | x :: X, Y => by
    obtain ⟨Z, h⟩ := stG_pre X Y
    show ∃ Z, (stG g z0 (x :: (X ++ Y))).reverse = _
    rw [stG, List.reverse_cons, h]
    exact ⟨Z ++ [_], by rw [List.append_assoc]⟩
theorem stG_dec {A B : List Plc} {T : TT} (w : Wd (bi A)) : ∃ Z, (stG g z0 (A ++ fl T ++ B).reverse).reverse = (stG g z0 A.reverse).reverse ++ alG g z0 T ++ Z := by
  have e : (A ++ fl T ++ B).reverse = B.reverse ++ ((fl T).reverse ++ A.reverse) := by simp
  obtain ⟨Z, h⟩ := stG_pre g z0 B.reverse ((fl T).reverse ++ A.reverse)
  rw [e, h, stG_tt g z0 T (R := A.reverse) (by rw [bi_map]; exact w)]
  exact ⟨Z, rfl⟩
/-- the number of a part's top, behind a places -/
def topO (a : Nat) (T : TT) : Option Int := if T.isE = true then none else some (((fl T).length : Int) + a - 1)
theorem op_dec {A B : List Plc} {T : TT} (w : Wd (bi A)) : opG z0 (topO A.length T) (stG g z0 (A ++ fl T ++ B).reverse) = toG g z0 T := by
  obtain ⟨Z, e⟩ := stG_dec g z0 (B := B) (T := T) w
  exact opG_at g z0 e (by rw [List.length_reverse, stG_len, List.length_reverse])
end
theorem topO_in {a : Nat} {T : TT} {k : Int} (h : topO a T = some k) : 0 ≤ k ∧ k < (a : Int) + (fl T).length := by
  unfold topO at h
  cases q : T.isE with
  | true => rw [q] at h; cases h
  | false =>
    rw [q, if_neg (by simp)] at h
    have := fl_ne q
    cases h
    omega
theorem fl_split (A B : List Plc) (l r : TT) (z : Tx) : A ++ fl (.n l r z) ++ B = A ++ fl l ++ (fl r ++ [(brn l r, z)] ++ B) ∧ A ++ fl (.n l r z) ++ B = A ++ fl l ++ fl r ++ ([(brn l r, z)] ++ B) := by
  rw [fl]
  simp
theorem wd_two {A : List Plc} {l : TT} (w : Wd (bi A)) : Wd (bi (A ++ fl l)) := by
  rw [bi_app]
  exact tt_wd1 l w
theorem at_n {A B : List Plc} {l r : TT} {z : Tx} {p : Nat} (hp : p = A.length + (fl l).length + (fl r).length) : ∃ h : p < (A ++ fl (.n l r z) ++ B).length, (A ++ fl (.n l r z) ++ B)[p] = (brn l r, z) := by
  have e := (fl_split A B l r z).2
  rw [e]
  have h : p < (A ++ fl l ++ fl r ++ ([(brn l r, z)] ++ B)).length := by simp; omega
  refine ⟨h, ?_⟩
  rw [List.getElem_append_right (by simp; omega)]
  have q : p - (A ++ fl l ++ fl r).length = 0 := by simp; omega
  simp only [q]
  rfl
theorem pre_n {A B : List Plc} {l r : TT} {z : Tx} {p : Nat} (hp : p = A.length + (fl l).length + (fl r).length) : pre (A ++ fl (.n l r z) ++ B) p = bi (fl r) ++ (bi (fl l) ++ bi A) := by
  rw [(fl_split A B l r z).2]
  unfold pre
  rw [List.take_left' (by simp; omega)]
  unfold bi
  simp
theorem links_n {A B : List Plc} {l r : TT} {z : Tx} {p : Nat} (w : Wd (bi A)) (hp : p = A.length + (fl l).length + (fl r).length) :
    L2.atI (linksI (A ++ fl (.n l r z) ++ B)) (p : Int) = some (.tup [oD (topO A.length l), oD (topO (A ++ fl l).length r)]) := by
  obtain ⟨h, e⟩ := at_n (A := A) (B := B) (z := z) hp
  have e2 := linksI_at h
  rw [e, pre_n hp] at e2
  obtain ⟨h1, h2⟩ := lr_tt l r w
  have e2 : (linksI (A ++ fl (.n l r z) ++ B))[p]? = some (.tup [oD (lft (brn l r) (bi (fl r) ++ (bi (fl l) ++ bi A))), oD (rgt (brn l r) (bi (fl r) ++ (bi (fl l) ++ bi A)))]) := e2
  rw [h1, h2, bi_len] at e2
  rw [atI_pos (by omega) (by rw [linksI_len]; omega), Int.toNat_natCast, e2]
  unfold topO
  rw [List.length_append, Int.natCast_add, Int.add_comm ((A.length : Nat) : Int)]
section
variable (W n : Nat) (st : Tx → Nat → Int → Int → Int)
def cntF (x : Plc) (L R : Int → Int) (y : Int) : Int := tot (fun a : Nat => tot (fun b : Nat => L a * R b * waysI W st x.2 a b y) (List.range n)) (List.range n)
def cnt0 (y : Int) : Int := if y = 0 then 1 else 0
variable {W n st}
theorem toG_cnt (h : Stp W n st) (hn : 1 ≤ n) : ∀ T : TT, toG (cntF W n st) cnt0 T = cntI (Fl W st T)
  | .e => by funext x; rw [cnt_e]; rfl
  | .n l r z => by
    funext x
    rw [toG, toG_cnt h hn l, toG_cnt h hn r, cnt_n h hn]
    rfl
end
end Pv

/-! Fillings: what the program reckons ahead. -/
namespace Pv
open PySem
/-- marks without names -/
def bareZ (nm z : Tx) : Tx := z.filter fun c => !decide (c ∈ nm)
/-- the number of a place's marks for the machine, filled in a way -/
def czN (names nm z : Tx) (w : Nat) : Nat := val names (fun x => decide (x ∈ bareZ nm z ++ mkOf nm w))
/-- the room of an entry -/
def entI (M : Mach) (k : Nat) (a b : Int) : Int := ((M.tab.getD k []).getD a.toNat []).getD b.toNat 0
def stM (M : Mach) (nm : Tx) (z : Tx) (w : Nat) (a b : Int) : Int := entI M (czN M.names nm z w) a b
abbrev wN (nm : Tx) : Nat := 2 ^ nm.length
theorem tab_at {M : Mach} {c n : Nat} (w : WF M c n) {k : Nat} (hk : k < 2 ^ c) {l r : Int} (l0 : 0 ≤ l) (l1 : l < n) (r0 : 0 ≤ r) (r1 : r < n) : ∃ rows row, L2.atI (M.tab.map rowsD) (k : Int) = some (.tup rows) ∧
    L2.atI rows l = some (.tup row) ∧ L2.atI row r = some (.int (entI M k l r)) ∧ 0 ≤ entI M k l r ∧ entI M k l r < n := by
  have hv : k < M.tab.length := by rw [w.tl]; exact hk
  have a1 := map_getD rowsD (z := []) hv
  have w1 := w.rl _ (getD_mem (z := []) hv)
  unfold entI
  generalize M.tab.getD k [] = rows at *
  obtain ⟨w1, w2⟩ := w1
  have hl : l.toNat < rows.length := by omega
  have a2 := map_getD rowD (z := []) hl
  have w3 := w2 _ (getD_mem (z := []) hl)
  generalize rows.getD l.toNat [] = row at *
  obtain ⟨w3, w4⟩ := w3
  have hr : r.toNat < row.length := by omega
  have a3 := atL hr
  have w5 := w4 _ (getD_mem (z := 0) hr)
  rw [show ((l.toNat : Nat) : Int) = l by omega] at a2
  rw [show ((r.toNat : Nat) : Int) = r by omega] at a3
  exact ⟨rows.map rowD, row.map .int, a1, a2, a3, w5⟩
theorem czN_lt {M : Mach} {c n : Nat} (W : WF M c n) (nm z : Tx) (w : Nat) : czN M.names nm z w < 2 ^ c := by
  rw [← W.nl]
  exact val_lt _ _
theorem stM_stp {M : Mach} {c n : Nat} (W : WF M c n) (nm : Tx) : Stp (wN nm) n (stM M nm) := fun z w a b _ a0 a1 b0 b1 => by
  obtain ⟨_, _, _, _, _, h⟩ := tab_at W (czN_lt W nm z w) a0 a1 b0 b1
  exact h
/-- what a filling needs -/
structure FC (M : Mach) (c n : Nat) (nm : Tx) (t : List Plc) : Prop where
  W : WF M c n
  hc : c ≤ 20
  n1 : 1 ≤ n
  n2 : n ≤ 1000
  ml : M.names.length ≤ 60
  nl : nm.length ≤ 4
  tl : t.length ≤ 200
  wd : Wd (bi t)
  zl : ∀ x ∈ t, x.2.length ≤ 200
def chD (M : Mach) (nm z : Tx) : D := .lst ((List.range (wN nm)).map fun (w : Nat) => .int (czN M.names nm z w : Nat))
def chsD (M : Mach) (nm : Tx) (t : List Plc) : List D := t.map fun x => chD M nm x.2
def rowI (n : Nat) (f : Int → Int) : List D := (List.range n).map fun (x : Nat) => D.int (f x)
def cntsD (M : Mach) (nm : Tx) (n : Nat) (t : List Plc) : List D := (stG (cntF (wN nm) n (stM M nm)) cnt0 t.reverse).reverse.map fun f => .lst (rowI n f)
def formD (M : Mach) (nm : Tx) (n : Nat) (t : List Plc) : D := .tup [machD M, .tup (linksI t), .lst (chsD M nm t), .lst (cntsD M nm n t)]
section
variable {Δ : Prog} {m d : Nat}
theorem sp_refuse (h : Has Δ "refuse_names" 1 1 b_refuse_names) (g : Δ.glob "MOST_NAMES" = some (.int 4)) (nm : Tx) (hl : nm.length ≤ 4) (s : Store) : Φ Δ m (d + 1) "refuse_names" [.d (.str nm)] s = .ok (.d .non) s := by
  rw [h.run rfl]
  have l1 : nm.length ≤ line := by show _ ≤ 16777216; omega
  have q : ¬ (4 : Int) < (nm.length : Int) := by omega
  unfold b_refuse_names
  simp [l1, g, q]
theorem sp_refuse_x (h : Has Δ "refuse_names" 1 1 b_refuse_names) (hx : Δ.isx "TooGreat" = true) (g : Δ.glob "MOST_NAMES" = some (.int 4)) (nm : Tx) (hl : 4 < nm.length) (h2 : nm.length ≤ 1000) (s : Store) : Φ Δ m (d + 1) "refuse_names" [.d (.str nm)] s = .exc "TooGreat" s := by
  rw [h.run rfl]
  have l1 : nm.length ≤ line := by show _ ≤ 16777216; omega
  have q : (4 : Int) < (nm.length : Int) := by omega
  unfold b_refuse_names
  simp [l1, g, q, hx]
theorem sp_bare_marks (h : Has Δ "bare_marks" 2 3 b_bare_marks) (nm z : Tx) (hz : z.length ≤ 1000) (s : Store) : Φ Δ m (d + 1) "bare_marks" [.d (.str z), .d (.str nm)] s = .ok (.d (.str (bareZ nm z))) s := by
  rw [h.run rfl]
  have lc := lc_sgnf (j := 2) (test := fun e s => evC (cxΔ Δ m d) y_bare_marks_1 e s) (elt := fun e s => evE (cxΔ Δ m d) x_bare_marks_1 e s) (env := [some (.d (.str z)), some (.d (.str nm)), none]) (s := s)
    (fun c => !decide (c ∈ nm)) z (by show _ ≤ 16777216; omega) (fun c hc => by
      unfold y_bare_marks_1
      by_cases q : c ∈ nm <;> simp [q]) (fun c hc => by
      unfold x_bare_marks_1
      simp)
  have fl : (bareZ nm z).length ≤ 1000 := Nat.le_trans (List.length_filter_le _ _) hz
  have jr := joinR s [] ((bareZ nm z).map fun c => ([c] : Tx)) (by rw [ones_sum]; simp only [List.length_nil, Nat.mul_zero]; show _ ≤ 16777216; omega)
  rw [join_one] at jr
  have l2 : (2 : Nat) ≤ line := by decide
  unfold b_bare_marks
  unfold bareZ at *
  generalize ((z.filter fun c => !decide (c ∈ nm)).map fun c => ([c] : Tx)).map D.str = P at *
  simp [lc, jr, l2]
/-- a loop over places that puts one thing behind its list each turn -/
theorem app_forP {cx : Cxt} {i j : Nat} {body : Ss} (t : List Plc) (I : Nat → Env → Prop) (g : Plc → D) (s' : Store) (env0 : Env) (h0 : I 0 env0)
    (hs : ∀ k (hk : k < t.length) env, I k env → ∃ e2 st2, evSs cx body ((env.set i (some (.d (.int t[k].1)))).set j (some (.d (.str t[k].2)))) (s' ++ [.lst ((t.take k).map g)]) = .nx e2 (s' ++ .lst ((t.take k).map g ++ [g t[k]]) :: st2) ∧ I (k + 1) (e2.map (kill (s'.length + 1)))) :
    ∃ env', forL ⟨t.map plD, none⟩ (s'.length + 1) (.tup (.cons (.name i) (.cons (.name j) .nil))) (fun e s => evSs cx body e s) (t.map plD) env0 (s' ++ [.lst []]) = .nx env' (s' ++ [.lst (t.map g)]) ∧ I t.length env' := by
  have key := forL_inv (w := ⟨t.map plD, none⟩) (n := s'.length + 1) (tg := .tup (.cons (.name i) (.cons (.name j) .nil))) (body := fun e s => evSs cx body e s) (env := env0) (s := s' ++ [.lst []])
    (fun k env s1 => I k env ∧ s1 = s' ++ [.lst ((t.take k).map g)]) ⟨h0, rfl⟩ (by
    rintro k dd env s1 hdd ⟨hi, rfl⟩
    obtain ⟨hk, hdd⟩ := List.getElem?_eq_some_iff.mp hdd
    have hk : k < t.length := by simpa using hk
    have hdd : plD t[k] = dd := by simpa using hdd
    subst hdd
    refine ⟨rfl, _, rfl, ?_⟩
    obtain ⟨e2, st2, he, hI⟩ := hs k hk env hi
    show (evSs cx body ((env.set i (some (.d (.int t[k].1)))).set j (some (.d (.str t[k].2)))) (s' ++ [.lst ((t.take k).map g)])).turn _
    rw [he]
    refine ⟨hI, ?_⟩
    rw [st_k1, List.take_succ_eq_append_getElem hk, List.map_append]
    rfl) (fun _ _ _ => rfl)
  obtain ⟨env', s1, h1, h2, h3⟩ := key
  simp only [List.length_map] at h2 h3
  rw [List.take_length] at h3
  subst h3
  exact ⟨env', h1, h2⟩
theorem shl_small (nm : Tx) (h : nm.length ≤ 4) (s : Store) : binV .shl (.d (.int 1)) (.d (.int (nm.length : Int))) s = .ok (.d (.int ((wN nm : Nat) : Int))) s := shl_ok nm.length (by omega) s
theorem wN_le {nm : Tx} (h : nm.length ≤ 4) : wN nm ≤ 16 ∧ 1 ≤ wN nm := by
  refine ⟨?_, Nat.one_le_two_pow⟩
  have : 2 ^ nm.length ≤ 2 ^ 4 := Nat.pow_le_pow_right (by omega) h
  exact this
theorem sp_choices (h : Has Δ "place_choices" 3 8 b_place_choices) (hb : Has Δ "bare_marks" 2 3 b_bare_marks) (hl : Has Δ "letter_of" 2 4 b_letter_of) (hm : Has Δ "marks_of" 2 5 b_marks_of) {M : Mach} {c n : Nat} {nm : Tx} {t : List Plc} (F : FC M c n nm t) (s : Store) :
    Φ Δ m (d + 2) "place_choices" [.d (machD M), .d (.tup (t.map plD)), .d (.str nm)] s = .ok (.new (chsD M nm t)) s := by
  rw [h.run rfl]
  obtain ⟨b0, _, _⟩ := mach3 (.str M.names) (.tup (M.good.map .bl)) (.tup (M.tab.map rowsD))
  obtain ⟨w16, w1⟩ := wN_le F.nl
  have nl := F.nl
  have nll : nm.length ≤ line := by show _ ≤ 16777216; omega
  have hr : okR ((wN nm : Nat) : Int) = true := okR1 (by omega) (by omega)
  have lp := app_forP (cx := cxΔ Δ m (d + 1)) (i := 4) (j := 5) (body := b_place_choices_3) t
    (fun k env => ∃ v4 v5 v6, env = [some (.d (machD M)), some (.d (.tup (t.map plD))), some (.d (.str nm)), some (.ref s.length), v4, v5, v6, none])
    (fun x => chD M nm x.2) s
    [some (.d (machD M)), some (.d (.tup (t.map plD))), some (.d (.str nm)), some (.ref s.length), none, none, none, none] ⟨_, _, _, rfl⟩ (by
    rintro k hk env ⟨v4, v5, v6, rfl⟩
    have zl := F.zl _ (List.getElem_mem hk)
    have tl := F.tl
    have hls : ((t.take k).map fun x => chD M nm x.2).length < line := by rw [List.length_map, List.length_take]; show min k _ < 16777216; omega
    generalize ((t.take k).map fun x => chD M nm x.2) = acc at *
    generalize t.map plD = TT at *
    generalize t[k] = x at *
    obtain ⟨b, z⟩ := x
    have zl : z.length ≤ 200 := zl
    have sb := fun s => sp_bare_marks (m := m) (d := d) hb nm z (by omega) s
    have fl : (bareZ nm z).length ≤ 200 := Nat.le_trans (List.length_filter_le _ _) zl
    have lc := lc_rng (n := wN nm) (j := 7) (test := fun e s => evC (cxΔ Δ m (d + 1)) y_place_choices_1 e s) (elt := fun e s => evE (cxΔ Δ m (d + 1)) x_place_choices_1 e s)
      (env := [some (.d (machD M)), some (.d (.tup TT)), some (.d (.str nm)), some (.ref s.length), some (.d (.int b)), some (.d (.str z)), some (.d (.str (bareZ nm z))), none]) (s := s ++ [.lst acc])
      (fun w => .int (czN M.names nm z w : Nat)) (by show _ ≤ 16777216; omega) (fun e => by unfold y_place_choices_1; simp) (fun w hw => by
        have s1 := sp_letter_of (m := m) (d := d) hl M.names (bareZ nm z ++ mkOf nm w) (s ++ [.lst acc])
        have s2 := sp_marks_of (m := m) (d := d) hm nm w hw (by omega) (s ++ [.lst acc])
        have l1 : (bareZ nm z).length + (mkOf nm w).length ≤ line := by
          have := (mkOf_sub nm w).length_le
          show _ ≤ 16777216
          omega
        unfold x_place_choices_1 machD czN
        generalize bareZ nm z = bz at *
        generalize mkOf nm w = mo at *
        generalize val M.names (fun x => decide (x ∈ bz ++ mo)) = vv at *
        simp [b0, s1, s2, hl.has, hm.has, l1])
    refine ⟨[some (.d (machD M)), some (.d (.tup TT)), some (.d (.str nm)), some (.ref s.length), some (.d (.int b)), some (.d (.str z)), some (.d (.str (bareZ nm z))), none], [], ?_, some (.d (.int b)), some (.d (.str z)), some (.d (.str (bareZ nm z))), ?_⟩
    · have sh := shl_small nm nl (s ++ [.lst acc])
      unfold chD
      unfold b_place_choices_3
      generalize wN nm = q at *
      generalize ((List.range q).map fun (w : Nat) => D.int (czN M.names nm z w : Nat)) = RR at *
      generalize bareZ nm z = bz at *
      unfold machD at *
      generalize M.good.map D.bl = GD at *
      generalize M.tab.map rowsD = TD at *
      generalize M.names = mn at *
      simp [sb, hb.has, nll, sh, hr, lc, hls, st_g0, st_p0]
    · simp only [List.map_cons, List.map_nil, kill_d, kill_r, kill_n, Nat.lt_succ_self, if_true])
  obtain ⟨env', hf, v4, v5, v6, rfl⟩ := lp
  have l0 : (0 : Nat) ≤ line := by decide
  unfold b_place_choices chsD
  generalize machD M = MD at *
  generalize (t.map fun x => chD M nm x.2) = CC at *
  simp [hf, l0, st_g0, st_k0]
theorem rowI_len (n : Nat) (f : Int → Int) : (rowI n f).length = n := by unfold rowI; rw [List.length_map, List.length_range]
theorem rowI_at {n : Nat} {f : Int → Int} {v : Nat} (h : v < n) : (rowI n f)[v]? = some (.int (f v)) := by
  unfold rowI
  rw [List.getElem?_map, List.getElem?_range h]
  rfl
theorem rowI_atI {n : Nat} {f : Int → Int} {v : Int} (h0 : 0 ≤ v) (h : v < n) : L2.atI (rowI n f) v = some (.int (f v)) := by
  rw [atI_pos h0 (by rw [rowI_len]; exact h), rowI_at (by omega), show ((v.toNat : Nat) : Int) = v by omega]
theorem rowI_set {n : Nat} {f g : Int → Int} {v : Nat} (h : v < n) {k : Int} (hk : g v = k) (ho : ∀ x : Nat, x < n → x ≠ v → g x = f x) : (rowI n f).set v (.int k) = rowI n g := by
  refine List.ext_getElem? fun i => ?_
  by_cases q : i < n
  · rw [List.getElem?_set, rowI_len, rowI_at (f := g) q]
    by_cases e : v = i
    · subst e
      rw [if_pos rfl, if_pos h, hk]
    · rw [if_neg e, rowI_at q, ho i q (fun h => e h.symm)]
  · rw [List.getElem?_eq_none (by rw [List.length_set, rowI_len]; omega), List.getElem?_eq_none (by rw [rowI_len]; omega)]
theorem rowI_congr {n : Nat} {f g : Int → Int} (h : ∀ x : Nat, x < n → f x = g x) : rowI n f = rowI n g := by
  unfold rowI
  refine List.map_congr_left fun x hx => ?_
  rw [h x (List.mem_range.mp hx)]
theorem rep_zero (n : Nat) : (List.replicate n [D.int 0]).flatten = rowI n fun _ => 0 := by
  unfold rowI
  induction n with
  | zero => rfl
  | succ n ih => rw [List.replicate_succ', List.flatten_append, ih, List.range_succ, List.map_append]; rfl
/-- a row of noughts -/
theorem mul_zero_row {n : Nat} (h : n ≤ 1000) (s : Store) : binV .mul (.new [.int 0]) (.d (.int (n : Int))) s = .ok (.new (rowI n fun _ => 0)) s := by
  rw [bin_rep, if_pos (by refine ⟨?_, by omega, by omega⟩; simp only [List.length_cons, List.length_nil, Int.toNat_natCast]; show _ ≤ 16777216; omega), Int.toNat_natCast, rep_zero]
theorem sp_branch (h : Has Δ "branch_ways" 3 4 b_branch_ways) (C : Val) (o : Option Int) (fs : List (Int → Int)) (n : Nat) (n1 : 1 ≤ n) (n2 : n ≤ 1000) (s : Store)
    (ix : ∀ p, o = some p → ixV C (.d (.int p)) s = .ok (.d (.lst (rowI n (opG cnt0 o fs)))) s) :
    ∃ v, Φ Δ m (d + 1) "branch_ways" [C, .d (oD o), .d (.int n)] s = .ok v s ∧ toD v s = some (.lst (rowI n (opG cnt0 o fs)), s) := by
  cases o with
  | some p =>
    refine ⟨.d (.lst (rowI n (opG cnt0 (some p) fs))), ?_, rfl⟩
    have ix := ix p rfl
    rw [h.run rfl]
    unfold b_branch_ways oD
    generalize rowI n (opG cnt0 (some p) fs) = RR at *
    simp [ix]
  | none =>
    refine ⟨.new (rowI n cnt0), ?_, rfl⟩
    rw [h.run rfl]
    have mz := mul_zero_row n2 s
    have st := rowI_set (n := n) (f := fun _ => 0) (g := cnt0) (v := 0) (k := 1) (show 0 < n by omega) rfl (fun x _ hx => by
      show (if (x : Int) = 0 then 1 else 0) = _
      rw [if_neg (by omega)])
    have ixn : L2.ixN (rowI n fun _ => 0).length 0 = some 0 := ixN_nat (i := 0) (show 0 < _ by rw [rowI_len]; omega)
    unfold b_branch_ways oD
    have l1 : (1 : Nat) ≤ line := by decide
    generalize rowI n (fun _ => 0) = R0 at *
    generalize rowI n cnt0 = R1 at *
    simp [mz, l1, st_g0, st_p0, st_k0, ixn, st]
end
end Pv

/-! Fillings: the ways of all parts. -/
namespace Pv
open PySem
section
variable {Δ : Prog} {m d : Nat}
def pwE (M : Mach) (LK CH : D) (n r0 : Nat) (p : Int) (LF RG : D) (low high prs v12 : Option Val) : Env :=
  [some (.d (machD M)), some (.d LK), some (.d CH), some (.d (.int n)), some (.ref r0), some (.d (.int p)), some (.d LF), some (.d RG), some (.ref (r0 + 1)), low, high, prs, v12]
theorem pw_letters {M : Mach} {c n : Nat} (W : WF M c n) (nm z : Tx) (s : Store) (acc : List D) (LK CH LF RG : D) (p : Int) {low high : Nat} (hl : low < n) (hh : high < n) (prs : Int) (f : Int → Int) (v12 : Option Val) :
    ∃ v12', forL ⟨(List.range (wN nm)).map fun (w : Nat) => .int (czN M.names nm z w : Nat), none⟩ (s.length + 2) (.name 12) (fun e s => evSs (cxΔ Δ m d) b_part_ways_1 e s) ((List.range (wN nm)).map fun (w : Nat) => .int (czN M.names nm z w : Nat))
      (pwE M LK CH n s.length p LF RG (some (.d (.int low))) (some (.d (.int high))) (some (.d (.int prs))) v12) (s ++ [.lst acc, .lst (rowI n f)]) =
      .nx (pwE M LK CH n s.length p LF RG (some (.d (.int low))) (some (.d (.int high))) (some (.d (.int prs))) v12') (s ++ [.lst acc, .lst (rowI n fun y => f y + prs * waysI (wN nm) (stM M nm) z low high y)]) := by
  have key := forL_inv (w := ⟨(List.range (wN nm)).map fun (w : Nat) => .int (czN M.names nm z w : Nat), none⟩) (n := s.length + 2) (tg := .name 12) (body := fun e s => evSs (cxΔ Δ m d) b_part_ways_1 e s)
    (env := pwE M LK CH n s.length p LF RG (some (.d (.int low))) (some (.d (.int high))) (some (.d (.int prs))) v12) (s := s ++ [.lst acc, .lst (rowI n f)])
    (fun i env s1 => (∃ v, env = pwE M LK CH n s.length p LF RG (some (.d (.int low))) (some (.d (.int high))) (some (.d (.int prs))) v) ∧ s1 = s ++ [.lst acc, .lst (rowI n fun y => f y + prs * tot (fun w => if stM M nm z w low high = y then 1 else 0) (List.range i))])
    ⟨⟨_, rfl⟩, by rw [rowI_congr (f := fun y => f y + prs * tot (fun w => if stM M nm z w low high = y then 1 else 0) (List.range 0)) (g := f) (fun x _ => by simp [tot])]⟩ (by
    rintro i dd env s1 hdd ⟨⟨v, rfl⟩, rfl⟩
    obtain ⟨hi, hdd⟩ := List.getElem?_eq_some_iff.mp hdd
    simp only [List.length_map, List.length_range] at hi
    simp only [List.getElem_map, List.getElem_range] at hdd
    subst hdd
    refine ⟨rfl, _, rfl, ?_⟩
    obtain ⟨rows, row, a1, a2, a3, e0, e1⟩ := tab_at W (czN_lt W nm z i) (l := (low : Int)) (r := (high : Int)) (by omega) (by omega) (by omega) (by omega)
    have es : stM M nm z i low high = entI M (czN M.names nm z i) low high := rfl
    have hg := rowI_set (n := n) (f := fun y => f y + prs * tot (fun w => if stM M nm z w low high = y then 1 else 0) (List.range i)) (g := fun y => f y + prs * tot (fun w => if stM M nm z w low high = y then 1 else 0) (List.range (i + 1)))
      (v := (stM M nm z i low high).toNat) (k := (f (stM M nm z i low high) + prs * tot (fun w => if stM M nm z w low high = stM M nm z i low high then 1 else 0) (List.range i)) + prs) (by rw [es]; omega) (by
        rw [show (((stM M nm z i low high).toNat : Nat) : Int) = stM M nm z i low high by rw [es]; omega]
        simp only [tot_range_succ, if_true]
        rw [Int.mul_add, Int.mul_one, Int.add_assoc]) (fun x hx hne => by
        have : ¬ stM M nm z i low high = (x : Int) := fun q => hne (by rw [q]; omega)
        simp only [tot_range_succ, if_neg this, Int.add_zero])
    have hat := rowI_at (n := n) (f := fun y => f y + prs * tot (fun w => if stM M nm z w low high = y then 1 else 0) (List.range i)) (v := (stM M nm z i low high).toNat) (by rw [es]; omega)
    rw [show (((stM M nm z i low high).toNat : Nat) : Int) = stM M nm z i low high by rw [es]; omega] at hat
    have hix : L2.ixN (rowI n fun y => f y + prs * tot (fun w => if stM M nm z w low high = y then 1 else 0) (List.range i)).length (stM M nm z i low high) = some (stM M nm z i low high).toNat := by
      have := ixN_nat (n := (rowI n fun y => f y + prs * tot (fun w => if stM M nm z w low high = y then 1 else 0) (List.range i)).length) (i := (stM M nm z i low high).toNat) (by rw [rowI_len, es]; omega)
      rw [show (((stM M nm z i low high).toNat : Nat) : Int) = stM M nm z i low high by rw [es]; omega] at this
      exact this
    rw [← es] at a3 e0
    obtain ⟨_, _, b2⟩ := mach3 (.str M.names) (.tup (M.good.map .bl)) (.tup (M.tab.map rowsD))
    unfold b_part_ways_1
    generalize (rowI n fun y => f y + prs * tot (fun w => if stM M nm z w low high = y then 1 else 0) (List.range i)) = R0 at *
    generalize (rowI n fun y => f y + prs * tot (fun w => if stM M nm z w low high = y then 1 else 0) (List.range (i + 1))) = R1 at *
    generalize f (stM M nm z i low high) + prs * tot (fun w => if stM M nm z w low high = stM M nm z i low high then 1 else 0) (List.range i) = X at *
    generalize stM M nm z i low high = V at *
    generalize czN M.names nm z i = K at *
    unfold pwE machD
    generalize M.good.map D.bl = GD at *
    generalize M.tab.map rowsD = TD at *
    generalize M.names = mn at *
    simp [b2, a1, a2, a3, st_g1, st_p1, st_k2, hat, hix, hg, e0]) (fun _ _ _ => rfl)
  obtain ⟨env', s', h1, ⟨v, h2⟩, h3⟩ := key
  simp only [List.length_map, List.length_range] at h2 h3
  subst h2 h3
  exact ⟨v, h1⟩
theorem pw_highs {M : Mach} {c n : Nat} (W : WF M c n) (n2 : n ≤ 1000) (nm z : Tx) (s : Store) (acc chs : List D) (LK : D) (L R : Int → Int) (p : Int) (hch : L2.atI chs p = some (chD M nm z)) {low : Nat} (hl : low < n)
    (nn : ∀ a b : Nat, a < n → b < n → 0 ≤ L a * R b) (ok : ∀ a b : Nat, a < n → b < n → okMul (L a) (R b) = true) (f : Int → Int) (v10 v11 v12 : Option Val) :
    ∃ w10 w11 w12, forL ⟨rangeL 0 n, none⟩ (s.length + 2) (.name 10) (fun e s => evSs (cxΔ Δ m d) b_part_ways_2 e s) (rangeL 0 n)
      (pwE M LK (.lst chs) n s.length p (.lst (rowI n L)) (.lst (rowI n R)) (some (.d (.int low))) v10 v11 v12) (s ++ [.lst acc, .lst (rowI n f)]) =
      .nx (pwE M LK (.lst chs) n s.length p (.lst (rowI n L)) (.lst (rowI n R)) (some (.d (.int low))) w10 w11 w12) (s ++ [.lst acc, .lst (rowI n fun y => f y + tot (fun b : Nat => L low * R b * waysI (wN nm) (stM M nm) z low b y) (List.range n))]) := by
  have key := forL_inv (w := ⟨rangeL 0 n, none⟩) (n := s.length + 2) (tg := .name 10) (body := fun e s => evSs (cxΔ Δ m d) b_part_ways_2 e s)
    (env := pwE M LK (.lst chs) n s.length p (.lst (rowI n L)) (.lst (rowI n R)) (some (.d (.int low))) v10 v11 v12) (s := s ++ [.lst acc, .lst (rowI n f)])
    (fun i env s1 => (∃ w10 w11 w12, env = pwE M LK (.lst chs) n s.length p (.lst (rowI n L)) (.lst (rowI n R)) (some (.d (.int low))) w10 w11 w12) ∧ s1 = s ++ [.lst acc, .lst (rowI n fun y => f y + tot (fun b : Nat => L low * R b * waysI (wN nm) (stM M nm) z low b y) (List.range i))])
    ⟨⟨_, _, _, rfl⟩, by rw [rowI_congr (f := fun y => f y + tot (fun b : Nat => L low * R b * waysI (wN nm) (stM M nm) z low b y) (List.range 0)) (g := f) (fun x _ => by simp [tot])]⟩ (by
    rintro i dd env s1 hdd ⟨⟨w10, w11, w12, rfl⟩, rfl⟩
    obtain ⟨hi, rfl⟩ := rl_get _ hdd
    rw [Int.zero_add]
    refine ⟨rfl, _, rfl, ?_⟩
    have a1 := rowI_atI (n := n) (f := L) (v := (low : Int)) (by omega) (by omega)
    have a2 := rowI_atI (n := n) (f := R) (v := (i : Int)) (by omega) (by omega)
    have nn := nn low i hl hi
    have ok := ok low i hl hi
    have lt := pw_letters (Δ := Δ) (m := m) (d := d) W nm z s acc LK (.lst chs) (.lst (rowI n L)) (.lst (rowI n R)) p hl hi (L low * R i) (fun y => f y + tot (fun b : Nat => L low * R b * waysI (wN nm) (stM M nm) z low b y) (List.range i)) w12
    obtain ⟨v12', lt⟩ := lt
    have hr : rowI n (fun y => f y + tot (fun b : Nat => L low * R b * waysI (wN nm) (stM M nm) z low b y) (List.range (i + 1))) = rowI n (fun y => f y + tot (fun b : Nat => L low * R b * waysI (wN nm) (stM M nm) z low b y) (List.range i) + L low * R i * waysI (wN nm) (stM M nm) z low i y) :=
      rowI_congr fun x _ => by rw [tot_range_succ, Int.add_assoc]
    rw [hr]
    have h0 : ¬ 0 < L low * R i → rowI n (fun y => f y + tot (fun b : Nat => L low * R b * waysI (wN nm) (stM M nm) z low b y) (List.range i) + L low * R i * waysI (wN nm) (stM M nm) z low i y) = rowI n (fun y => f y + tot (fun b : Nat => L low * R b * waysI (wN nm) (stM M nm) z low b y) (List.range i)) := fun q =>
      rowI_congr fun x _ => by rw [show L low * R i = 0 by omega, Int.zero_mul, Int.add_zero]
    unfold chD at hch
    generalize rowI n (fun y => f y + tot (fun b : Nat => L low * R b * waysI (wN nm) (stM M nm) z low b y) (List.range i) + L low * R i * waysI (wN nm) (stM M nm) z low i y) = R1 at *
    generalize rowI n (fun y => f y + tot (fun b : Nat => L low * R b * waysI (wN nm) (stM M nm) z low b y) (List.range i)) = R0 at *
    generalize ((List.range (wN nm)).map fun (w : Nat) => D.int (czN M.names nm z w : Nat)) = CL at *
    generalize rowI n L = LL at *
    generalize rowI n R = RR at *
    generalize L low = x at *
    generalize R i = y at *
    unfold pwE at *
    generalize machD M = MD at *
    unfold b_part_ways_2
    have ln : (s ++ [Cell.lst acc, Cell.lst R0]).length = s.length + 2 := by simp
    by_cases q : 0 < x * y
    · simp [a1, a2, ok, q, hch, lt, st_g1, st_p1, st_k2]
    · rw [h0 q]
      simp [a1, a2, ok, q, st_g1, st_p1, st_k2]) (fun _ _ _ => rfl)
  obtain ⟨env', s', h1, ⟨w10, w11, w12, h2⟩, h3⟩ := key
  simp only [rl_len] at h2 h3
  subst h2 h3
  exact ⟨w10, w11, w12, h1⟩
theorem pw_lows {M : Mach} {c n : Nat} (W : WF M c n) (n2 : n ≤ 1000) (nm z : Tx) (s : Store) (acc chs : List D) (LK : D) (L R : Int → Int) (p : Int) (hch : L2.atI chs p = some (chD M nm z))
    (nn : ∀ a b : Nat, a < n → b < n → 0 ≤ L a * R b) (ok : ∀ a b : Nat, a < n → b < n → okMul (L a) (R b) = true) (b : Int) (v9 v10 v11 v12 : Option Val) :
    ∃ w9 w10 w11 w12, forL ⟨rangeL 0 n, none⟩ (s.length + 2) (.name 9) (fun e s => evSs (cxΔ Δ m d) b_part_ways_3 e s) (rangeL 0 n)
      (pwE M LK (.lst chs) n s.length p (.lst (rowI n L)) (.lst (rowI n R)) v9 v10 v11 v12) (s ++ [.lst acc, .lst (rowI n fun _ => 0)]) =
      .nx (pwE M LK (.lst chs) n s.length p (.lst (rowI n L)) (.lst (rowI n R)) w9 w10 w11 w12) (s ++ [.lst acc, .lst (rowI n (cntF (wN nm) n (stM M nm) (b, z) L R))]) := by
  have key := forL_inv (w := ⟨rangeL 0 n, none⟩) (n := s.length + 2) (tg := .name 9) (body := fun e s => evSs (cxΔ Δ m d) b_part_ways_3 e s)
    (env := pwE M LK (.lst chs) n s.length p (.lst (rowI n L)) (.lst (rowI n R)) v9 v10 v11 v12) (s := s ++ [.lst acc, .lst (rowI n fun _ => 0)])
    (fun i env s1 => (∃ w9 w10 w11 w12, env = pwE M LK (.lst chs) n s.length p (.lst (rowI n L)) (.lst (rowI n R)) w9 w10 w11 w12) ∧ s1 = s ++ [.lst acc, .lst (rowI n fun y => tot (fun a : Nat => tot (fun b : Nat => L a * R b * waysI (wN nm) (stM M nm) z a b y) (List.range n)) (List.range i))])
    ⟨⟨_, _, _, _, rfl⟩, rfl⟩ (by
    rintro i dd env s1 hdd ⟨⟨w9, w10, w11, w12, rfl⟩, rfl⟩
    obtain ⟨hi, rfl⟩ := rl_get _ hdd
    rw [Int.zero_add]
    obtain ⟨x10, x11, x12, lt⟩ := pw_highs (Δ := Δ) (m := m) (d := d) W n2 nm z s acc chs LK L R p hch hi nn ok (fun y => tot (fun a : Nat => tot (fun b : Nat => L a * R b * waysI (wN nm) (stM M nm) z a b y) (List.range n)) (List.range i)) w10 w11 w12
    refine ⟨rfl, _, rfl, ?_⟩
    have hr : rowI n (fun y => tot (fun a : Nat => tot (fun b : Nat => L a * R b * waysI (wN nm) (stM M nm) z a b y) (List.range n)) (List.range (i + 1))) = rowI n (fun y => tot (fun a : Nat => tot (fun b : Nat => L a * R b * waysI (wN nm) (stM M nm) z a b y) (List.range n)) (List.range i) + tot (fun b : Nat => L i * R b * waysI (wN nm) (stM M nm) z i b y) (List.range n)) :=
      rowI_congr fun x _ => by rw [tot_range_succ]
    rw [hr]
    generalize rowI n (fun y => tot (fun a : Nat => tot (fun b : Nat => L a * R b * waysI (wN nm) (stM M nm) z a b y) (List.range n)) (List.range i) + tot (fun b : Nat => L i * R b * waysI (wN nm) (stM M nm) z i b y) (List.range n)) = R1 at *
    generalize rowI n (fun y => tot (fun a : Nat => tot (fun b : Nat => L a * R b * waysI (wN nm) (stM M nm) z a b y) (List.range n)) (List.range i)) = R0 at *
    have hr : okR (n : Int) = true := okR1 (by omega) (by omega)
    generalize rowI n L = LL at *
    generalize rowI n R = RR at *
    unfold pwE at *
    generalize machD M = MD at *
    unfold b_part_ways_3
    simp [hr, lt, st_g1, st_p1, st_k2]) (fun _ _ _ => rfl)
  obtain ⟨env', s', h1, ⟨w9, w10, w11, w12, h2⟩, h3⟩ := key
  simp only [rl_len] at h2 h3
  subst h2 h3
  exact ⟨w9, w10, w11, w12, h1⟩
end
end Pv

/-! Fillings: the form. -/
namespace Pv
open PySem
theorem lg_lt {x : Int} {k : Nat} (h0 : 0 ≤ x) (h : x ≤ ((2 ^ k : Nat) : Int)) : x.natAbs.log2 ≤ k := by
  by_cases q : x.natAbs = 0
  · rw [q]
    exact Nat.zero_le _
  · have : x.natAbs < 2 ^ (k + 1) := by
      rw [Nat.pow_succ]
      have : 1 ≤ 2 ^ k := Nat.one_le_two_pow
      omega
    have := (Nat.log2_lt q).2 this
    omega
theorem okMul_lg {x y : Int} {j k : Nat} (x0 : 0 ≤ x) (hx : x ≤ ((2 ^ j : Nat) : Int)) (y0 : 0 ≤ y) (hy : y ≤ ((2 ^ k : Nat) : Int)) (hj : j ≤ 5000) (hk : k ≤ 5000) : okMul x y = true := by
  have h1 := lg_lt x0 hx
  have h2 := lg_lt y0 hy
  unfold okMul
  rw [Bool.or_eq_true]
  right
  rw [decide_eq_true_eq]
  omega
theorem pow_w (nm : Tx) (k : Nat) : ((wN nm : Nat) : Int) ^ k = ((2 ^ (nm.length * k) : Nat) : Int) := by
  rw [Nat.pow_mul, Int.natCast_pow (2 ^ nm.length) k]
theorem pow_mono {j k : Nat} (h : j ≤ k) : ((2 ^ j : Nat) : Int) ≤ ((2 ^ k : Nat) : Int) := by
  have : 2 ^ j ≤ 2 ^ k := Nat.pow_le_pow_right (by omega) h
  omega
theorem cnt_bd {nm : Tx} {st : Tx → Nat → Int → Int → Int} (hn : nm.length ≤ 4) (T : TT) (hT : (fl T).length ≤ 200) (x : Int) : 0 ≤ cntI (Fl (wN nm) st T) x ∧ cntI (Fl (wN nm) st T) x ≤ ((2 ^ 800 : Nat) : Int) := by
  refine ⟨cntI_nn _ _, ?_⟩
  have := cnt_le (W := wN nm) (st := st) T x
  rw [pow_w] at this
  refine Int.le_trans this (pow_mono ?_)
  have := Nat.mul_le_mul hn hT
  omega
theorem app_len3 {A B : List Plc} {l r : TT} {z : Tx} {t : List Plc} (e : t = A ++ fl (.n l r z) ++ B) : t.length = A.length + (fl l).length + (fl r).length + 1 + B.length := by
  rw [e, List.length_append, List.length_append, fl_len]
  omega
section
variable {Δ : Prog} {m d : Nat}
theorem sp_part_ways (h : Has Δ "part_ways" 3 13 b_part_ways) (hb : Has Δ "branch_ways" 3 4 b_branch_ways) {M : Mach} {c n : Nat} {nm : Tx} {t : List Plc} (F : FC M c n nm t) (s : Store) :
    Φ Δ m (d + 2) "part_ways" [.d (machD M), .d (.tup (linksI t)), .d (.lst (chsD M nm t))] s = .ok (.new (cntsD M nm n t)) s := by
  rw [h.run rfl]
  have n1 := F.n1
  have n2 := F.n2
  have key := forL_inv (w := ⟨rangeL 0 t.length, none⟩) (n := s.length + 1) (tg := .name 5) (body := fun e s => evSs (cxΔ Δ m (d + 1)) b_part_ways_4 e s)
    (env := [some (.d (machD M)), some (.d (.tup (linksI t))), some (.d (.lst (chsD M nm t))), some (.d (.int n)), some (.ref s.length), none, none, none, none, none, none, none, none]) (s := s ++ [.lst []])
    (fun i env s1 => (∃ v5 v6 v7 v8 v9 v10 v11 v12, env = [some (.d (machD M)), some (.d (.tup (linksI t))), some (.d (.lst (chsD M nm t))), some (.d (.int n)), some (.ref s.length), v5, v6, v7, v8, v9, v10, v11, v12]) ∧
      s1 = s ++ [.lst ((stG (cntF (wN nm) n (stM M nm)) cnt0 (preP t i)).reverse.map fun f => .lst (rowI n f))])
    ⟨⟨_, _, _, _, _, _, _, _, rfl⟩, rfl⟩ (by
    rintro i dd env s1 hdd ⟨⟨v5, v6, v7, v8, v9, v10, v11, v12, rfl⟩, rfl⟩
    obtain ⟨hi, rfl⟩ := rl_get _ hdd
    rw [Int.zero_add]
    -- the place
    obtain ⟨A, l, r, z, B, et, ep, wA⟩ := place_dec F.wd hi
    have tl := F.tl
    have el := app_len3 et
    have lk := linksI_at hi
    have hz : t[i] = (brn l r, z) := by
      have q := (at_n (A := A) (B := B) (l := l) (r := r) (z := z) (p := i) ep.symm).choose_spec
      simp only [← et] at q
      exact q
    have ea : ∃ bz : Plc, t[i] = bz ∧ bz.2 = z := ⟨_, hz, rfl⟩
    have ch : L2.atI (chsD M nm t) (i : Int) = some (chD M nm z) := by
      unfold chsD
      rw [atI_pos (by omega) (by rw [List.length_map]; omega), Int.toNat_natCast, List.getElem?_map, List.getElem?_eq_getElem hi, hz]
      rfl
    have lk2 : L2.atI (linksI t) (i : Int) = some (.tup [oD (lft t[i].1 (pre t i)), oD (rgt t[i].1 (pre t i))]) := by
      rw [atI_pos (by omega) (by rw [linksI_len]; omega), Int.toNat_natCast, lk]
    have pl := preP_len (t := t) (i := i) (by omega)
    have sl : (stG (cntF (wN nm) n (stM M nm)) cnt0 (preP t i)).length = i := by rw [stG_len, pl]
    have eP : preP t i = (A ++ fl l ++ fl r).reverse := by
      unfold preP
      congr 1
      rw [et, (fl_split A B l r z).2, List.take_left' (by simp; omega)]
    have el1 : lft t[i].1 (pre t i) = topO A.length l ∧ rgt t[i].1 (pre t i) = topO (A ++ fl l).length r := by
      have q := pre_n (A := A) (B := B) (l := l) (r := r) (z := z) (p := i) ep.symm
      rw [← et] at q
      rw [hz, q]
      obtain ⟨h1, h2⟩ := lr_tt l r wA
      rw [bi_len] at h1 h2
      unfold topO
      rw [List.length_append, Int.natCast_add, Int.add_comm ((A.length : Nat) : Int)]
      exact ⟨h1, h2⟩
    have oL : opG cnt0 (lft t[i].1 (pre t i)) (stG (cntF (wN nm) n (stM M nm)) cnt0 (preP t i)) = cntI (Fl (wN nm) (stM M nm) l) := by
      rw [el1.1, eP, op_dec (cntF (wN nm) n (stM M nm)) cnt0 (A := A) (B := fl r) (T := l) wA, toG_cnt (stM_stp F.W nm) n1]
    have oR : opG cnt0 (rgt t[i].1 (pre t i)) (stG (cntF (wN nm) n (stM M nm)) cnt0 (preP t i)) = cntI (Fl (wN nm) (stM M nm) r) := by
      have q := op_dec (cntF (wN nm) n (stM M nm)) cnt0 (A := A ++ fl l) (B := []) (T := r) (wd_two wA)
      rw [List.append_nil] at q
      rw [el1.2, eP, q, toG_cnt (stM_stp F.W nm) n1]
    have inL : ∀ p, lft t[i].1 (pre t i) = some p → 0 ≤ p ∧ p < (i : Int) := fun p hp => by
      rw [el1.1] at hp
      have := topO_in hp
      omega
    have inR : ∀ p, rgt t[i].1 (pre t i) = some p → 0 ≤ p ∧ p < (i : Int) := fun p hp => by
      rw [el1.2] at hp
      have := topO_in hp
      rw [List.length_append] at this
      omega
    have eS : stG (cntF (wN nm) n (stM M nm)) cnt0 (preP t (i + 1)) = cntF (wN nm) n (stM M nm) (brn l r, z) (opG cnt0 (lft t[i].1 (pre t i)) (stG (cntF (wN nm) n (stM M nm)) cnt0 (preP t i))) (opG cnt0 (rgt t[i].1 (pre t i)) (stG (cntF (wN nm) n (stM M nm)) cnt0 (preP t i))) :: stG (cntF (wN nm) n (stM M nm)) cnt0 (preP t i) := by
      rw [preP_succ hi, stG, preP_map, hz]
    have ixC : ∀ (o : Option Int) (s2 : Store) (cs : List D), cs = ((stG (cntF (wN nm) n (stM M nm)) cnt0 (preP t i)).reverse.map fun f => D.lst (rowI n f)) → (∀ p, o = some p → 0 ≤ p ∧ p < (i : Int)) →
        ∀ p, o = some p → ixR (some cs) p s2 = .ok (.d (.lst (rowI n (opG cnt0 o (stG (cntF (wN nm) n (stM M nm)) cnt0 (preP t i)))))) s2 := fun o s2 cs hcs ho p hp => by
      obtain ⟨p0, p1⟩ := ho p hp
      subst hp hcs
      rw [ixR_some, atI_pos p0 (by rw [List.length_map, List.length_reverse, sl]; exact p1), List.getElem?_map]
      unfold opG
      have hq : p.toNat < (stG (cntF (wN nm) n (stM M nm)) cnt0 (preP t i)).reverse.length := by rw [List.length_reverse, sl]; omega
      simp only [List.getElem?_eq_getElem hq]
      rfl
    have lw := fun (f : List D) => pw_lows (Δ := Δ) (m := m) (d := d + 1) F.W n2 nm z s f (chsD M nm t) (.tup (linksI t)) (cntI (Fl (wN nm) (stM M nm) l)) (cntI (Fl (wN nm) (stM M nm) r)) (i : Int) ch
      (fun a b _ _ => Int.mul_nonneg (cntI_nn _ _) (cntI_nn _ _)) (fun a b _ _ => by
        obtain ⟨x0, x1⟩ := cnt_bd (nm := nm) (st := stM M nm) F.nl l (by omega) a
        obtain ⟨y0, y1⟩ := cnt_bd (nm := nm) (st := stM M nm) F.nl r (by omega) b
        exact okMul_lg x0 x1 y0 y1 (by omega) (by omega)) (brn l r)
    rw [eS]
    rw [List.reverse_cons, List.map_append]
    have sbG := fun (o : Option Int) s2 ix => sp_branch (m := m) (d := d) hb (.ref s.length) o (stG (cntF (wN nm) n (stM M nm)) cnt0 (preP t i)) n n1 n2 s2 ix
    have sbL := sbG (lft t[i].1 (pre t i))
    have sbR := sbG (rgt t[i].1 (pre t i))
    clear sbG
    have ixL := fun s2 cs hcs => ixC (lft t[i].1 (pre t i)) s2 cs hcs inL
    have ixRt := fun s2 cs hcs => ixC (rgt t[i].1 (pre t i)) s2 cs hcs inR
    rw [oL] at *
    rw [oR] at *
    generalize lft t[i].1 (pre t i) = oo1 at *
    generalize rgt t[i].1 (pre t i) = oo2 at *
    obtain ⟨x9, x10, x11, x12, lw⟩ := lw ((stG (cntF (wN nm) n (stM M nm)) cnt0 (preP t i)).reverse.map fun f => D.lst (rowI n f)) v9 v10 v11 v12
    obtain ⟨w1, b1, t1⟩ := sbL (s ++ [.lst ((stG (cntF (wN nm) n (stM M nm)) cnt0 (preP t i)).reverse.map fun f => D.lst (rowI n f))]) (fun p hp => by
      rw [ix_ref, st_g0]
      exact ixL _ _ rfl p hp)
    obtain ⟨w2, b2, t2⟩ := sbR (s ++ [.lst ((stG (cntF (wN nm) n (stM M nm)) cnt0 (preP t i)).reverse.map fun f => D.lst (rowI n f))]) (fun p hp => by
      rw [ix_ref, st_g0]
      exact ixRt _ _ rfl p hp)
    have hls : ((stG (cntF (wN nm) n (stM M nm)) cnt0 (preP t i)).reverse.map fun f => D.lst (rowI n f)).length < line := by rw [List.length_map, List.length_reverse, sl]; show i < 16777216; omega
    clear ixL ixRt sbL sbR ixC eS inL inR oL oR
    refine ⟨rfl, _, rfl, ?_⟩
    have mz := mul_zero_row n2 (s ++ [.lst ((stG (cntF (wN nm) n (stM M nm)) cnt0 (preP t i)).reverse.map fun f => D.lst (rowI n f))])
    have hr : okR (n : Int) = true := okR1 (by omega) (by omega)
    have l1 : (1 : Nat) ≤ line := by decide
    simp only [List.map_cons, List.map_nil]
    generalize ((stG (cntF (wN nm) n (stM M nm)) cnt0 (preP t i)).reverse.map fun f => D.lst (rowI n f)) = acc at *
    generalize rowI n (cntI (Fl (wN nm) (stM M nm) l)) = LL at *
    generalize rowI n (cntI (Fl (wN nm) (stM M nm) r)) = RR at *
    generalize rowI n (fun _ => 0) = R0 at *
    generalize rowI n (cntF (wN nm) n (stM M nm) (brn l r, z) (cntI (Fl (wN nm) (stM M nm) l)) (cntI (Fl (wN nm) (stM M nm) r))) = R1 at *
    unfold pwE at lw
    generalize linksI t = LK at *
    generalize chsD M nm t = CH at *
    generalize machD M = MD at *
    unfold b_part_ways_4
    simp [lk2, ix0, ix1, hb.has, b1, b2, t1, t2, mz, l1, hr, lw, st_g0, st_p0, st_g1, st_p1, st_k1, hls]) (fun _ _ _ => rfl)
  obtain ⟨env', s', h1, ⟨v5, v6, v7, v8, v9, v10, v11, v12, h2⟩, h3⟩ := key
  simp only [rl_len] at h2 h3
  subst h2 h3
  rw [preP_all] at h1
  obtain ⟨_, aa1, _⟩ := mach3 (.str M.names) (.tup (M.good.map .bl)) (.tup (M.tab.map rowsD))
  have gl : (M.good.map D.bl).length = n := by rw [List.length_map]; exact F.W.gl
  have l0 : (0 : Nat) ≤ line := by decide
  have hr : okR (t.length : Int) = true := lenR_ok (by have := F.tl; show t.length ≤ 16777216; omega)
  have ll := linksI_len t
  unfold b_part_ways cntsD
  unfold machD at *
  generalize M.good.map D.bl = GD at *
  generalize M.tab.map rowsD = TD at *
  generalize linksI t = LK at *
  generalize chsD M nm t = CH at *
  generalize ((stG (cntF (wN nm) n (stM M nm)) cnt0 t.reverse).reverse.map fun f => D.lst (rowI n f)) = CS at *
  simp [aa1, gl, l0, ll, hr, h1, st_g0, st_k0]
end
end Pv

/-! Fillings: what the ways of a place take, what is ahead. -/
namespace Pv
open PySem
theorem tot_sum {α : Type} (g : α → Int) : ∀ l : List α, (l.map g).sum = tot g l
  | [] => rfl
  | x :: l => by rw [List.map_cons, List.sum_cons, tot, tot_sum g l]
theorem sum_new (ns : List Int) (s : Store) : bltV .sum [.new (ns.map D.int)] s = .ok (.d (.int ns.sum)) s := by
  show (match allM intOf (ns.map D.int) with | some ns => _ | none => _) = _
  rw [allM_int]
theorem map_ints (g : Nat → Int) (n : Nat) : ((List.range n).map fun (k : Nat) => D.int (g k)) = ((List.range n).map g).map D.int := by rw [List.map_map]; rfl
theorem rowI_ints (n : Nat) (f : Int → Int) : rowI n f = ((List.range n).map fun (x : Nat) => f x).map D.int := map_ints (fun x => f x) n
theorem topO_n (a : Nat) (l r : TT) (z : Tx) : topO a (.n l r z) = some ((a + (fl l).length + (fl r).length : Nat) : Int) := by
  unfold topO
  rw [if_neg (by simp [TT.isE]), fl_len]
  congr 1
  omega
/-- the rows that taken_by_places tells -/
def topsD (W n : Nat) (st : Tx → Nat → Int → Int → Int) (tk : Int → Int) (z : Tx) : List D := (List.range n).map fun (a : Nat) => D.lst (rowI n (topsI W st tk z a))
theorem topsD_at {W n : Nat} {st : Tx → Nat → Int → Int → Int} {tk : Int → Int} {z : Tx} {a : Int} (h0 : 0 ≤ a) (h : a < n) : L2.atI (topsD W n st tk z) a = some (.lst (rowI n (topsI W st tk z a))) := by
  unfold topsD
  rw [atI_pos h0 (by rw [List.length_map, List.length_range]; exact h), List.getElem?_map, List.getElem?_range (by omega)]
  show some (D.lst (rowI n (topsI W st tk z ((a.toNat : Nat) : Int)))) = _
  rw [show ((a.toNat : Nat) : Int) = a by omega]
theorem fm4 (a b c e : D) : L2.atI [a, b, c, e] 0 = some a ∧ L2.atI [a, b, c, e] 1 = some b ∧ L2.atI [a, b, c, e] 2 = some c ∧ L2.atI [a, b, c, e] 3 = some e := ⟨rfl, rfl, rfl, rfl⟩
/-- a place of the tree and its parts -/
structure Pl (t : List Plc) (A B : List Plc) (l r : TT) (z : Tx) (p : Nat) : Prop where
  et : t = A ++ fl (.n l r z) ++ B
  ep : p = A.length + (fl l).length + (fl r).length
  wA : Wd (bi A)
section
variable {M : Mach} {c n : Nat} {nm : Tx} {t A B : List Plc} {l r : TT} {z : Tx} {p : Nat}
theorem Pl.lt (P : Pl t A B l r z p) : p < t.length := by
  have := app_len3 P.et
  have := P.ep
  omega
theorem Pl.lk (P : Pl t A B l r z p) : L2.atI (linksI t) (p : Int) = some (.tup [oD (topO A.length l), oD (topO (A ++ fl l).length r)]) := by
  rw [P.et]
  exact links_n P.wA P.ep
theorem Pl.ch (P : Pl t A B l r z p) : L2.atI (chsD M nm t) (p : Int) = some (chD M nm z) := by
  have h := P.lt
  have q := (at_n (A := A) (B := B) (l := l) (r := r) (z := z) (p := p) P.ep).choose_spec
  simp only [← P.et] at q
  unfold chsD
  rw [atI_pos (by omega) (by rw [List.length_map]; omega), Int.toNat_natCast, List.getElem?_map, List.getElem?_eq_getElem h, q]
  rfl
/-- what a part's top has of the numbers of fillings -/
theorem cnt_ix (F : FC M c n nm t) {A' B' : List Plc} {T : TT} (et : t = A' ++ fl T ++ B') (w : Wd (bi A')) (s : Store) : ∀ k, topO A'.length T = some k → ixV (.d (.lst (cntsD M nm n t))) (.d (.int k)) s = .ok (.d (.lst (rowI n (opG cnt0 (topO A'.length T) (stG (cntF (wN nm) n (stM M nm)) cnt0 t.reverse))))) s := fun k hk => by
  have hi := topO_in hk
  have tl : t.length = A'.length + (fl T).length + B'.length := by rw [et, List.length_append, List.length_append]
  rw [hk]
  unfold cntsD opG
  have hq : k.toNat < (stG (cntF (wN nm) n (stM M nm)) cnt0 t.reverse).reverse.length := by rw [List.length_reverse, stG_len, List.length_reverse]; omega
  rw [ix_lst, ixR_some, atI_pos hi.1 (by rw [List.length_map]; omega), List.getElem?_map]
  simp only [List.getElem?_eq_getElem hq]
  rfl
theorem cnt_op (F : FC M c n nm t) {A' B' : List Plc} {T : TT} (et : t = A' ++ fl T ++ B') (w : Wd (bi A')) : opG cnt0 (topO A'.length T) (stG (cntF (wN nm) n (stM M nm)) cnt0 t.reverse) = cntI (Fl (wN nm) (stM M nm) T) := by
  rw [et, op_dec _ _ w, toG_cnt (stM_stp F.W nm) F.n1]
variable {Δ : Prog} {m d : Nat}
theorem sp_branch2 (hb : Has Δ "branch_ways" 3 4 b_branch_ways) (F : FC M c n nm t) {A' B' : List Plc} {T : TT} (et : t = A' ++ fl T ++ B') (w : Wd (bi A')) (s : Store) :
    ∃ v, Φ Δ m (d + 1) "branch_ways" [.d (.lst (cntsD M nm n t)), .d (oD (topO A'.length T)), .d (.int n)] s = .ok v s ∧ toD v s = some (.lst (rowI n (cntI (Fl (wN nm) (stM M nm) T))), s) := by
  have h := sp_branch (m := m) (d := d) hb (.d (.lst (cntsD M nm n t))) (topO A'.length T) (stG (cntF (wN nm) n (stM M nm)) cnt0 t.reverse) n F.n1 F.n2 s (cnt_ix F et w s)
  rw [cnt_op F et w] at h
  exact h
theorem sp_form (h : Has Δ "filling_form" 3 5 b_filling_form) (hre : Has Δ "refuse_names" 1 1 b_refuse_names) (hL : Has Δ "links_of" 1 7 b_links_of) (hpc : Has Δ "place_choices" 3 8 b_place_choices) (hbm : Has Δ "bare_marks" 2 3 b_bare_marks)
    (hl : Has Δ "letter_of" 2 4 b_letter_of) (hm : Has Δ "marks_of" 2 5 b_marks_of) (hpw : Has Δ "part_ways" 3 13 b_part_ways) (hb : Has Δ "branch_ways" 3 4 b_branch_ways) (g : Δ.glob "MOST_NAMES" = some (.int 4)) (F : FC M c n nm t) (s : Store) :
    Φ Δ m (d + 3) "filling_form" [.d (machD M), .d (.tup (t.map plD)), .d (.str nm)] s = .ok (.d (formD M nm n t)) s := by
  rw [h.run rfl]
  have r1 := sp_refuse (m := m) (d := d + 1) hre g nm F.nl s
  have r2 := sp_links (m := m) (d := d + 1) hL t F.wd (by have := F.tl; show t.length < 16777216; omega) s
  have r3 := sp_choices (m := m) (d := d) hpc hbm hl hm F s
  have r4 := sp_part_ways (m := m) (d := d) hpw hb F s
  have l4 : (4 : Nat) ≤ line := by decide
  unfold b_filling_form formD
  generalize machD M = MD at *
  generalize t.map plD = TT at *
  generalize linksI t = LK at *
  generalize chsD M nm t = CH at *
  generalize cntsD M nm n t = CN at *
  simp [r1, r2, r3, r4, hre.has, hL.has, hpc.has, hpw.has, l4]
theorem sp_top_of (h : Has Δ "top_of" 1 1 b_top_of) (T : TT) (s : Store) : Φ Δ m (d + 1) "top_of" [.d (.tup (linksI (fl T)))] s = .ok (.d (oD (topO 0 T))) s := by
  rw [h.run rfl]
  have ll := linksI_len (fl T)
  unfold b_top_of
  cases T with
  | e =>
    have : linksI (fl .e) = [] := List.eq_nil_of_length_eq_zero ll
    rw [this]
    simp [topO, TT.isE, oD]
  | n l r z =>
    rw [topO_n]
    rw [fl_len] at ll
    have q : ¬ ((linksI (fl (.n l r z))).length : Int) = 0 := by omega
    have e : ((linksI (fl (.n l r z))).length : Int) - 1 = ((0 + (fl l).length + (fl r).length : Nat) : Int) := by omega
    unfold oD
    rw [← e]
    generalize linksI (fl (.n l r z)) = LK at *
    have q2 : ¬ LK = [] := fun h => by rw [h] at q; simp at q
    simp [q2]
theorem sp_tk_good (h : Has Δ "taken_by_good" 1 2 b_taken_by_good) (W : WF M c n) (n2 : n ≤ 1000) (s : Store) : Φ Δ m (d + 1) "taken_by_good" [.d (machD M)] s = .ok (.new (rowI n fun y => if M.good.getD y.toNat false = true then 1 else 0)) s := by
  rw [h.run rfl]
  obtain ⟨_, aa1, _⟩ := mach3 (.str M.names) (.tup (M.good.map .bl)) (.tup (M.tab.map rowsD))
  have lc := lcL_map (w := ⟨M.good.map D.bl, none⟩) (tg := .name 1) (test := fun e s => evC (cxΔ Δ m d) y_taken_by_good_1 e s) (elt := fun e s => evE (cxΔ Δ m d) x_taken_by_good_1 e s) (env := [some (.d (machD M)), none]) (s := s)
    (fun _ => true) (fun dd => match dd with | .bl b => .int (if b = true then 1 else 0) | _ => .non) (M.good.map D.bl) [] rfl (by have := W.gl; simp only [List.length_nil, List.length_map]; show _ ≤ 16777216; omega) (fun dd hdd => by
      obtain ⟨b, _, rfl⟩ := List.mem_map.mp hdd
      refine ⟨_, rfl, by unfold y_taken_by_good_1; simp, fun _ => ⟨.d (.int (if b = true then 1 else 0)), ?_, rfl⟩⟩
      unfold x_taken_by_good_1
      simp)
  have e : (List.filter (fun _ => true) (M.good.map D.bl)).map (fun dd => match dd with | .bl b => D.int (if b = true then 1 else 0) | _ => .non) = rowI n fun y => if M.good.getD y.toNat false = true then 1 else 0 := by
    rw [List.filter_eq_self.mpr (fun _ _ => rfl), List.map_map]
    unfold rowI
    refine List.ext_getElem (by simp [W.gl]) fun i h1 h2 => ?_
    simp only [List.length_map] at h1
    simp only [List.getElem_map, List.getElem_range, Function.comp, Int.toNat_natCast, List.getD_eq_getElem?_getD, List.getElem?_eq_getElem h1, Option.getD_some]
  rw [List.nil_append, e] at lc
  unfold b_taken_by_good
  generalize rowI n (fun y => if M.good.getD y.toNat false = true then 1 else 0) = R at *
  unfold machD at *
  generalize M.good.map D.bl = GD at *
  generalize M.tab.map rowsD = TD at *
  simp [aa1, lc]
end
end Pv

/-! Fillings: what the ways of a place take, what is ahead. -/
namespace Pv
open PySem
section
variable {M : Mach} {c n : Nat} {nm : Tx} {t A B : List Plc} {l r : TT} {z : Tx} {p : Nat}
variable {Δ : Prog} {m d : Nat}
theorem sp_tk_places (h : Has Δ "taken_by_places" 3 10 b_taken_by_places) (F : FC M c n nm t) (P : Pl t A B l r z p) (tk : Int → Int) (s : Store) :
    Φ Δ m (d + 1) "taken_by_places" [.d (formD M nm n t), .d (.int (p : Int)), .d (.lst (rowI n tk))] s = .ok (.new (topsD (wN nm) n (stM M nm) tk z)) s := by
  rw [h.run rfl]
  have n1 := F.n1
  have n2 := F.n2
  have ch := P.ch (M := M) (nm := nm)
  obtain ⟨f0, _, f2, _⟩ := fm4 (machD M) (.tup (linksI t)) (.lst (chsD M nm t)) (.lst (cntsD M nm n t))
  obtain ⟨_, aa1, aa2⟩ := mach3 (.str M.names) (.tup (M.good.map .bl)) (.tup (M.tab.map rowsD))
  obtain ⟨w16, w1⟩ := wN_le F.nl
  -- the sum
  have lc := fun (env : Env) (s : Store) (low high : Nat) (hl : low < n) (hh : high < n) (e2 : env[2]? = some (some (.d (.lst (rowI n tk))))) (e3 : env[3]? = some (some (.d (machD M)))) (e6 : env[6]? = some (some (.d (.int low)))) (e8 : env[8]? = some (some (.d (.int high)))) (el : env.length = 10) =>
    lc_ints (j := 9) (test := fun e s => evC (cxΔ Δ m d) y_taken_by_places_1 e s) (elt := fun e s => evE (cxΔ Δ m d) x_taken_by_places_1 e s) (env := env) (s := s) ((List.range (wN nm)).map fun (w : Nat) => ((czN M.names nm z w : Nat) : Int)) (fun k => .int (tk (entI M k.toNat low high)))
      (by rw [List.length_map, List.length_range]; show _ ≤ 16777216; omega) (fun e => by unfold y_taken_by_places_1; simp) (fun o ho => by
        obtain ⟨w, hw, rfl⟩ := List.mem_map.mp ho
        obtain ⟨rows, row, a1, a2, a3, q0, q1⟩ := tab_at F.W (czN_lt F.W nm z w) (l := (low : Int)) (r := (high : Int)) (by omega) (by omega) (by omega) (by omega)
        have a4 := rowI_atI (f := tk) q0 q1
        have g9 : (env.set 9 (some (.d (.int ((czN M.names nm z w : Nat) : Int)))))[9]? = some (some (.d (.int ((czN M.names nm z w : Nat) : Int)))) := by rw [List.getElem?_set_self (by omega)]
        have g2 : (env.set 9 (some (.d (.int ((czN M.names nm z w : Nat) : Int)))))[2]? = some (some (.d (.lst (rowI n tk)))) := by rw [List.getElem?_set_ne (by decide), e2]
        have g3 : (env.set 9 (some (.d (.int ((czN M.names nm z w : Nat) : Int)))))[3]? = some (some (.d (machD M))) := by rw [List.getElem?_set_ne (by decide), e3]
        have g6 : (env.set 9 (some (.d (.int ((czN M.names nm z w : Nat) : Int)))))[6]? = some (some (.d (.int low))) := by rw [List.getElem?_set_ne (by decide), e6]
        have g8 : (env.set 9 (some (.d (.int ((czN M.names nm z w : Nat) : Int)))))[8]? = some (some (.d (.int high))) := by rw [List.getElem?_set_ne (by decide), e8]
        rw [Int.toNat_natCast]
        generalize entI M (czN M.names nm z w) low high = V at *
        generalize env.set 9 (some (.d (.int ((czN M.names nm z w : Nat) : Int)))) = env2 at *
        generalize czN M.names nm z w = K at *
        unfold x_taken_by_places_1
        unfold machD at *
        generalize M.good.map D.bl = GD at *
        generalize M.tab.map rowsD = TD at *
        generalize rowI n tk = RT at *
        simp [g2, g3, g6, g8, g9, aa2, a1, a2, a3, a4])
  have eC : chD M nm z = .lst (((List.range (wN nm)).map fun (w : Nat) => ((czN M.names nm z w : Nat) : Int)).map D.int) := by
    unfold chD
    rw [List.map_map]
    rfl
  have eS : ∀ low high : Nat, (((List.range (wN nm)).map fun (w : Nat) => ((czN M.names nm z w : Nat) : Int)).map fun k => D.int (tk (entI M k.toNat low high))) = ((List.range (wN nm)).map fun w => tk (stM M nm z w low high)).map D.int := fun low high => by
    rw [List.map_map, List.map_map]
    rfl
  rw [eC] at ch
  have inner := fun (s : Store) (FD : List D) (low : Nat) (hl : low < n) (v8 : Option Val) => app_for (cx := cxΔ Δ m d) (n := n) (j := 8) (body := b_taken_by_places_3)
    (fun k env => ∃ v8, env = [some (.d (formD M nm n t)), some (.d (.int (p : Int))), some (.d (.lst (rowI n tk))), some (.d (machD M)), some (.d (.int n)), some (.ref s.length), some (.d (.int low)), some (.ref (s.length + 1)), v8, none])
    (fun b => .int (topsI (wN nm) (stM M nm) tk z low b)) (s ++ [.lst FD])
    [some (.d (formD M nm n t)), some (.d (.int (p : Int))), some (.d (.lst (rowI n tk))), some (.d (machD M)), some (.d (.int n)), some (.ref s.length), some (.d (.int low)), some (.ref (s.length + 1)), v8, none] ⟨_, rfl⟩ (by
    rintro k env hk ⟨v8, rfl⟩
    have e1 := rng_succ (fun b : Nat => D.int (topsI (wN nm) (stM M nm) tk z low b)) k
    have hls : ((List.range k).map fun b : Nat => D.int (topsI (wN nm) (stM M nm) tk z low b)).length < line := by rw [List.length_map, List.length_range]; show k < 16777216; omega
    have eT : topsI (wN nm) (stM M nm) tk z low k = (((List.range (wN nm)).map fun w => tk (stM M nm z w low k))).sum := (tot_sum _ _).symm
    rw [e1]
    refine ⟨[some (.d (formD M nm n t)), some (.d (.int (p : Int))), some (.d (.lst (rowI n tk))), some (.d (machD M)), some (.d (.int n)), some (.ref s.length), some (.d (.int low)), some (.ref (s.length + 1)), some (.d (.int k)), none], [], ?_, some (.d (.int k)), ?_⟩
    · generalize ((List.range k).map fun b : Nat => D.int (topsI (wN nm) (stM M nm) tk z low b)) = acc at *
      have lc := lc [some (.d (formD M nm n t)), some (.d (.int (p : Int))), some (.d (.lst (rowI n tk))), some (.d (machD M)), some (.d (.int n)), some (.ref s.length), some (.d (.int low)), some (.ref (s.length + 1)), some (.d (.int k)), none] (s ++ [.lst FD] ++ [.lst acc]) low k hl hk rfl rfl rfl rfl rfl
      rw [eS] at lc
      have sn := sum_new ((List.range (wN nm)).map fun w => tk (stM M nm z w low k)) (s ++ [.lst FD] ++ [.lst acc])
      rw [← eT] at sn
      generalize topsI (wN nm) (stM M nm) tk z low k = TV at *
      generalize ((List.range (wN nm)).map fun w => tk (stM M nm z w low k)).map D.int = SL at *
      generalize ((List.range (wN nm)).map fun (w : Nat) => ((czN M.names nm z w : Nat) : Int)).map D.int = CL at *
      generalize rowI n tk = RT at *
      unfold formD at *
      generalize machD M = MD at *
      generalize linksI t = LK at *
      generalize chsD M nm t = CH at *
      generalize cntsD M nm n t = CN at *
      unfold b_taken_by_places_3
      rw [List.append_assoc, List.append_assoc] at *
      simp only [List.cons_append, List.nil_append] at *
      simp [f2, ch, lc, sn, hls, st_g1, st_p1]
    · simp only [List.map_cons, List.map_nil, kill_d, kill_r, kill_n, List.length_append, List.length_cons, List.length_nil]
      congr 6
      · rw [if_pos (by omega)]
      · congr 2
        rw [if_pos (by omega)])
  have outer := app_for (cx := cxΔ Δ m d) (n := n) (j := 6) (body := b_taken_by_places_4)
    (fun k env => ∃ v6 v7 v8, env = [some (.d (formD M nm n t)), some (.d (.int (p : Int))), some (.d (.lst (rowI n tk))), some (.d (machD M)), some (.d (.int n)), some (.ref s.length), v6, v7, v8, none])
    (fun a => .lst (rowI n (topsI (wN nm) (stM M nm) tk z a))) s
    [some (.d (formD M nm n t)), some (.d (.int (p : Int))), some (.d (.lst (rowI n tk))), some (.d (machD M)), some (.d (.int n)), some (.ref s.length), none, none, none, none] ⟨_, _, _, rfl⟩ (by
    rintro k env hk ⟨v6, v7, v8, rfl⟩
    have e1 := rng_succ (fun a : Nat => D.lst (rowI n (topsI (wN nm) (stM M nm) tk z a))) k
    have hls : ((List.range k).map fun a : Nat => D.lst (rowI n (topsI (wN nm) (stM M nm) tk z a))).length < line := by rw [List.length_map, List.length_range]; show k < 16777216; omega
    rw [e1]
    obtain ⟨env', hf, w8, rfl⟩ := inner s ((List.range k).map fun a : Nat => D.lst (rowI n (topsI (wN nm) (stM M nm) tk z a))) k hk v8
    have eR : ((List.range n).map fun b : Nat => D.int (topsI (wN nm) (stM M nm) tk z k b)) = rowI n (topsI (wN nm) (stM M nm) tk z k) := rfl
    rw [eR] at hf
    refine ⟨[some (.d (formD M nm n t)), some (.d (.int (p : Int))), some (.d (.lst (rowI n tk))), some (.d (machD M)), some (.d (.int n)), some (.ref s.length), some (.d (.int k)), some (.ref (s.length + 1)), w8, none], [.flst (rowI n (topsI (wN nm) (stM M nm) tk z k))], ?_, some (.d (.int k)), none, kill (s.length + 1) w8, ?_⟩
    · have hr : okR (n : Int) = true := okR1 (by omega) (by omega)
      have l0 : (0 : Nat) ≤ line := by decide
      generalize ((List.range k).map fun a : Nat => D.lst (rowI n (topsI (wN nm) (stM M nm) tk z a))) = acc at *
      generalize rowI n (topsI (wN nm) (stM M nm) tk z k) = TR at *
      generalize rowI n tk = RT at *
      generalize formD M nm n t = FD at *
      generalize machD M = MD at *
      unfold b_taken_by_places_4
      rw [List.append_assoc] at hf
      simp only [List.cons_append, List.nil_append, List.length_append, List.length_cons, List.length_nil, Nat.add_zero, Nat.zero_add, List.append_assoc] at hf
      simp [hr, l0, hf, hls, st_g0, st_g1, st_p0, st_p1]
    · simp only [List.map_cons, List.map_nil, kill_d, kill_r, kill_n, Nat.lt_succ_self, if_true, Nat.lt_irrefl, if_false])
  obtain ⟨env', hf, v6, v7, v8, rfl⟩ := outer
  have eO : ((List.range n).map fun a : Nat => D.lst (rowI n (topsI (wN nm) (stM M nm) tk z a))) = topsD (wN nm) n (stM M nm) tk z := rfl
  rw [eO] at hf
  have gl : (M.good.map D.bl).length = n := by rw [List.length_map]; exact F.W.gl
  have hr : okR (n : Int) = true := okR1 (by omega) (by omega)
  have l0 : (0 : Nat) ≤ line := by decide
  unfold b_taken_by_places
  unfold formD at *
  generalize linksI t = LK at *
  generalize chsD M nm t = CH at *
  generalize cntsD M nm n t = CN at *
  generalize topsD (wN nm) n (stM M nm) tk z = TD at *
  generalize rowI n tk = RT at *
  unfold machD at *
  generalize M.good.map D.bl = GD at *
  generalize M.tab.map rowsD = TB at *
  simp [f0, aa1, gl, l0, hr, hf, st_g0, st_k0]
end
end Pv

/-! Fillings: what is ahead. -/
namespace Pv
open PySem
/-- numbers by rooms, of bounded size -/
def Bd (n : Nat) (tk : Int → Int) (e : Nat) : Prop := ∀ x, 0 ≤ x → x < (n : Int) → 0 ≤ tk x ∧ tk x ≤ ((2 ^ e : Nat) : Int)
theorem pow_mul2 (nm : Tx) (e k : Nat) : ((2 ^ e : Nat) : Int) * ((wN nm : Nat) : Int) ^ k = ((2 ^ (e + nm.length * k) : Nat) : Int) := by
  rw [pow_w, Nat.pow_add, Int.natCast_mul]
section
variable {M : Mach} {c n : Nat} {nm : Tx} {t A B : List Plc} {l r : TT} {z : Tx} {p : Nat}
variable {Δ : Prog} {m d : Nat}
theorem tops_Bd (F : FC M c n nm t) {tk : Int → Int} {e : Nat} (ht : Bd n tk e) {a : Int} (a0 : 0 ≤ a) (a1 : a < n) : Bd n (topsI (wN nm) (stM M nm) tk z a) (e + nm.length) := fun b b0 b1 => by
  have h := tops_bd (stM_stp F.W nm) ht (z := z) a0 a1 b0 b1
  have q := pow_mul2 nm e 1
  rw [Int.pow_succ, Int.pow_zero, Int.one_mul, Nat.mul_one] at q
  rw [q] at h
  exact h
theorem lefts_Bd (F : FC M c n nm t) {tk : Int → Int} {e : Nat} (ht : Bd n tk e) : Bd n (leftsI (wN nm) n (stM M nm) tk r z) (e + nm.length * ((fl r).length + 1)) := fun a a0 a1 => by
  have h := lefts_bd (stM_stp F.W nm) F.n1 ht (r := r) (z := z) a0 a1
  rw [pow_mul2] at h
  exact h
theorem Pl.etL (P : Pl t A B l r z p) : t = A ++ fl l ++ (fl r ++ [(brn l r, z)] ++ B) := by rw [P.et, (fl_split A B l r z).1]
theorem Pl.etR (P : Pl t A B l r z p) : t = A ++ fl l ++ fl r ++ ([(brn l r, z)] ++ B) := by rw [P.et, (fl_split A B l r z).2]
theorem Pl.lens (P : Pl t A B l r z p) : t.length = A.length + (fl l).length + (fl r).length + 1 + B.length := app_len3 P.et
theorem sp_tk_left (h : Has Δ "taken_by_left" 3 7 b_taken_by_left) (hb : Has Δ "branch_ways" 3 4 b_branch_ways) (F : FC M c n nm t) (P : Pl t A B l r z p) (tk : Int → Int) {e : Nat} (ht : Bd n tk e) (he : e ≤ 4000) (s : Store) :
    Φ Δ m (d + 2) "taken_by_left" [.d (formD M nm n t), .d (.int (p : Int)), .d (.lst (topsD (wN nm) n (stM M nm) tk z))] s = .ok (.new (rowI n (leftsI (wN nm) n (stM M nm) tk r z))) s := by
  rw [h.run rfl]
  have n1 := F.n1
  have n2 := F.n2
  have nl := F.nl
  have tl := F.tl
  have pl := P.lens
  have lk := P.lk
  obtain ⟨v, b1, b2⟩ := sp_branch2 (m := m) (d := d) hb F P.etR (wd_two P.wA) s
  obtain ⟨_, f1, _, f3⟩ := fm4 (machD M) (.tup (linksI t)) (.lst (chsD M nm t)) (.lst (cntsD M nm n t))
  have inner := fun (low : Nat) (hl : low < n) => lc_rng (n := n) (j := 6) (test := fun e s => evC (cxΔ Δ m (d + 1)) y_taken_by_left_1 e s) (elt := fun e s => evE (cxΔ Δ m (d + 1)) x_taken_by_left_1 e s)
    (env := [some (.d (formD M nm n t)), some (.d (.int (p : Int))), some (.d (.lst (topsD (wN nm) n (stM M nm) tk z))), some (.d (.int n)), some (.d (.lst (rowI n (cntI (Fl (wN nm) (stM M nm) r))))), some (.d (.int low)), none]) (s := s)
    (fun b => .int (cntI (Fl (wN nm) (stM M nm) r) b * topsI (wN nm) (stM M nm) tk z low b)) (by show _ ≤ 16777216; omega) (fun e => by unfold y_taken_by_left_1; simp) (fun b hb => by
      have a1 := rowI_atI (f := cntI (Fl (wN nm) (stM M nm) r)) (n := n) (v := (b : Int)) (by omega) (by omega)
      have a2 := topsD_at (W := wN nm) (st := stM M nm) (tk := tk) (z := z) (n := n) (a := (low : Int)) (by omega) (by omega)
      have a3 := rowI_atI (f := topsI (wN nm) (stM M nm) tk z low) (n := n) (v := (b : Int)) (by omega) (by omega)
      obtain ⟨x0, x1⟩ := cnt_bd (nm := nm) (st := stM M nm) F.nl r (by omega) b
      obtain ⟨y0, y1⟩ := tops_Bd (z := z) F ht (a := (low : Int)) (by omega) (by omega) (b : Int) (by omega) (by omega)
      have mk := okMul_lg x0 x1 y0 y1 (by omega) (by omega)
      clear x0 x1 y0 y1
      generalize cntI (Fl (wN nm) (stM M nm) r) b = X at *
      generalize topsI (wN nm) (stM M nm) tk z low b = Y at *
      generalize rowI n (cntI (Fl (wN nm) (stM M nm) r)) = RR at *
      generalize rowI n (topsI (wN nm) (stM M nm) tk z low) = R2 at *
      generalize topsD (wN nm) n (stM M nm) tk z = TD at *
      generalize formD M nm n t = FD at *
      unfold x_taken_by_left_1
      simp [a1, a2, a3, mk])
  have outer := lc_rng (n := n) (j := 5) (test := fun e s => evC (cxΔ Δ m (d + 1)) y_taken_by_left_3 e s) (elt := fun e s => evE (cxΔ Δ m (d + 1)) x_taken_by_left_3 e s)
    (env := [some (.d (formD M nm n t)), some (.d (.int (p : Int))), some (.d (.lst (topsD (wN nm) n (stM M nm) tk z))), some (.d (.int n)), some (.d (.lst (rowI n (cntI (Fl (wN nm) (stM M nm) r))))), none, none]) (s := s)
    (fun a => .int (leftsI (wN nm) n (stM M nm) tk r z a)) (by show _ ≤ 16777216; omega) (fun e => by unfold y_taken_by_left_3; simp) (fun a ha => by
      have i1 := inner a ha
      rw [map_ints (fun b : Nat => cntI (Fl (wN nm) (stM M nm) r) b * topsI (wN nm) (stM M nm) tk z a b)] at i1
      have sn := sum_new ((List.range n).map fun b : Nat => cntI (Fl (wN nm) (stM M nm) r) b * topsI (wN nm) (stM M nm) tk z a b) s
      have eT : ((List.range n).map fun b : Nat => cntI (Fl (wN nm) (stM M nm) r) b * topsI (wN nm) (stM M nm) tk z a b).sum = leftsI (wN nm) n (stM M nm) tk r z a := tot_sum _ _
      rw [eT] at sn
      have hr : okR (n : Int) = true := okR1 (by omega) (by omega)
      generalize ((List.range n).map fun b : Nat => cntI (Fl (wN nm) (stM M nm) r) b * topsI (wN nm) (stM M nm) tk z a b).map D.int = SL at *
      generalize leftsI (wN nm) n (stM M nm) tk r z a = X at *
      generalize rowI n (cntI (Fl (wN nm) (stM M nm) r)) = RR at *
      generalize topsD (wN nm) n (stM M nm) tk z = TD at *
      generalize formD M nm n t = FD at *
      unfold x_taken_by_left_3
      simp [hr, i1, sn])
  have eR : ((List.range n).map fun a : Nat => D.int (leftsI (wN nm) n (stM M nm) tk r z a)) = rowI n (leftsI (wN nm) n (stM M nm) tk r z) := rfl
  rw [eR] at outer
  have hr : okR (n : Int) = true := okR1 (by omega) (by omega)
  have tdl : (topsD (wN nm) n (stM M nm) tk z).length = n := by unfold topsD; rw [List.length_map, List.length_range]
  clear inner
  unfold b_taken_by_left
  generalize rowI n (leftsI (wN nm) n (stM M nm) tk r z) = R3 at *
  generalize rowI n (cntI (Fl (wN nm) (stM M nm) r)) = RR at *
  generalize topsD (wN nm) n (stM M nm) tk z = TD at *
  generalize oD (topO A.length l) = o1 at *
  generalize oD (topO (A ++ fl l).length r) = o2 at *
  unfold formD at *
  generalize machD M = MD at *
  generalize linksI t = LK at *
  generalize chsD M nm t = CH at *
  generalize cntsD M nm n t = CN at *
  simp [tdl, f1, f3, lk, ix1, hb.has, b1, b2, hr, outer]
/-- the words of a part -/
def cutW (ws : List Nat) (a k : Nat) : List Nat := (ws.drop a).take k
theorem cutW_n (ws : List Nat) {a x y : Nat} (h : a + x + y < ws.length) : cutW ws a (x + y + 1) = cutW ws a x ++ cutW ws (a + x) y ++ [ws.getD (a + x + y) 0] := by
  unfold cutW
  refine List.ext_getElem? fun i => ?_
  have l1 : ((ws.drop a).take x).length = x := by rw [List.length_take, List.length_drop]; omega
  have l2 : ((ws.drop (a + x)).take y).length = y := by rw [List.length_take, List.length_drop]; omega
  by_cases c1 : i < x
  · rw [List.getElem?_append_left (by rw [List.length_append, l1, l2]; omega), List.getElem?_append_left (by rw [l1]; exact c1), List.getElem?_take, List.getElem?_take, if_pos (by omega), if_pos c1]
  · by_cases c2 : i < x + y
    · rw [List.getElem?_append_left (by rw [List.length_append, l1, l2]; omega), List.getElem?_append_right (by rw [l1]; omega), l1, List.getElem?_take, List.getElem?_take, if_pos (by omega), if_pos (by omega), List.getElem?_drop, List.getElem?_drop]
      congr 1
      omega
    · rw [List.getElem?_append_right (by rw [List.length_append, l1, l2]; omega), List.length_append, l1, l2, List.getElem?_take]
      by_cases c3 : i = x + y
      · subst c3
        rw [if_pos (by omega), List.getElem?_drop, Nat.sub_self, List.getD_eq_getElem?_getD, ← Nat.add_assoc, List.getElem?_eq_getElem h]
        rfl
      · rw [if_neg (by omega), List.getElem?_eq_none (by simp; omega)]
theorem sp_ahead (h : Has Δ "ways_ahead" 4 16 b_ways_ahead) (hp : Has Δ "taken_by_places" 3 10 b_taken_by_places) (hL : Has Δ "taken_by_left" 3 7 b_taken_by_left) (hb : Has Δ "branch_ways" 3 4 b_branch_ways) (F : FC M c n nm t) (ws : List Nat) (wl : ws.length = t.length) (wW : ∀ x ∈ ws, x < wN nm) :
    ∀ (T : TT) (A B : List Plc) (k : Nat) (tk : Int → Int) (e : Nat) (s : Store), t = A ++ fl T ++ B → Wd (bi A) → (fl T).length ≤ k → Bd n tk e → e + nm.length * (fl T).length ≤ 4000 →
    ∃ (a x : Int), Φ Δ m (k + 3) "ways_ahead" [.d (formD M nm n t), .d (oD (topO A.length T)), .d (.lst (rowI n tk)), .d (.lst (ws.map fun (w : Nat) => .int w))] s = .ok (.d (.tup [.int a, .int x])) s ∧ Ah (fun y => tk y.2) (Fl (wN nm) (stM M nm) T) (cutW ws A.length (fl T).length, x) a ∧ 0 ≤ x ∧ x < (n : Int)
  | .e, A, B, k, tk, e, s, et, wA, hk, ht, he => by
    refine ⟨0, 0, ?_, ?_, Int.le_refl _, by have := F.n1; omega⟩
    · rw [h.run rfl]
      have l2 : (2 : Nat) ≤ line := by decide
      unfold b_ways_ahead topO oD TT.isE
      generalize formD M nm n t = FD at *
      generalize rowI n tk = RT at *
      generalize (ws.map fun (w : Nat) => D.int w) = WL at *
      simp [l2]
    · exact ⟨0, by simp [Fl, fl, cutW], by simp [tot]⟩
  | .n l r z, A, B, 0, tk, e, s, et, wA, hk, ht, he => by rw [fl_len] at hk; omega
  | .n l r z, A, B, k + 1, tk, e, s, et, wA, hk, ht, he => by
    rw [fl_len] at hk he
    have P : Pl t A B l r z (A.length + (fl l).length + (fl r).length) := ⟨et, rfl, wA⟩
    have pl := P.lens
    have n1 := F.n1
    have n2 := F.n2
    have nl := F.nl
    obtain ⟨w16, w1⟩ := wN_le F.nl
    have lk := P.lk
    have ch := P.ch (M := M) (nm := nm)
    have plt := P.lt
    have s1 := sp_tk_places (m := m) (d := k + 2) hp F P tk s
    have s2 := sp_tk_left (m := m) (d := k + 1) hL hb F P tk ht (by omega) s
    obtain ⟨a1, low, r1, h1, l0, l1⟩ := sp_ahead h hp hL hb F ws wl wW l A (fl r ++ [(brn l r, z)] ++ B) k (leftsI (wN nm) n (stM M nm) tk r z) (e + nm.length * ((fl r).length + 1)) s P.etL wA (by omega) (lefts_Bd F ht) (by
      rw [Nat.add_assoc, ← Nat.mul_add]
      rw [show (fl r).length + 1 + (fl l).length = (fl l).length + (fl r).length + 1 by omega]
      exact he)
    obtain ⟨a2, high, r2, h2, g0, g1⟩ := sp_ahead h hp hL hb F ws wl wW r (A ++ fl l) ([(brn l r, z)] ++ B) k (topsI (wN nm) (stM M nm) tk z low) (e + nm.length) s P.etR (wd_two wA) (by omega) (tops_Bd F ht l0 l1) (by
      have : nm.length * ((fl l).length + (fl r).length + 1) = nm.length * (fl l).length + (nm.length * (fl r).length + nm.length) := by rw [Nat.mul_add, Nat.mul_add, Nat.mul_one]; omega
      omega)
    -- the own way
    have wlt : ws.getD (A.length + (fl l).length + (fl r).length) 0 < wN nm := wW _ (getD_mem (by omega))
    have aw : L2.atI (ws.map fun (w : Nat) => D.int w) ((A.length + (fl l).length + (fl r).length : Nat) : Int) = some (.int ((ws.getD (A.length + (fl l).length + (fl r).length) 0 : Nat) : Int)) := by
      rw [atI_pos (by omega) (by rw [List.length_map]; omega), Int.toNat_natCast, List.getElem?_map, List.getD_eq_getElem?_getD, List.getElem?_eq_getElem (by omega)]
      rfl
    have rm := fun (w : Nat) (hw : w < wN nm) => (show ∃ rows row, L2.atI (M.tab.map rowsD) (czN M.names nm z w : Int) = some (.tup rows) ∧ L2.atI rows low = some (.tup row) ∧ L2.atI row high = some (.int (stM M nm z w low high)) ∧ 0 ≤ stM M nm z w low high ∧ stM M nm z w low high < n from tab_at F.W (czN_lt F.W nm z w) l0 l1 g0 g1)
    have cw := fun (w : Nat) (hw : w < wN nm) => (show L2.atI ((List.range (wN nm)).map fun (w : Nat) => D.int (czN M.names nm z w : Nat)) (w : Int) = some (.int (czN M.names nm z w : Nat)) from by
      rw [atI_pos (by omega) (by rw [List.length_map, List.length_range]; omega), Int.toNat_natCast, List.getElem?_map, List.getElem?_range hw]
      rfl)
    have lc := lc_rng (n := ws.getD (A.length + (fl l).length + (fl r).length) 0) (j := 15) (test := fun e s => evC (cxΔ Δ m (k + 3)) y_ways_ahead_1 e s) (elt := fun e s => evE (cxΔ Δ m (k + 3)) x_ways_ahead_1 e s)
      (env := [some (.d (formD M nm n t)), some (.d (.int ((A.length + (fl l).length + (fl r).length : Nat) : Int))), some (.d (.lst (rowI n tk))), some (.d (.lst (ws.map fun (w : Nat) => .int w))), some (.d (machD M)), some (.d (.tup (linksI t))), some (.d (.lst (chsD M nm t))), some (.d (.lst (cntsD M nm n t))),
        some (.d (.lst (topsD (wN nm) n (stM M nm) tk z))), some (.d (.lst (rowI n (leftsI (wN nm) n (stM M nm) tk r z)))), some (.d (.int a1)), some (.d (.int low)), some (.d (.int a2)), some (.d (.int high)), none, none]) (s := s)
      (fun w => .int (tk (stM M nm z w low high))) (by show _ ≤ 16777216; omega) (fun e => by unfold y_ways_ahead_1; simp) (fun w hw => by
        obtain ⟨rows, row, q1, q2, q3, v0, v1⟩ := rm w (by omega)
        have q4 := rowI_atI (f := tk) v0 v1
        have q5 := cw w (by omega)
        clear r1 r2 s1 s2 rm cw
        unfold chD at ch
        generalize ((List.range (wN nm)).map fun (w : Nat) => D.int (czN M.names nm z w : Nat)) = CL at *
        generalize stM M nm z w low high = V at *
        generalize rowI n tk = RT at *
        generalize (ws.map fun (w : Nat) => D.int w) = WL at *
        generalize chsD M nm t = CH at *
        generalize rowI n (leftsI (wN nm) n (stM M nm) tk r z) = R9 at *
        generalize topsD (wN nm) n (stM M nm) tk z = TD at *
        generalize formD M nm n t = FD at *
        generalize A.length + (fl l).length + (fl r).length = p at *
        obtain ⟨_, _, b2⟩ := mach3 (.str M.names) (.tup (M.good.map .bl)) (.tup (M.tab.map rowsD))
        unfold x_ways_ahead_1
        unfold machD at *
        generalize M.good.map D.bl = GD at *
        generalize M.tab.map rowsD = TB at *
        simp [b2, ch, q1, q2, q3, q4, q5])
    rw [map_ints (fun w => tk (stM M nm z w low high))] at lc
    have sn := sum_new ((List.range (ws.getD (A.length + (fl l).length + (fl r).length) 0)).map fun w => tk (stM M nm z w low high)) s
    obtain ⟨rows, row, q1, q2, q3, v0, v1⟩ := rm _ wlt
    have q5 := cw _ wlt
    refine ⟨a1 + a2 + ((List.range (ws.getD (A.length + (fl l).length + (fl r).length) 0)).map fun w => tk (stM M nm z w low high)).sum, stM M nm z (ws.getD (A.length + (fl l).length + (fl r).length) 0) low high, ?_, ?_, v0, v1⟩
    · have t3 := topsD_at (W := wN nm) (st := stM M nm) (tk := tk) (z := z) l0 l1
      have hr : okR ((ws.getD (A.length + (fl l).length + (fl r).length) 0 : Nat) : Int) = true := okR1 (by omega) (by omega)
      have l2 : (2 : Nat) ≤ line := by decide
      rw [h.run rfl, topO_n]
      clear h1 h2 rm cw
      unfold chD at ch
      generalize ((List.range (wN nm)).map fun (w : Nat) => D.int (czN M.names nm z w : Nat)) = CL at *
      generalize stM M nm z (ws.getD (A.length + (fl l).length + (fl r).length) 0) low high = V at *
      generalize ((List.range (ws.getD (A.length + (fl l).length + (fl r).length) 0)).map fun w => tk (stM M nm z w low high)) = SL at *
      generalize SL.sum = SM at *
      generalize rowI n tk = RT at *
      generalize (ws.map fun (w : Nat) => D.int w) = WL at *
      generalize rowI n (leftsI (wN nm) n (stM M nm) tk r z) = R9 at *
      generalize rowI n (topsI (wN nm) (stM M nm) tk z low) = R8 at *
      generalize topsD (wN nm) n (stM M nm) tk z = TD at *
      generalize ws.getD (A.length + (fl l).length + (fl r).length) 0 = w at *
      generalize oD (topO A.length l) = o1 at *
      generalize oD (topO (A ++ fl l).length r) = o2 at *
      unfold oD
      generalize A.length + (fl l).length + (fl r).length = p at *
      obtain ⟨_, _, b2⟩ := mach3 (.str M.names) (.tup (M.good.map .bl)) (.tup (M.tab.map rowsD))
      generalize czN M.names nm z w = K at *
      generalize czN M.names nm z = KK at *
      unfold formD at *
      unfold b_ways_ahead
      unfold machD at *
      generalize M.good.map D.bl = GD at *
      generalize M.tab.map rowsD = TB at *
      generalize linksI t = LK at *
      generalize chsD M nm t = CH at *
      generalize cntsD M nm n t = CN at *
      simp [hp.has, hL.has, h.has, s1, s2, r1, r2, lk, ix0, ix1, t3, aw, hr, lc, sn, l2, b2, ch, q1, q2, q3, q5]
    · rw [fl_len, cutW_n ws (by omega)]
      have q := Fl_ah (stM_stp F.W nm) n1 tk (z := z) wlt h1 h2 (v := ((List.range (ws.getD (A.length + (fl l).length + (fl r).length) 0)).map fun w => tk (stM M nm z w low high)).sum) (tot_sum _ _)
      rw [← Int.add_assoc, List.length_append] at q
      exact q
end
end Pv

/-! Fillings: how many, and the number of one. -/
namespace Pv
open PySem
structure HasFil (Δ : Prog) : Prop where
  form : Has Δ "filling_form" 3 5 b_filling_form
  refuse : Has Δ "refuse_names" 1 1 b_refuse_names
  links : Has Δ "links_of" 1 7 b_links_of
  choices : Has Δ "place_choices" 3 8 b_place_choices
  bare : Has Δ "bare_marks" 2 3 b_bare_marks
  letter : Has Δ "letter_of" 2 4 b_letter_of
  marks : Has Δ "marks_of" 2 5 b_marks_of
  pways : Has Δ "part_ways" 3 13 b_part_ways
  branch : Has Δ "branch_ways" 3 4 b_branch_ways
  top : Has Δ "top_of" 1 1 b_top_of
  places : Has Δ "taken_by_places" 3 10 b_taken_by_places
  left : Has Δ "taken_by_left" 3 7 b_taken_by_left
  good : Has Δ "taken_by_good" 1 2 b_taken_by_good
  many : Has Δ "let_by_many" 1 7 b_let_by_many
  fils : Has Δ "fillings" 3 3 b_fillings
  g : Δ.glob "MOST_NAMES" = some (.int 4)
/-- one for a good room -/
def gdI (M : Mach) (y : Int) : Int := if M.good.getD y.toNat false = true then 1 else 0
theorem gd_Bd (M : Mach) (n : Nat) : Bd n (gdI M) 0 := fun x _ _ => by
  unfold gdI
  split <;> decide
/-- how many fillings are let by -/
def manyI (M : Mach) (nm : Tx) (T : TT) : Int := tot (fun y => gdI M y.2) (Fl (wN nm) (stM M nm) T)
/-- over the numbers that a test lets by -/
theorem lc_fltm {n j : Nat} {test : Env → Store → R Bool} {elt : Env → Store → R Val} {env : Env} {s : Store} (p : Nat → Bool) (g : Nat → D) (hn : n ≤ line) (ht : ∀ k, k < n → test (env.set j (some (.d (.int (k : Int))))) s = .ok (p k) s)
    (h : ∀ k, k < n → elt (env.set j (some (.d (.int (k : Int))))) s = .ok (.d (g k)) s) :
    lcL ⟨rangeL 0 n, none⟩ (.name j) test elt env (rangeL 0 n) [] s = .ok (((List.range n).filter p).map g) s := by
  have key := lcL_map (w := ⟨rangeL 0 n, none⟩) (tg := .name j) (test := test) (elt := elt) (env := env) (s := s) (fun d => match d with | .int k => p k.toNat | _ => false) (fun d => match d with | .int k => g k.toNat | _ => .non)
    (rangeL 0 n) [] rfl (by rw [rl_len]; simpa using hn) (by
      intro x hx
      obtain ⟨i, hi⟩ := List.getElem?_of_mem hx
      obtain ⟨hlt, rfl⟩ := rl_get _ hi
      rw [Int.zero_add]
      exact ⟨_, rfl, ht i hlt, fun _ => ⟨.d (g i), h i hlt, rfl⟩⟩)
  rw [key, List.nil_append]
  refine congrArg (fun l => R.ok l s) ?_
  unfold rangeL
  rw [List.filter_map, List.map_map]
  have e : ((fun d => match d with | .int k => p k.toNat | _ => false) ∘ fun (k : Nat) => D.int (0 + (k : Int))) = p := by
    funext k
    simp [Function.comp]
  rw [e]
  refine List.map_congr_left fun k _ => ?_
  simp
theorem tot_filter {α : Type} (p : α → Bool) (g : α → Int) : ∀ l : List α, tot g (l.filter p) = tot (fun x => if p x = true then g x else 0) l
  | [] => rfl
  | x :: l => by
    rw [List.filter_cons, tot, ← tot_filter p g l]
    cases p x with
    | true => rw [if_pos rfl, if_pos rfl, tot]
    | false => rw [if_neg (by simp), if_neg (by simp), Int.zero_add]
section
variable {M : Mach} {c n : Nat} {nm : Tx} {T : TT}
variable {Δ : Prog} {m d : Nat}
theorem many_eq (F : FC M c n nm (fl T)) : (((List.range n).filter fun i => M.good.getD i false).map fun (i : Nat) => cntI (Fl (wN nm) (stM M nm) T) i).sum = manyI M nm T := by
  rw [tot_sum, tot_filter]
  unfold manyI
  rw [tot_cnt (gdI M) (Fl_in (stM_stp F.W nm) F.n1 T)]
  refine tot_congr fun i _ => ?_
  unfold gdI
  rw [Int.toNat_natCast]
  split
  · rw [Int.mul_one]
  · rw [Int.mul_zero]
theorem sp_many (H : HasFil Δ) (F : FC M c n nm (fl T)) (s : Store) : Φ Δ m (d + 2) "let_by_many" [.d (formD M nm n (fl T))] s = .ok (.d (.int (manyI M nm T))) s := by
  rw [H.many.run rfl]
  have n1 := F.n1
  have n2 := F.n2
  obtain ⟨v, b1, b2⟩ := sp_branch2 (m := m) (d := d) H.branch F (A' := []) (B' := []) (T := T) (by rw [List.append_nil, List.nil_append]) trivial s
  have st := sp_top_of (m := m) (d := d) H.top T s
  obtain ⟨_, aa1, _⟩ := mach3 (.str M.names) (.tup (M.good.map .bl)) (.tup (M.tab.map rowsD))
  have lc := lc_fltm (n := n) (j := 6) (test := fun e s => evC (cxΔ Δ m (d + 1)) y_let_by_many_1 e s) (elt := fun e s => evE (cxΔ Δ m (d + 1)) x_let_by_many_1 e s)
    (env := [some (.d (formD M nm n (fl T))), some (.d (machD M)), some (.d (.tup (linksI (fl T)))), some (.d (.lst (chsD M nm (fl T)))), some (.d (.lst (cntsD M nm n (fl T)))), some (.d (.lst (rowI n (cntI (Fl (wN nm) (stM M nm) T))))), none]) (s := s)
    (fun i => M.good.getD i false) (fun i => .int (cntI (Fl (wN nm) (stM M nm) T) i)) (by show _ ≤ 16777216; omega) (fun i hi => by
      have gt := good_at F.W (i := (i : Int)) (by omega) (by omega)
      rw [Int.toNat_natCast] at gt
      unfold y_let_by_many_1
      unfold machD at *
      generalize M.good.getD i false = b at *
      generalize M.good.map D.bl = G at *
      generalize M.tab.map rowsD = TB at *
      simp [aa1, gt]) (fun i hi => by
      have a1 := rowI_atI (f := cntI (Fl (wN nm) (stM M nm) T)) (n := n) (v := (i : Int)) (by omega) (by omega)
      unfold x_let_by_many_1
      generalize rowI n (cntI (Fl (wN nm) (stM M nm) T)) = RR at *
      simp [a1])
  have eM : (((List.range n).filter fun i => M.good.getD i false).map fun (i : Nat) => D.int (cntI (Fl (wN nm) (stM M nm) T) i)) = (((List.range n).filter fun i => M.good.getD i false).map fun (i : Nat) => cntI (Fl (wN nm) (stM M nm) T) i).map D.int := by rw [List.map_map]; rfl
  rw [eM] at lc
  have sn := sum_new (((List.range n).filter fun i => M.good.getD i false).map fun (i : Nat) => cntI (Fl (wN nm) (stM M nm) T) i) s
  rw [many_eq F] at sn
  have gl : (M.good.map D.bl).length = n := by rw [List.length_map]; exact F.W.gl
  have hr : okR (n : Int) = true := okR1 (by omega) (by omega)
  have rl := rowI_len n (cntI (Fl (wN nm) (stM M nm) T))
  generalize manyI M nm T = MI at *
  generalize (((List.range n).filter fun i => M.good.getD i false).map fun (i : Nat) => cntI (Fl (wN nm) (stM M nm) T) i).map D.int = SL at *
  generalize rowI n (cntI (Fl (wN nm) (stM M nm) T)) = RR at *
  rw [show ([] : List Plc).length = 0 from rfl] at b1
  generalize oD (topO 0 T) = o1 at *
  unfold formD at *
  unfold b_let_by_many
  unfold machD at *
  generalize M.good.map D.bl = GD at *
  generalize M.tab.map rowsD = TB at *
  generalize linksI (fl T) = LK at *
  generalize chsD M nm (fl T) = CH at *
  generalize cntsD M nm n (fl T) = CN at *
  simp [H.branch.has, H.top.has, st, aa1, gl, b1, b2, rl, hr, lc, sn]
theorem HasFil.sp_form (H : HasFil Δ) {t : List Plc} (F : FC M c n nm t) (s : Store) : Φ Δ m (d + 3) "filling_form" [.d (machD M), .d (.tup (t.map plD)), .d (.str nm)] s = .ok (.d (formD M nm n t)) s :=
  Pv.sp_form H.form H.refuse H.links H.choices H.bare H.letter H.marks H.pways H.branch H.g F s
theorem sp_fillings (H : HasFil Δ) (F : FC M c n nm (fl T)) (s : Store) : Φ Δ m (d + 4) "fillings" [.d (machD M), .d (.tup ((fl T).map plD)), .d (.str nm)] s = .ok (.d (.int (manyI M nm T))) s := by
  rw [H.fils.run rfl]
  have r1 := H.sp_form (m := m) (d := d) F s
  have r2 := sp_many (m := m) (d := d + 1) H F s
  generalize manyI M nm T = MI at *
  generalize formD M nm n (fl T) = FD at *
  generalize machD M = MD at *
  generalize (fl T).map plD = TT at *
  unfold b_fillings
  simp [H.form.has, H.many.has, r1, r2]
/-- the ways as they stand -/
def ownW (nm : Tx) (t : List Plc) : List Nat := t.map fun x => val nm (fun c => decide (c ∈ x.2))
theorem cutW_all (ws : List Nat) : cutW ws 0 ws.length = ws := by
  unfold cutW
  rw [List.drop_zero, List.take_length]
theorem sp_rank (H : HasFil Δ) (h : Has Δ "filling_rank" 3 7 b_filling_rank) (ha : Has Δ "ways_ahead" 4 16 b_ways_ahead) (F : FC M c n nm (fl T)) {k : Nat} (hk : (fl T).length ≤ k) (s : Store) :
    ∃ a x, Φ Δ m (k + 4) "filling_rank" [.d (machD M), .d (.tup ((fl T).map plD)), .d (.str nm)] s = .ok (.d (.int a)) s ∧ Ah (fun y => gdI M y.2) (Fl (wN nm) (stM M nm) T) (ownW nm (fl T), x) a ∧ 0 ≤ x ∧ x < (n : Int) := by
  have nl := F.nl
  have tl := F.tl
  have wl : (ownW nm (fl T)).length = (fl T).length := List.length_map _
  have wW : ∀ x ∈ ownW nm (fl T), x < wN nm := fun x hx => by
    obtain ⟨y, _, rfl⟩ := List.mem_map.mp hx
    exact val_lt _ _
  obtain ⟨a, x, r3, hA, x0, x1⟩ := sp_ahead (m := m) ha H.places H.left H.branch F (ownW nm (fl T)) wl wW T [] [] k (gdI M) 0 s (by rw [List.append_nil, List.nil_append]) trivial hk (gd_Bd M n) (by
    have := Nat.mul_le_mul nl tl
    omega)
  rw [show ([] : List Plc).length = 0 from rfl] at r3 hA
  have e0 : cutW (ownW nm (fl T)) 0 (fl T).length = ownW nm (fl T) := by rw [← wl, cutW_all]
  rw [e0] at hA
  refine ⟨a, x, ?_, hA, x0, x1⟩
  rw [h.run rfl]
  have r1 := H.sp_form (m := m) (d := k) F s
  have r2 := sp_top_of (m := m) (d := k + 2) H.top T s
  have r4 := sp_tk_good (m := m) (d := k + 2) H.good F.W F.n2 s
  have eg : rowI n (fun y => if M.good.getD y.toNat false = true then 1 else 0) = rowI n (gdI M) := rfl
  rw [eg] at r4
  have lc := lc_plc (i := 5) (j := 6) (test := fun e s => evC (cxΔ Δ m (k + 3)) y_filling_rank_1 e s) (elt := fun e s => evE (cxΔ Δ m (k + 3)) x_filling_rank_1 e s) (env := [some (.d (machD M)), some (.d (.tup ((fl T).map plD))), some (.d (.str nm)), some (.d (formD M nm n (fl T))), none, none, none]) (s := s)
    (fun x => .int (val nm (fun c => decide (c ∈ x.2)) : Nat)) (fl T) (by show _ ≤ 16777216; omega) (fun e => by unfold y_filling_rank_1; simp) (fun x hx => by
      have s1 := sp_letter_of (m := m) (d := k + 2) H.letter nm x.2 s
      generalize x.2 = z at *
      generalize val nm (fun c => decide (c ∈ z)) = V at *
      unfold x_filling_rank_1
      simp [H.letter.has, s1])
  have eO : ((fl T).map fun x => D.int (val nm (fun c => decide (c ∈ x.2)) : Nat)) = (ownW nm (fl T)).map fun (w : Nat) => D.int w := by
    unfold ownW
    rw [List.map_map]
    rfl
  rw [eO] at lc
  generalize ((ownW nm (fl T)).map fun (w : Nat) => D.int w) = WL at *
  generalize rowI n (gdI M) = RG at *
  generalize oD (topO 0 T) = o1 at *
  obtain ⟨_, f1, _, _⟩ := fm4 (machD M) (.tup (linksI (fl T))) (.lst (chsD M nm (fl T))) (.lst (cntsD M nm n (fl T)))
  unfold formD at *
  unfold b_filling_rank
  generalize machD M = MD at *
  generalize linksI (fl T) = LK at *
  generalize chsD M nm (fl T) = CH at *
  generalize cntsD M nm n (fl T) = CN at *
  generalize (fl T).map plD = TD at *
  have we : wipeE [some (.d MD), some (.d (.tup TD)), some (.d (.str nm)), some (.d (.tup [MD, .tup LK, .lst CH, .lst CN])), none, none, none] (slotsT (.tup (.cons (.name 5) (.cons (.name 6) .nil)))) = [some (.d MD), some (.d (.tup TD)), some (.d (.str nm)), some (.d (.tup [MD, .tup LK, .lst CH, .lst CN])), none, none, none] := rfl
  simp [H.form.has, H.top.has, H.good.has, ha.has, r1, r2, r3, r4, lc, we, f1, ix0]
end
end Pv

/-! Fillings: the law's trees and runs. -/
namespace Pv
open PySem
/-- a bound that no drawn tree meets -/
def FAR : Int := 1000000
section
variable {Δ : Prog} {m d : Nat}
theorem sp_ltree (h : Has Δ "_law_tree" 2 6 b__law_tree) (hmk : Has Δ "_law_marks" 2 3 b__law_marks) (ds : List Int) (pool : Tx) (hp : pool.length < 64) (hl : ds.length ≤ 1000) (hf : 200000 < m) (s : Store) :
    Φ Δ m (d + 2) "_law_tree" [.d (.lst (ds.map .int)), .d (.str pool)] s = .ok (.d (.tup ((woodI pool FAR ds).map plD))) s := by
  rw [h.run rfl]
  unfold b__law_tree
  have key := forL_inv (w := ⟨ds.map .int, none⟩) (n := s.length + 1) (tg := .name 4) (body := fun e s => evSs (cxΔ Δ m (d + 1)) b__law_tree_1 e s)
    (env := [some (.d (.lst (ds.map .int))), some (.d (.str pool)), some (.ref s.length), some (.d (.int 0)), none, none]) (s := s ++ [.lst []])
    (fun i env s1 => (∃ g1 g2, env = [some (.d (.lst (ds.map .int))), some (.d (.str pool)), some (.ref s.length), some (.d (.int (woodSt pool FAR ds i).2)), g1, g2]) ∧ s1 = s ++ [.lst ((woodSt pool FAR ds i).1.reverse.map plD)])
    ⟨⟨_, _, rfl⟩, rfl⟩ (by
    rintro i dd env s1 hdd ⟨⟨g1, g2, rfl⟩, rfl⟩
    have hdd : (ds.map D.int)[i]? = some dd := hdd
    rw [List.getElem?_map] at hdd
    have hi : i < ds.length := by
      rcases Nat.lt_or_ge i ds.length with q | q
      · exact q
      · rw [List.getElem?_eq_none q] at hdd; cases hdd
    rw [List.getElem?_eq_getElem hi] at hdd
    cases hdd
    refine ⟨rfl, _, rfl, ?_⟩
    have hgd : ds.getD i 0 = ds[i] := by rw [List.getD_eq_getElem?_getD, List.getElem?_eq_getElem hi]; rfl
    rw [woodSt, hgd]
    obtain ⟨hw, hlen⟩ := woodSt_ok pool FAR ds i
    have hh := hgt_le hw.1
    rw [hw.2] at hh
    generalize woodSt pool FAR ds i = q at hlen hh
    obtain ⟨f, hi'⟩ := q
    simp only [List.length_map] at hlen hh
    have hll : f.length < line := by show f.length < 16777216; omega
    have hlb : 2 ≤ line := by decide
    have mk := sp_marks (m := m) (d := d) hmk pool (ds[i] / 4 % 16) hp
    have d0 : 0 ≤ ds[i] % 4 := Int.emod_nonneg _ (by omega)
    unfold woodStep b__law_tree_1 FAR
    simp only [mny]
    by_cases c1 : hi' < (ds[i] % 4 + 1) / 2
    · have A : ¬ (1000000 : Int) < (f.length : Int) + hi' + 1 := by omega
      have C : (f.length : Int) + hi' + 1 ≤ 1000000 := by omega
      simp [c1, A, C, mk, hmk.has, st0, set0, takj, hll, hlb, plD]
    · have A : ¬ (1000000 : Int) < (f.length : Int) + hi' + 1 - (ds[i] % 4 + 1) / 2 := by omega
      have C : (f.length : Int) + hi' + 1 - (ds[i] % 4 + 1) / 2 ≤ 1000000 := by omega
      simp [c1, A, C, mk, hmk.has, st0, set0, takj, hll, hlb, plD]) (fun _ _ _ => rfl)
  obtain ⟨env', s', h1, ⟨g1, g2, h2⟩, h3⟩ := key
  simp only [List.length_map] at h2 h3
  unfold woodI
  obtain ⟨w1, w2⟩ := woodSt_ok pool FAR ds ds.length
  generalize woodSt pool FAR ds ds.length = q at h2 h3 w1 w2
  obtain ⟨f, hi⟩ := q
  have hh := hgt_le w1.1
  have e : hgt (f.map (·.1)) = hi := w1.2
  rw [e] at hh
  simp only [List.length_map] at hh w2 h2 h3 ⊢
  subst h2 h3
  have k2 := whileL_inv (n := s.length + 1) (test := fun e s => evT (cxΔ Δ m (d + 1)) t__law_tree_2 e s) (body := fun e s => evSs (cxΔ Δ m (d + 1)) b__law_tree_3 e s)
    (I := fun h env s1 => ∃ (f' : List Plc), (∃ g1 g2, env = [some (.d (.lst (ds.map .int))), some (.d (.str pool)), some (.ref s.length), some (.d (.int (h : Int))), g1, g2]) ∧ s1 = s ++ [.lst (f'.reverse.map plD)] ∧ woodEnd f' h = woodEnd f hi.toNat ∧ h ≤ f'.length ∧ f'.length + h ≤ 300000)
    (J := fun env s1 => (∃ g0 g1 g2, env = [some (.d (.lst (ds.map .int))), some (.d (.str pool)), some (.ref s.length), g0, g1, g2]) ∧ s1 = s ++ [.lst ((woodEnd f hi.toNat).reverse.map plD)]) (by
    rintro h env s1 ⟨f', ⟨g1, g2, rfl⟩, rfl, hw, hle, hle2⟩
    by_cases c : 1 < h
    · right
      have c' : (1 : Int) < (h : Int) := by omega
      refine ⟨s ++ [.lst (f'.reverse.map plD)], by unfold t__law_tree_2; simp [c'], ?_⟩
      obtain ⟨h', rfl⟩ : ∃ h', h = h' + 2 := ⟨h - 2, by omega⟩
      rw [woodEnd] at hw
      have hil : h' + 1 < f'.reverse.length := by rw [List.length_reverse]; omega
      have hge : (f'.reverse)[h' + 1]? = some ((f'.reverse)[h' + 1]'hil) := List.getElem?_eq_getElem hil
      rw [hge] at hw
      generalize (f'.reverse)[h' + 1]'hil = p at hge hw
      obtain ⟨pb, pm⟩ := p
      have hat : L2.atI ((f'.reverse).map plD) ((h' : Int) + 2 - 1) = some (plD (pb, pm)) := by
        rw [show (h' : Int) + 2 - 1 = ((h' + 1 : Nat) : Int) by omega, atI_nat (by rw [List.length_map, List.length_reverse]; omega), List.getElem?_map, hge]
        rfl
      have a1 : L2.atI [D.int pb, D.str pm] 1 = some (D.str pm) := rfl
      have hll : f'.length < line := by show f'.length < 16777216; omega
      have hlb : 2 ≤ line := by decide
      rw [List.map_reverse] at hat
      unfold b__law_tree_3
      have hat2 : L2.atI (List.map plD f').reverse ((h' : Int) + 1 + 1 - 1) = some (plD (pb, pm)) := by rw [show (h' : Int) + 1 + 1 - 1 = h' + 2 - 1 by omega]; exact hat
      simp [st0, set0, takj, hat, hat2, plD, a1, hll, hlb]
      refine ⟨h' + 1, by omega, by omega, (3, pm) :: f', by simp [plD], hw, by simp; omega, by simp; omega⟩
    · left
      refine ⟨s ++ [.lst (f'.reverse.map plD)], by unfold t__law_tree_2; simp; omega, ⟨_, _, _, rfl⟩, ?_⟩
      have : woodEnd f' h = f' := by
        match h, c with
        | 0, _ => rw [woodEnd]
        | 1, _ => rw [woodEnd]
        | h + 2, c => exact absurd c (by omega)
      rw [← hw, this])
    m hi.toNat [some (.d (.lst (ds.map .int))), some (.d (.str pool)), some (.ref s.length), some (.d (.int hi)), g1, g2] (s ++ [.lst (f.reverse.map plD)])
    ⟨f, ⟨_, _, by rw [show ((hi.toNat : Nat) : Int) = hi by omega]⟩, rfl, rfl, by omega, by omega⟩ (by omega)
  obtain ⟨env', s', k1, ⟨g0, g1', g2', k2⟩, k3⟩ := k2
  subst k2 k3
  rw [List.map_reverse] at h1 k1
  rw [List.map_reverse]
  simp [h1, k1, st0, tak0]
theorem last_app {α : Type} (l : List α) (x : α) : L2.atI (l ++ [x]) (-1) = some x := by
  rw [atI_last (by simp), List.getLast?_append]
  rfl
theorem sp_lrun (h : Has Δ "_law_run" 2 8 b__law_run) (hlt : Has Δ "_law_letter" 2 4 b__law_letter) {M : Mach} {c n : Nat} (W : WF M c n) (hn : 1 ≤ n) (t : List Plc) (w : Wd (bi t)) (hl : t.length < line) (s : Store) :
    Φ Δ m (d + 2) "_law_run" [.d (machD M), .d (.tup (t.map plD))] s = .ok (.new ((roomsI M t).map .int)) s := by
  have w : Wd (t.map (·.1)).reverse := w
  rw [h.run rfl]
  unfold b__law_run machD
  have hle := fun z s => sp_lletter (m := m) (d := d) hlt M.names z s
  obtain ⟨aa0, _, aa2⟩ := mach3 (.str M.names) (.tup (M.good.map .bl)) (.tup (M.tab.map rowsD))
  have key := forL_inv (w := ⟨t.map plD, none⟩) (n := s.length + 2) (tg := .tup (.cons (.name 4) (.cons (.name 5) .nil))) (body := fun e s => evSs (cxΔ Δ m (d + 1)) b__law_run_1 e s)
    (env := [some (.d (.tup [.str M.names, .tup (M.good.map .bl), .tup (M.tab.map rowsD)])), some (.d (.tup (t.map plD))), some (.ref s.length), some (.ref (s.length + 1)), none, none, none, none]) (s := s ++ [.lst [], .lst []])
    (fun i env s1 => (∃ g1 g2 g3 g4, env = [some (.d (.tup [.str M.names, .tup (M.good.map .bl), .tup (M.tab.map rowsD)])), some (.d (.tup (t.map plD))), some (.ref s.length), some (.ref (s.length + 1)), g1, g2, g3, g4]) ∧ s1 = s ++ [.lst ((topR M (preP t i)).reverse.map .int), .lst ((rmR M (preP t i)).reverse.map .int)])
    ⟨⟨_, _, _, _, rfl⟩, rfl⟩ (by
    rintro i dd env s1 hdd ⟨⟨g1, g2, g3, g4, rfl⟩, rfl⟩
    obtain ⟨hi, hdd⟩ := List.getElem?_eq_some_iff.mp hdd
    have hi : i < t.length := by simpa using hi
    have hdd : plD t[i] = dd := by simpa using hdd
    subst hdd
    refine ⟨rfl, _, rfl, ?_⟩
    have wd := pre_wd w (i + 1)
    rw [pre_succ hi, ← preP_map] at wd
    rw [preP_succ hi]
    have pl := preP_len (t := t) (i := i) (by omega)
    obtain ⟨w0, w3, w1, w2⟩ := wd
    have sl := stk_len w2
    have hrl : (rmR M (preP t i)).length < line := by rw [rmR_len, pl]; omega
    have hls : (stk ((preP t i).map (·.1))).length < line := by have := hgt_le w2; rw [List.length_map, pl] at this; omega
    obtain ⟨v, e1, e2, e3⟩ := topR_cons M t[i] (preP t i) w2
    rw [e1, e3]
    have rin := rmR_in W hn (preP t i)
    obtain ⟨l0, l1⟩ := opR_in (o := lft t[i].1 ((preP t i).map (·.1))) rin hn
    obtain ⟨r0, r1⟩ := opR_in (o := rgt t[i].1 ((preP t i).map (·.1))) rin hn
    obtain ⟨rows, row, a1, a2, a3, _⟩ := room_at W t[i].2 l0 l1 r0 r1
    rw [← e2] at a3
    clear e2 e1 e3 l0 l1 r0 r1
    have hz := hle t[i].2
    have la := fun (l : List D) (x : D) => last_app l x
    unfold topR
    generalize t[i].2 = z at *
    generalize hb : t[i].1 = b at *
    generalize val M.names (fun x => decide (x ∈ z)) = vz at *
    generalize M.tab.map rowsD = T at *
    generalize M.good.map D.bl = G at *
    generalize M.names = names at *
    generalize rmR M (preP t i) = rm at *
    generalize (preP t i).map (·.1) = r at *
    unfold b__law_run_1
    have h20 : ¬ (2 : Int) ≤ 0 := by omega
    have h21 : ¬ (2 : Int) ≤ 1 := by omega
    rcases four w0 w3 with rfl | rfl | rfl | rfl
    · simp only [lft, rgt, opR] at a2 a3
      simp at a2 a3
      simp [st0, stj, set0, setj, takj, hrl, hls, mny, hz, hlt.has, aa0, aa2, a1, a2, a3, la]
    · cases hs : stk r with
      | nil => rw [hs] at sl; simp [mny] at w1 sl; omega
      | cons t0 l =>
        rw [hs] at hls
        simp only [List.length_cons] at hls
        have hls' : l.length < line := by omega
        simp [lft, rgt, opR, hs] at a2 a3
        simp [st0, stj, set0, setj, takj, hrl, hls', mny, hz, hlt.has, aa0, aa2, a1, a2, a3, la]
    · cases hs : stk r with
      | nil => rw [hs] at sl; simp [mny] at w1 sl; omega
      | cons t0 l =>
        rw [hs] at hls
        simp only [List.length_cons] at hls
        have hls' : l.length < line := by omega
        simp [lft, rgt, opR, hs] at a2 a3
        simp [st0, stj, set0, setj, takj, hrl, hls', mny, hz, hlt.has, aa0, aa2, a1, a2, a3, la]
    · match hs : stk r with
      | [] => rw [hs] at sl; simp [mny] at w1 sl; omega
      | [t0] => rw [hs] at sl; simp [mny] at w1 sl; omega
      | t0 :: t1 :: l =>
        rw [hs] at hls
        simp only [List.length_cons] at hls
        have hls' : l.length < line := by omega
        simp [lft, rgt, opR, hs] at a2 a3
        simp [st0, stj, set0, setj, takj, hrl, hls', mny, hz, hlt.has, aa0, aa2, a1, a2, a3, la]) (fun _ _ _ => rfl)
  obtain ⟨env', s', h1, ⟨g1, g2, g3, g4, h2⟩, h3⟩ := key
  simp only [List.length_map] at h2 h3
  subst h2 h3
  rw [preP_all] at h1
  simp [h1, st0, stj, tak0, roomsI]
theorem sp_llets (h : Has Δ "_law_lets" 2 2 b__law_lets) (hr : Has Δ "_law_run" 2 8 b__law_run) (hlt : Has Δ "_law_letter" 2 4 b__law_letter) {M : Mach} {c n : Nat} (W : WF M c n) (hn : 1 ≤ n) (t : List Plc) (w : Wd (bi t)) (hl : t.length < line) (s : Store) :
    Φ Δ m (d + 3) "_law_lets" [.d (machD M), .d (.tup (t.map plD))] s = .ok (.d (.bl (letsI M t))) s := by
  rw [h.run rfl]
  have rr := fun s => sp_lrun (m := m) (d := d) hr hlt W hn t w hl s
  unfold b__law_lets
  obtain ⟨_, aa1, _⟩ := mach3 (.str M.names) (.tup (M.good.map .bl)) (.tup (M.tab.map rowsD))
  obtain ⟨t0, t1⟩ := topI_in W hn t
  have gt := good_at W t0 t1
  have rl := roomsI_len M t
  unfold letsI
  have ln := fun q => last_map (l := roomsI M t) q
  unfold topI at *
  unfold machD at *
  generalize M.good.getD ((roomsI M t).getLast?.getD 0).toNat false = b at *
  generalize M.good.map D.bl = G at *
  cases q : t with
  | nil =>
    rw [q] at rr gt
    rw [roomsI_nil] at gt
    simp at gt
    simp [aa1, gt]
  | cons x r =>
    rw [← q]
    have tl : ¬ t = [] := by rw [q]; simp
    have ne : roomsI M t ≠ [] := fun e => by rw [e, q] at rl; simp at rl
    have ln := ln ne
    generalize (roomsI M t).getLast?.getD 0 = y at *
    generalize (roomsI M t).map D.int = RR at *
    simp [rr, hr.has, aa1, gt, ln, tl]
end
end Pv

/-! Fillings: the law puts one on. -/
namespace Pv
open PySem
/-- the names of a way, as the law tells them -/
def chZ (nm : Tx) (w : Nat) : Tx := ((List.range nm.length).filter fun j => decide (w / 2 ^ (nm.length - 1 - j) % 2 = 1)).map fun j => nm.getD j 0
def putZ (nm : Tx) (z : Tx) (w : Nat) : Tx := sortG ltN (bareZ nm z ++ chZ nm w)
theorem chZ_sub {nm : Tx} {w x : Nat} (h : x ∈ chZ nm w) : x ∈ nm := by
  obtain ⟨j, hj, rfl⟩ := List.mem_map.mp h
  have hj := List.mem_range.mp (List.mem_filter.mp hj).1
  exact getD_mem hj
theorem chZ_mem {nm : Tx} (nd : nm.Nodup) {w : Nat} (hw : w < 2 ^ nm.length) (x : Nat) : x ∈ chZ nm w ↔ x ∈ mkOf nm w := by
  constructor
  · intro h
    obtain ⟨j, hj, rfl⟩ := List.mem_map.mp h
    obtain ⟨h1, h2⟩ := List.mem_filter.mp hj
    have h1 := List.mem_range.mp h1
    have e : nm.getD j 0 = nm[j] := by rw [List.getD_eq_getElem?_getD, List.getElem?_eq_getElem h1]; rfl
    rw [e]
    exact (mk_bit nm w j h1 nd hw).mpr (by simpa using h2)
  · intro h
    obtain ⟨j, hj, rfl⟩ := List.getElem_of_mem ((mkOf_sub nm w).subset h)
    have h2 := (mk_bit nm w j hj nd hw).mp h
    refine List.mem_map.mpr ⟨j, List.mem_filter.mpr ⟨List.mem_range.mpr hj, by simpa using h2⟩, ?_⟩
    rw [List.getD_eq_getElem?_getD, List.getElem?_eq_getElem hj]
    rfl
theorem putZ_mem (nm z : Tx) (w x : Nat) : x ∈ putZ nm z w ↔ x ∈ bareZ nm z ∨ x ∈ chZ nm w := by
  unfold putZ
  rw [(sortG_perm (lt := ltN) _).mem_iff, List.mem_append]
theorem bareZ_mem (nm z : Tx) (x : Nat) : x ∈ bareZ nm z ↔ x ∈ z ∧ x ∉ nm := by
  unfold bareZ
  simp
theorem bare_put (nm z : Tx) (w x : Nat) : x ∈ bareZ nm (putZ nm z w) ↔ x ∈ bareZ nm z := by
  rw [bareZ_mem, putZ_mem]
  constructor
  · rintro ⟨h | h, q⟩
    · exact h
    · exact absurd (chZ_sub h) q
  · intro h
    exact ⟨.inl h, ((bareZ_mem nm z x).mp h).2⟩
theorem cz_congr {names nm z z' : Tx} (h : ∀ x, x ∈ bareZ nm z ↔ x ∈ bareZ nm z') (w : Nat) : czN names nm z w = czN names nm z' w := by
  unfold czN
  refine val_congr fun x _ => ?_
  simp only [List.mem_append, h x]
theorem st_put (M : Mach) (nm : Tx) (z : Tx) (w w' : Nat) (a b : Int) : stM M nm (putZ nm z w) w' a b = stM M nm z w' a b := by
  unfold stM
  rw [cz_congr (bare_put nm z w)]
theorem room_put (M : Mach) {nm : Tx} (nd : nm.Nodup) (z : Tx) {w : Nat} (a b : Int) (hw : w < wN nm) : roomV M (putZ nm z w) a b = stM M nm z w a b := by
  unfold roomV stM entI czN
  rw [val_congr (Q := fun x => decide (x ∈ bareZ nm z ++ mkOf nm w)) fun x _ => by
    simp only [putZ_mem, List.mem_append, chZ_mem nd hw]]
theorem val_put {nm : Tx} (nd : nm.Nodup) (z : Tx) {w : Nat} (hw : w < wN nm) : val nm (fun c => decide (c ∈ putZ nm z w)) = w := by
  rw [val_congr (Q := fun x => decide (x ∈ mkOf nm w)) fun x hx => by
    have : x ∉ bareZ nm z := fun q => ((bareZ_mem nm z x).mp q).2 hx
    simp only [putZ_mem, this, false_or, chZ_mem nd hw]]
  exact val_mk nm w nd hw
theorem chZ_len (nm : Tx) (w : Nat) : (chZ nm w).length ≤ nm.length := by
  unfold chZ
  rw [List.length_map]
  exact Nat.le_trans (List.length_filter_le _ _) (by rw [List.length_range]; exact Nat.le_refl _)
theorem putZ_len (nm z : Tx) (w : Nat) : (putZ nm z w).length ≤ z.length + nm.length := by
  unfold putZ
  rw [(sortG_perm (lt := ltN) _).length_eq, List.length_append]
  exact Nat.add_le_add (List.length_filter_le _ _) (chZ_len nm w)
theorem sorted_lst (ts : List Tx) (h : ts.length < 64) (s : Store) : bltV .sorted [.d (.lst (ts.map D.str))] s = .ok (.new ((sortT ts).map D.str)) s := by
  show (if (ts.map D.str).length < 64 then _ else _) = _
  rw [if_pos (by rw [List.length_map]; exact h), allM_txt]
section
variable {Δ : Prog} {m d : Nat}
theorem sp_lput (h : Has Δ "_law_put" 3 8 b__law_put) (nm : Tx) (t : List Plc) (ws : List Nat) (hl : ws.length = t.length) (tl : t.length ≤ 200) (nl : nm.length ≤ 4) (zl : ∀ x ∈ t, x.2.length ≤ 58) (s : Store) :
    Φ Δ m (d + 1) "_law_put" [.d (.tup (t.map plD)), .d (.str nm), .d (.lst (ws.map fun (w : Nat) => .int w))] s = .ok (.d (.tup ((putL (putZ nm) t ws).map plD))) s := by
  rw [h.run rfl]
  have lp := app_for (cx := cxΔ Δ m d) (n := t.length) (j := 4) (body := b__law_put_5)
    (fun k env => ∃ v4 v5, env = [some (.d (.tup (t.map plD))), some (.d (.str nm)), some (.d (.lst (ws.map fun (w : Nat) => .int w))), some (.ref s.length), v4, v5, none, none])
    (fun k => plD ((putL (putZ nm) t ws).getD k (0, []))) s
    [some (.d (.tup (t.map plD))), some (.d (.str nm)), some (.d (.lst (ws.map fun (w : Nat) => .int w))), some (.ref s.length), none, none, none, none] ⟨_, _, rfl⟩ (by
    rintro k env hk ⟨v4, v5, rfl⟩
    have e1 := rng_succ (fun k : Nat => plD ((putL (putZ nm) t ws).getD k (0, []))) k
    have hls : ((List.range k).map fun k : Nat => plD ((putL (putZ nm) t ws).getD k (0, []))).length < line := by rw [List.length_map, List.length_range]; show k < 16777216; omega
    rw [e1]
    have zk := zl _ (List.getElem_mem hk)
    have hkw : k < ws.length := by omega
    have ax : L2.atI (t.map plD) (k : Int) = some (.tup [.int t[k].1, .str t[k].2]) := ixD hk
    have aw : L2.atI (ws.map fun (w : Nat) => D.int w) (k : Int) = some (.int ((ws[k] : Nat) : Int)) := by
      rw [atI_pos (by omega) (by rw [List.length_map]; omega), Int.toNat_natCast, List.getElem?_map, List.getElem?_eq_getElem hkw]
      rfl
    have pk : (putL (putZ nm) t ws).getD k (0, []) = (t[k].1, putZ nm t[k].2 ws[k]) := by
      unfold putL
      rw [List.getD_eq_getElem?_getD, List.getElem?_eq_getElem (by rw [List.length_zipWith]; omega), List.getElem_zipWith]
      rfl
    rw [pk]
    generalize t[k].1 = b at *
    generalize t[k].2 = z at *
    generalize ws[k] = w at *
    generalize t.map plD = TT at *
    generalize (ws.map fun (w : Nat) => D.int w) = WW at *
    generalize ((List.range k).map fun k : Nat => plD ((putL (putZ nm) t ws).getD k (0, []))) = acc at *
    have lc1 := lc_sgnf (j := 6) (test := fun e s => evC (cxΔ Δ m d) y__law_put_1 e s) (elt := fun e s => evE (cxΔ Δ m d) x__law_put_1 e s)
      (env := [some (.d (.tup TT)), some (.d (.str nm)), some (.d (.lst WW)), some (.ref s.length), some (.d (.int k)), v5, none, none]) (s := s ++ [.lst acc])
      (fun c => !decide (c ∈ nm)) z (by show _ ≤ 16777216; omega) (fun c hc => by
        unfold y__law_put_1
        by_cases q : c ∈ nm <;> simp [q]) (fun c hc => by
        unfold x__law_put_1
        simp)
    have nll : nm.length ≤ line := by show _ ≤ 16777216; omega
    have lc2 := fun (v : D) => lc_fltm (n := nm.length) (j := 7) (test := fun e s => evC (cxΔ Δ m d) y__law_put_3 e s) (elt := fun e s => evE (cxΔ Δ m d) x__law_put_3 e s)
      (env := [some (.d (.tup TT)), some (.d (.str nm)), some (.d (.lst WW)), some (.ref s.length), some (.d (.int k)), some (.d v), none, none]) (s := s ++ [.lst acc])
      (fun j => decide (w / 2 ^ (nm.length - 1 - j) % 2 = 1)) (fun j => .str [nm.getD j 0]) nll (fun j hj => by
        have ex : ((nm.length : Int) - 1 - (j : Int)) = ((nm.length - 1 - j : Nat) : Int) := by omega
        have shr : ∀ s, binV .shr (.d (.int (w : Int))) (.d (.int ((nm.length : Int) - 1 - (j : Int)))) s = .ok (.d (.int ((w / 2 ^ (nm.length - 1 - j) : Nat) : Int))) s := fun s => by
          rw [ex, bin_shr _ _ _ (by omega), Int.toNat_natCast]
          congr 3
        have ba := bitAnd_one (w / 2 ^ (nm.length - 1 - j))
        generalize w / 2 ^ (nm.length - 1 - j) = q at *
        have e1 : decide (((q % 2 : Nat) : Int) = 1) = decide (q % 2 = 1) := by
          by_cases c : q % 2 = 1
          · rw [decide_eq_true (by omega), decide_eq_true c]
          · rw [decide_eq_false (by omega), decide_eq_false c]
        generalize hx : q % 2 = qq at *
        unfold y__law_put_3
        simp [aw, nll, shr, ba, e1]
        ) (fun j hj => by
        have a1 : L2.atI nm (j : Int) = some (nm.getD j 0) := by
          rw [atTx hj, List.getD_eq_getElem?_getD, List.getElem?_eq_getElem hj]
          rfl
        generalize nm.getD j 0 = x at *
        unfold x__law_put_3
        simp [nll, a1])
    have eC : (((List.range nm.length).filter fun j => decide (w / 2 ^ (nm.length - 1 - j) % 2 = 1)).map fun j => D.str [nm.getD j 0]) = ((chZ nm w).map fun c => ([c] : Tx)).map D.str := by
      unfold chZ
      rw [List.map_map, List.map_map]
      rfl
    have eB : ((z.filter fun c => !decide (c ∈ nm)).map fun c => ([c] : Tx)).map D.str = ((bareZ nm z).map fun c => ([c] : Tx)).map D.str := rfl
    rw [eB] at lc1
    rw [eC] at lc2
    have lc2 := lc2 (.lst (((bareZ nm z).map fun c => ([c] : Tx)).map D.str))
    have bl : (bareZ nm z).length ≤ 58 := Nat.le_trans (List.length_filter_le _ _) zk
    have cl := chZ_len nm w
    have so := sorted_lst ((bareZ nm z ++ chZ nm w).map fun c => ([c] : Tx)) (by rw [List.length_map, List.length_append]; omega) (s ++ [.lst acc])
    rw [sort_one] at so
    have pl : (putZ nm z w).length ≤ 62 := by have := putZ_len nm z w; omega
    have jr := joinR (s ++ [.lst acc]) [] ((putZ nm z w).map fun c => ([c] : Tx)) (by rw [ones_sum]; simp only [List.length_nil, Nat.mul_zero]; show _ ≤ 16777216; omega)
    rw [join_one] at jr
    have eP : ((sortG ltN (bareZ nm z ++ chZ nm w)).map fun c => ([c] : Tx)).map D.str = ((putZ nm z w).map fun c => ([c] : Tx)).map D.str := rfl
    rw [eP, List.map_append, List.map_append] at so
    have ll : (((bareZ nm z).map fun c => ([c] : Tx)).map D.str).length + (((chZ nm w).map fun c => ([c] : Tx)).map D.str).length ≤ line := by
      rw [List.length_map, List.length_map, List.length_map, List.length_map]
      show _ ≤ 16777216
      omega
    refine ⟨[some (.d (.tup TT)), some (.d (.str nm)), some (.d (.lst WW)), some (.ref s.length), some (.d (.int k)), some (.d (.lst (((bareZ nm z).map fun c => ([c] : Tx)).map D.str ++ ((chZ nm w).map fun c => ([c] : Tx)).map D.str))), none, none], [], ?_, some (.d (.int k)), some (.d (.lst (((bareZ nm z).map fun c => ([c] : Tx)).map D.str ++ ((chZ nm w).map fun c => ([c] : Tx)).map D.str))), ?_⟩
    · generalize ((bareZ nm z).map fun c => ([c] : Tx)).map D.str = BB at *
      generalize ((chZ nm w).map fun c => ([c] : Tx)).map D.str = CC at *
      generalize ((putZ nm z w).map fun c => ([c] : Tx)).map D.str = PP at *
      have hr : okR (nm.length : Int) = true := lenR_ok nll
      have l2 : (2 : Nat) ≤ line := by decide
      unfold b__law_put_5 plD
      generalize putZ nm z w = pz at *
      simp [ax, ix0, ix1, lc1, lc2, ll, so, jr, nll, hr, l2, hls, st_g0, st_p0]
    · simp only [List.map_cons, List.map_nil, kill_d, kill_r, kill_n, Nat.lt_succ_self, if_true])
  obtain ⟨env', hf, v4, v5, rfl⟩ := lp
  have eO : ((List.range t.length).map fun k : Nat => plD ((putL (putZ nm) t ws).getD k (0, []))) = (putL (putZ nm) t ws).map plD := by
    refine List.ext_getElem (by rw [List.length_map, List.length_map, List.length_range, putL_len _ hl]) fun i h1 h2 => ?_
    simp only [List.length_map] at h2
    rw [List.getElem_map, List.getElem_map, List.getElem_range, List.getD_eq_getElem?_getD, List.getElem?_eq_getElem h2]
    rfl
  rw [eO] at hf
  have hr : okR (t.length : Int) = true := lenR_ok (by show _ ≤ 16777216; omega)
  have l0 : (0 : Nat) ≤ line := by decide
  have ln : (t.map plD).length = t.length := List.length_map _
  unfold b__law_put
  generalize (ws.map fun (w : Nat) => D.int w) = WW at *
  generalize t.map plD = TT at *
  generalize (putL (putZ nm) t ws).map plD = PP at *
  simp [ln, hr, l0, hf, st_g0, st_k0]
end
end Pv

/-! Fillings: the law's next one, places one above another. -/
namespace Pv
open PySem
def wsD (ws : List Nat) : List D := ws.map fun (w : Nat) => .int w
def laterV (o : Option (List Nat)) : Val := match o with
  | none => .d .non
  | some r => .new (wsD r.reverse)
/-- the first ones, then noughts -/
def nulW (ws : List Nat) (i : Nat) : List Nat := ws.take i ++ List.replicate (ws.length - i) 0
theorem nulW_len {ws : List Nat} {i : Nat} (h : i ≤ ws.length) : (nulW ws i).length = ws.length := by
  unfold nulW
  rw [List.length_append, List.length_take, List.length_replicate]
  omega
theorem nulW_set {ws : List Nat} {i : Nat} (h : i < ws.length) : (nulW ws (i + 1)).set i 0 = nulW ws i := by
  unfold nulW
  have lt : (ws.take i).length = i := by rw [List.length_take]; omega
  have e : ws.length - i = (ws.length - (i + 1)) + 1 := by omega
  rw [List.take_succ_eq_append_getElem h, List.append_assoc, List.set_append_right _ _ (by omega), lt, Nat.sub_self, e, List.replicate_succ]
  rfl
theorem wsD_set (ws : List Nat) (i x : Nat) : (wsD ws).set i (.int (x : Int)) = wsD (ws.set i x) := by
  unfold wsD
  rw [List.map_set]
theorem wsD_len (ws : List Nat) : (wsD ws).length = ws.length := List.length_map _
theorem nulW_at {ws : List Nat} {i : Nat} (h : i < ws.length) : L2.atI (wsD (nulW ws (i + 1))) (i : Int) = some (.int ((ws[i] : Nat) : Int)) := by
  have l1 := nulW_len (ws := ws) (i := i + 1) (by omega)
  rw [atI_pos (by omega) (by rw [wsD_len]; omega), Int.toNat_natCast]
  unfold wsD nulW
  rw [List.getElem?_map, List.getElem?_append_left (by rw [List.length_take]; omega), List.getElem?_take, if_pos (by omega), List.getElem?_eq_getElem h]
  rfl
section
variable {Δ : Prog} {m d : Nat}
theorem sp_llater (h : Has Δ "_law_later" 2 4 b__law_later) (ws : List Nat) (W : Nat) (tl : ws.length ≤ 200) (hm : 1000 < m) (s : Store) :
    Φ Δ m (d + 1) "_law_later" [.d (.lst (wsD ws)), .d (.int (W : Int))] s = .ok (laterV (laterR W ws.reverse)) s := by
  rw [h.run rfl]
  have k2 := whileL_inv (n := s.length + 1) (test := fun e s => evT (cxΔ Δ m d) t__law_later_1 e s) (body := fun e s => evSs (cxΔ Δ m d) b__law_later_2 e s)
    (I := fun i env s1 => i ≤ ws.length ∧ env = [some (.d (.lst (wsD ws))), some (.d (.int (W : Int))), some (.ref s.length), some (.d (.int ((i : Int) - 1)))] ∧ s1 = s ++ [.lst (wsD (nulW ws i))] ∧ laterR W ws.reverse = (laterR W (ws.take i).reverse).map fun r => List.replicate (ws.length - i) 0 ++ r)
    (J := fun env s1 => ∃ i, i ≤ ws.length ∧ env = [some (.d (.lst (wsD ws))), some (.d (.int (W : Int))), some (.ref s.length), some (.d (.int ((i : Int) - 1)))] ∧ s1 = s ++ [.lst (wsD (nulW ws i))] ∧ (laterR W ws.reverse = (laterR W (ws.take i).reverse).map fun r => List.replicate (ws.length - i) 0 ++ r) ∧ ∀ i', i = i' + 1 → ∀ hi : i' < ws.length, ws[i'] + 1 ≠ W) (by
    rintro i env s1 ⟨hi, rfl, rfl, he⟩
    cases i with
    | zero =>
      left
      refine ⟨s ++ [.lst (wsD (nulW ws 0))], ?_, 0, hi, rfl, rfl, he, fun _ q => by omega⟩
      unfold t__law_later_1
      simp
    | succ i =>
      have hi' : i < ws.length := hi
      have at' := nulW_at hi'
      have e1 : (((i + 1 : Nat) : Int) - 1) = (i : Int) := by omega
      rw [e1]
      by_cases c : ws[i] + 1 = W
      · right
        have c' : ((ws[i] : Nat) : Int) = (W : Int) - 1 := by omega
        refine ⟨s ++ [.lst (wsD (nulW ws (i + 1)))], ?_, ?_⟩
        · unfold t__law_later_1
          generalize wsD (nulW ws (i + 1)) = LL at *
          simp [st_g0, at', c']
        · have st := wsD_set (nulW ws (i + 1)) i 0
          rw [nulW_set hi'] at st
          have ixn : L2.ixN (wsD (nulW ws (i + 1))).length (i : Int) = some i := ixN_nat (by rw [wsD_len, nulW_len (by omega)]; exact hi')
          rw [List.take_succ_eq_append_getElem hi', List.reverse_append] at he
          have he : laterR W ws.reverse = (laterR W (ws[i] :: (ws.take i).reverse)).map fun r => List.replicate (ws.length - (i + 1)) 0 ++ r := he
          rw [laterR, if_pos c, Option.map_map] at he
          have he2 : laterR W ws.reverse = (laterR W (ws.take i).reverse).map fun r => List.replicate (ws.length - i) 0 ++ r := by
            rw [he]
            congr 1
            funext r
            show List.replicate (ws.length - (i + 1)) 0 ++ (0 :: r) = _
            rw [show ws.length - i = (ws.length - (i + 1)) + 1 by omega, List.replicate_succ', List.append_assoc]
            rfl
          have st : (wsD (nulW ws (i + 1))).set i (.int 0) = wsD (nulW ws i) := st
          unfold b__law_later_2
          generalize wsD (nulW ws (i + 1)) = LL at *
          generalize hN : wsD (nulW ws i) = NN at *
          simp [st_g0, st_p0, st_k1, ixn, st]
          refine ⟨i, by omega, by omega, rfl, ?_, he2⟩
          rw [hN]
      · left
        have c' : ¬ ((ws[i] : Nat) : Int) = (W : Int) - 1 := by omega
        refine ⟨s ++ [.lst (wsD (nulW ws (i + 1)))], ?_, i + 1, hi, by rw [e1], rfl, he, fun i' q _ => by
          have : i' = i := by omega
          subst this
          exact c⟩
        unfold t__law_later_1
        generalize wsD (nulW ws (i + 1)) = LL at *
        simp [st_g0, at', c'])
    m ws.length [some (.d (.lst (wsD ws))), some (.d (.int (W : Int))), some (.ref s.length), some (.d (.int ((ws.length : Int) - 1)))] (s ++ [.lst (wsD ws)])
    ⟨Nat.le_refl _, rfl, by unfold nulW; rw [Nat.sub_self, List.take_length]; simp, by rw [Nat.sub_self, List.take_length]; simp⟩ (by omega)
  obtain ⟨env', s', k1, i, hi, k2, k3, he, hn⟩ := k2
  subst k2 k3
  have wl : (wsD ws).length = ws.length := wsD_len ws
  cases i with
  | zero =>
    have e0 : laterR W ws.reverse = none := by rw [he]; rfl
    rw [e0]
    unfold b__law_later laterV
    generalize wsD (nulW ws 0) = NN at *
    generalize hW : wsD ws = WW at *
    simp [st_g0, st_k0, wl, k1]
  | succ i =>
    have hi' : i < ws.length := hi
    have hn := hn i rfl hi'
    rw [List.take_succ_eq_append_getElem hi', List.reverse_append] at he
    have he : laterR W ws.reverse = (laterR W (ws[i] :: (ws.take i).reverse)).map fun r => List.replicate (ws.length - (i + 1)) 0 ++ r := he
    rw [laterR, if_neg hn] at he
    rw [he]
    have at' := nulW_at hi'
    have e1 : (((i + 1 : Nat) : Int) - 1) = (i : Int) := by omega
    rw [e1] at k1
    have ixn : L2.ixN (wsD (nulW ws (i + 1))).length (i : Int) = some i := ixN_nat (by rw [wsD_len, nulW_len (by omega)]; exact hi')
    have st := wsD_set (nulW ws (i + 1)) i (ws[i] + 1)
    have eR : (nulW ws (i + 1)).set i (ws[i] + 1) = (List.replicate (ws.length - (i + 1)) 0 ++ (ws[i] + 1) :: (ws.take i).reverse).reverse := by
      have lt : (ws.take i).length = i := by rw [List.length_take]; omega
      unfold nulW
      rw [List.take_succ_eq_append_getElem hi', List.append_assoc, List.set_append_right _ _ (by omega), lt, Nat.sub_self]
      simp
    rw [eR] at st
    have c0 : ¬ (i : Int) < 0 := by omega
    have ex : ((ws[i] : Nat) : Int) + 1 = ((ws[i] + 1 : Nat) : Int) := by omega
    show _ = R.ok (Val.new (wsD (List.replicate (ws.length - (i + 1)) 0 ++ (ws[i] + 1) :: (ws.take i).reverse).reverse)) s
    generalize wsD (List.replicate (ws.length - (i + 1)) 0 ++ (ws[i] + 1) :: (ws.take i).reverse).reverse = RR at *
    generalize wsD (nulW ws (i + 1)) = NN at *
    generalize hW : wsD ws = WW at *
    unfold b__law_later
    rw [← ex] at st
    simp [st_g0, st_p0, st_k0, wl, k1, c0, at', ixn, st]
/-! ### places one above another -/
def rowPl (pool : Tx) : Nat → List Int → List Plc
  | _, [] => []
  | k, x :: ds => ((if 0 < k then 1 else 0) * (1 + x % 2), marksI pool (x / 2 % 16)) :: rowPl pool (k + 1) ds
theorem rowPl_len (pool : Tx) : ∀ (ds : List Int) (k : Nat), (rowPl pool k ds).length = ds.length
  | [], _ => rfl
  | x :: ds, k => by rw [rowPl, List.length_cons, List.length_cons, rowPl_len pool ds]
theorem rowPl_at (pool : Tx) : ∀ (ds : List Int) (k i : Nat), (rowPl pool k ds)[i]? = (ds[i]?).map fun x => ((if 0 < k + i then 1 else 0) * (1 + x % 2), marksI pool (x / 2 % 16))
  | [], _, _ => by simp [rowPl]
  | x :: ds, k, 0 => by rw [rowPl]; rfl
  | x :: ds, k, i + 1 => by
    rw [rowPl, List.getElem?_cons_succ, List.getElem?_cons_succ, rowPl_at pool ds (k + 1) i]
    rw [show k + 1 + i = k + (i + 1) by omega]
theorem enumL_get2 (ds : List Int) : ∀ (k i : Nat), (enumL k (ds.map D.int))[i]? = (ds[i]?).map fun x => D.tup [.int ((k + i : Nat) : Int), .int x] := by
  induction ds with
  | nil => intro k i; simp [enumL]
  | cons x ds ih =>
    intro k i
    cases i with
    | zero => rfl
    | succ i =>
      rw [List.map_cons, enumL, List.getElem?_cons_succ, List.getElem?_cons_succ, ih (k + 1) i]
      rw [show k + 1 + i = k + (i + 1) by omega]
theorem enumL_len2 (ds : List D) : ∀ k, (enumL k ds).length = ds.length := by
  induction ds with
  | nil => intro k; rfl
  | cons x ds ih => intro k; rw [enumL, List.length_cons, List.length_cons, ih]
theorem rowPl_wd (pool : Tx) : ∀ (ds : List Int) (k : Nat) (R : List Int), Wd R → hgt R = (if 0 < k then 1 else 0) → Wd (bi (rowPl pool k ds) ++ R) ∧ hgt (bi (rowPl pool k ds) ++ R) = (if 0 < k + ds.length then 1 else 0)
  | [], k, R, w, h => ⟨w, h⟩
  | x :: ds, k, R, w, h => by
    have h0 : 0 ≤ x % 2 := Int.emod_nonneg _ (by omega)
    have h1 : x % 2 < 2 := Int.emod_lt_of_pos _ (by omega)
    have e : bi (rowPl pool k (x :: ds)) ++ R = bi (rowPl pool (k + 1) ds) ++ (((if 0 < k then 1 else 0) * (1 + x % 2)) :: R) := by
      rw [rowPl]
      unfold bi
      simp
    rw [e, List.length_cons, show k + (ds.length + 1) = k + 1 + ds.length by omega]
    refine rowPl_wd pool ds (k + 1) _ ?_ ?_
    · by_cases q : 0 < k
      · rw [if_pos q, Int.one_mul]
        rw [if_pos q] at h
        exact ⟨by omega, by omega, by rw [h]; unfold mny; omega, w⟩
      · rw [if_neg q, Int.zero_mul]
        rw [if_neg q] at h
        exact ⟨by omega, by omega, by rw [h]; unfold mny; omega, w⟩
    · rw [hgt, h, if_pos (by omega : 0 < k + 1)]
      unfold mny
      by_cases q : 0 < k
      · simp only [if_pos q]
        omega
      · simp only [if_neg q]
        omega
theorem rowPl_tree (pool : Tx) (ds : List Int) : IsTree (rowPl pool 0 ds) := by
  obtain ⟨w, h⟩ := rowPl_wd pool ds 0 [] trivial rfl
  rw [List.append_nil] at w h
  refine ⟨w, ?_⟩
  have h : hgt ((rowPl pool 0 ds).map (·.1)).reverse = _ := h
  rw [h]
  cases ds with
  | nil => rfl
  | cons x ds => rw [if_pos (by simp), if_neg (by rw [rowPl]; simp)]
theorem sp_lrow (h : Has Δ "_law_row_of" 2 5 b__law_row_of) (hmk : Has Δ "_law_marks" 2 3 b__law_marks) (ds : List Int) (pool : Tx) (hp : pool.length < 64) (hl : ds.length ≤ 1000) (s : Store) :
    Φ Δ m (d + 2) "_law_row_of" [.d (.lst (ds.map .int)), .d (.str pool)] s = .ok (.d (.tup ((rowPl pool 0 ds).map plD))) s := by
  rw [h.run rfl]
  have key := forL_inv (w := ⟨enumL 0 (ds.map .int), none⟩) (n := s.length + 1) (tg := .tup (.cons (.name 3) (.cons (.name 4) .nil))) (body := fun e s => evSs (cxΔ Δ m (d + 1)) b__law_row_of_1 e s)
    (env := [some (.d (.lst (ds.map .int))), some (.d (.str pool)), some (.ref s.length), none, none]) (s := s ++ [.lst []])
    (fun i env s1 => (∃ g1 g2, env = [some (.d (.lst (ds.map .int))), some (.d (.str pool)), some (.ref s.length), g1, g2]) ∧ s1 = s ++ [.lst (((rowPl pool 0 ds).take i).map plD)])
    ⟨⟨_, _, rfl⟩, rfl⟩ (by
    rintro i dd env s1 hdd ⟨⟨g1, g2, rfl⟩, rfl⟩
    have hdd : (enumL 0 (ds.map D.int))[i]? = some dd := hdd
    rw [enumL_get2] at hdd
    have hi : i < ds.length := by
      rcases Nat.lt_or_ge i ds.length with q | q
      · exact q
      · rw [List.getElem?_eq_none q] at hdd; cases hdd
    rw [List.getElem?_eq_getElem hi, Nat.zero_add] at hdd
    cases hdd
    refine ⟨rfl, _, rfl, ?_⟩
    have rl := rowPl_len pool ds 0
    have ra := rowPl_at pool ds 0 i
    rw [List.getElem?_eq_getElem hi, List.getElem?_eq_getElem (by omega), Nat.zero_add] at ra
    have ra : (rowPl pool 0 ds)[i] = ((if 0 < i then 1 else 0) * (1 + ds[i] % 2), marksI pool (ds[i] / 2 % 16)) := Option.some.inj ra
    rw [List.take_succ_eq_append_getElem (by omega), List.map_append, ra]
    have mk := sp_marks (m := m) (d := d) hmk pool (ds[i] / 2 % 16) hp
    have hls : (((rowPl pool 0 ds).take i).map plD).length < line := by rw [List.length_map, List.length_take]; show min i _ < 16777216; omega
    have l2 : (2 : Nat) ≤ line := by decide
    have m1 : ∀ (c : Bool), okMul (if c = true then 1 else 0) (1 + ds[i] % 2) = true := fun c => okM1 (by split <;> omega)
    generalize ((rowPl pool 0 ds).take i).map plD = acc at *
    generalize ds[i] = x at *
    unfold b__law_row_of_1
    by_cases c : 0 < i
    · have c' : (0 : Int) < (i : Int) := by omega
      have m1 := m1 true
      rw [if_pos rfl] at m1
      simp [c, c', m1, mk, hmk.has, st_g0, st_p0, st_k1, hls, l2, plD]
    · have c' : ¬ (0 : Int) < (i : Int) := by omega
      have m1 := m1 false
      rw [if_neg (by simp)] at m1
      simp [c, c', m1, mk, hmk.has, st_g0, st_p0, st_k1, hls, l2, plD]) (fun _ _ _ => rfl)
  obtain ⟨env', s', h1, ⟨g1, g2, h2⟩, h3⟩ := key
  simp only [enumL_len2, List.length_map] at h2 h3
  rw [List.take_of_length_le (by rw [rowPl_len]; exact Nat.le_refl _)] at h3
  subst h2 h3
  have l0 : (0 : Nat) ≤ line := by decide
  have en : ∀ s, enumV (.d (.lst (ds.map D.int))) s = .ok ⟨enumL 0 (ds.map D.int), none⟩ s := fun s => rfl
  unfold b__law_row_of
  generalize (rowPl pool 0 ds).map plD = PP at *
  generalize ds.map D.int = DD at *
  simp [l0, en, h1, st_g0, st_k0]
end
end Pv

/-! Fillings: plain laws. -/
namespace Pv
open PySem
theorem rmR_st (M : Mach) : ∀ q : List Plc, rmR M q = stG (fun x a b => roomV M x.2 a b) 0 q
  | [] => rfl
  | x :: q => by
    rw [rmR, stG, rmR_st M q]
    congr 1
theorem roomsI_al (M : Mach) (T : TT) : roomsI M (fl T) = alG (fun x a b => roomV M x.2 a b) 0 T := by
  have h := stG_tt (fun (x : Plc) (a b : Int) => roomV M x.2 a b) 0 T (R := []) trivial
  rw [List.append_nil] at h
  unfold roomsI
  rw [rmR_st, h]
  rfl
theorem topI_to (M : Mach) (T : TT) : topI M (fl T) = toG (fun x a b => roomV M x.2 a b) 0 T := by
  unfold topI
  rw [roomsI_al]
  cases T with
  | e => rfl
  | n l r z =>
    rw [alG, List.getLast?_append]
    rfl
section
variable {M : Mach} {c n : Nat} {nm : Tx} {T : TT}
theorem put_fl {ws : List Nat} (hl : ws.length = (fl T).length) : putL (putZ nm) (fl T) ws = fl (putT (putZ nm) T ws) := (putT_fl (putZ nm) T hl).symm
theorem put_FC {ws : List Nat} {t : List Plc} (F : FC M c n nm t) (hl : ws.length = t.length) (hz : ∀ x ∈ t, x.2.length ≤ 190) : FC M c n nm (putL (putZ nm) t ws) := by
  refine ⟨F.W, F.hc, F.n1, F.n2, F.ml, F.nl, by rw [putL_len _ hl]; exact F.tl, by rw [putL_bi _ hl]; exact F.wd, fun x hx => ?_⟩
  unfold putL at hx
  obtain ⟨i, hi, rfl⟩ := List.getElem_of_mem hx
  rw [List.length_zipWith] at hi
  rw [List.getElem_zipWith]
  have := putZ_len nm t[i].2 ws[i]
  have := hz t[i] (List.getElem_mem _)
  have := F.nl
  show (putZ nm t[i].2 ws[i]).length ≤ 200
  omega
theorem put_Fl (ws : List Nat) : Fl (wN nm) (stM M nm) (putT (putZ nm) T ws) = Fl (wN nm) (stM M nm) T := Fl_put (putZ nm) (fun z w w' a b => st_put M nm z w w' a b) T ws
theorem put_many (ws : List Nat) : manyI M nm (putT (putZ nm) T ws) = manyI M nm T := by unfold manyI; rw [put_Fl]
theorem put_own {t : List Plc} {ws : List Nat} (nd : nm.Nodup) (hl : ws.length = t.length) (hw : ∀ w ∈ ws, w < wN nm) : ownW nm (putL (putZ nm) t ws) = ws := by
  unfold ownW putL
  refine List.ext_getElem (by rw [List.length_map, List.length_zipWith]; omega) fun i h1 h2 => ?_
  rw [List.getElem_map, List.getElem_zipWith]
  exact val_put nd _ (hw _ (List.getElem_mem h2))
theorem put_lets (nd : nm.Nodup) {y : List Nat × Int} (h : y ∈ Fl (wN nm) (stM M nm) T) : letsI M (fl (putT (putZ nm) T y.1)) = M.good.getD y.2.toNat false := by
  unfold letsI
  rw [topI_to, Fl_room (putZ nm) (fun z w a b hw => room_put M nd z a b hw) T y h]
theorem gd_lets (nd : nm.Nodup) {y : List Nat × Int} (h : y ∈ Fl (wN nm) (stM M nm) T) : gdI M y.2 = if letsI M (fl (putT (putZ nm) T y.1)) = true then 1 else 0 := by
  rw [put_lets nd h]
  rfl
theorem gd_nn (M : Mach) (x : Int) : 0 ≤ gdI M x := by
  unfold gdI
  split <;> decide
/-- the same place in the row tells the same -/
theorem ah_uniq {ws : List Nat} {x x' a a' : Int} (h : Ah (fun y : List Nat × Int => gdI M y.2) (Fl (wN nm) (stM M nm) T) (ws, x) a) (h' : Ah (fun y : List Nat × Int => gdI M y.2) (Fl (wN nm) (stM M nm) T) (ws, x') a') (hW : 0 < wN nm) : x = x' ∧ a = a' := by
  obtain ⟨i, h1, h2⟩ := h
  obtain ⟨j, h3, h4⟩ := h'
  obtain ⟨i1, i2⟩ := Fl_ix hW T h1
  obtain ⟨j1, j2⟩ := Fl_ix hW T h3
  have e := dig_inj i1 j1 (i2.symm.trans j2)
  subst e
  rw [h1] at h3
  exact ⟨congrArg (·.2) (Option.some.inj h3), h2.trans h4.symm⟩
/-- there is one for all ways -/
theorem ah_all {ws : List Nat} (hl : ws.length = (fl T).length) (hw : ∀ w ∈ ws, w < wN nm) : ∃ x a, Ah (fun y : List Nat × Int => gdI M y.2) (Fl (wN nm) (stM M nm) T) (ws, x) a := by
  have hm : ws ∈ (Fl (wN nm) (stM M nm) T).map (·.1) := by
    rw [Fl_words, words_dig Nat.one_le_two_pow]
    obtain ⟨i, h1, h2⟩ := dig_sur hw
    rw [hl] at h1 h2
    exact List.mem_map.mpr ⟨i, List.mem_range.mpr h1, h2⟩
  obtain ⟨y, hy, e⟩ := List.mem_map.mp hm
  obtain ⟨i, hi, rfl⟩ := List.getElem_of_mem hy
  exact ⟨(Fl (wN nm) (stM M nm) T)[i].2, _, i, by rw [List.getElem?_eq_getElem hi, ← e], rfl⟩
theorem next_none {ws : List Nat} {x a : Int} (h : Ah (fun y : List Nat × Int => gdI M y.2) (Fl (wN nm) (stM M nm) T) (ws, x) a) (hn : laterR (wN nm) ws.reverse = none) : manyI M nm T = a + gdI M x := by
  have hW : 0 < wN nm := Nat.one_le_two_pow
  obtain ⟨i, h1, h2⟩ := h
  obtain ⟨i1, i2⟩ := Fl_ix hW T h1
  have hd := later_dig hW _ i i1
  have i2 : ws = dig (wN nm) (fl T).length i := i2
  rw [← i2, hn] at hd
  have hge : ¬ i + 1 < wN nm ^ (fl T).length := fun q => by rw [if_pos q] at hd; cases hd
  have e := tot_take_succ (g := fun y : List Nat × Int => gdI M y.2) h1
  rw [List.take_of_length_le (by rw [Fl_len]; omega)] at e
  unfold manyI
  rw [e, h2]
theorem next_some {ws r : List Nat} {x x' a a' : Int} (h : Ah (fun y : List Nat × Int => gdI M y.2) (Fl (wN nm) (stM M nm) T) (ws, x) a) (hn : laterR (wN nm) ws.reverse = some r)
    (h' : Ah (fun y : List Nat × Int => gdI M y.2) (Fl (wN nm) (stM M nm) T) (r.reverse, x') a') : a' = a + gdI M x := by
  have hW : 0 < wN nm := Nat.one_le_two_pow
  obtain ⟨i, h1, h2⟩ := h
  obtain ⟨j, h3, h4⟩ := h'
  obtain ⟨i1, i2⟩ := Fl_ix hW T h1
  obtain ⟨j1, j2⟩ := Fl_ix hW T h3
  have hd := later_dig hW _ i i1
  have i2 : ws = dig (wN nm) (fl T).length i := i2
  have j2 : r.reverse = dig (wN nm) (fl T).length j := j2
  rw [← i2, hn] at hd
  by_cases q : i + 1 < wN nm ^ (fl T).length
  · rw [if_pos q] at hd
    have hd := Option.some.inj hd
    rw [hd, List.reverse_reverse] at j2
    have e := dig_inj q j1 j2
    subst e
    rw [h4, tot_take_succ (g := fun y : List Nat × Int => gdI M y.2) h1, h2]
  · rw [if_neg q] at hd
    cases hd
theorem next_lt {ws r : List Nat} (hl : ws.length = (fl T).length) (hw : ∀ w ∈ ws, w < wN nm) (hn : laterR (wN nm) ws.reverse = some r) : r.length = (fl T).length ∧ ∀ w ∈ r, w < wN nm := by
  have hW : 0 < wN nm := Nat.one_le_two_pow
  obtain ⟨i, h1, h2⟩ := dig_sur hw
  have hd := later_dig hW _ i h1
  rw [h2, hn] at hd
  by_cases q : i + 1 < wN nm ^ ws.length
  · rw [if_pos q] at hd
    have hd := Option.some.inj hd
    rw [hd]
    exact ⟨by rw [List.length_reverse, dig_len, hl], fun w h => dig_lt hW _ _ w (List.mem_reverse.mp h)⟩
  · rw [if_neg q] at hd
    cases hd
theorem zero_ah {x a : Int} (h : Ah (fun y : List Nat × Int => gdI M y.2) (Fl (wN nm) (stM M nm) T) (List.replicate (fl T).length 0, x) a) : a = 0 := by
  have hW : 0 < wN nm := Nat.one_le_two_pow
  obtain ⟨i, h1, h2⟩ := h
  obtain ⟨i1, i2⟩ := Fl_ix hW T h1
  have i2 : List.replicate (fl T).length 0 = dig (wN nm) (fl T).length i := i2
  rw [← dig_zero (wN nm)] at i2
  have e := dig_inj (Nat.pow_pos hW) i1 i2
  subst e
  rw [h2, List.take_zero]
  rfl
theorem many_ge {ws : List Nat} {x a : Int} (h : Ah (fun y : List Nat × Int => gdI M y.2) (Fl (wN nm) (stM M nm) T) (ws, x) a) : 0 ≤ a ∧ a + gdI M x ≤ manyI M nm T :=
  ah_lt (fun y _ => gd_nn M y.2) h
theorem putL_twice (hb : ∀ z w w', putZ nm (putZ nm z w) w' = putZ nm z w') : ∀ (t : List Plc) (u v : List Nat), u.length = t.length → v.length = t.length → putL (putZ nm) (putL (putZ nm) t u) v = putL (putZ nm) t v
  | [], u, v, _, _ => by unfold putL; simp
  | x :: t, [], v, h, _ => by simp at h
  | x :: t, a :: u, [], _, h => by simp at h
  | x :: t, a :: u, b :: v, h1, h2 => by
    have := putL_twice hb t u v (by simpa using h1) (by simpa using h2)
    unfold putL at *
    rw [List.zipWith_cons_cons, List.zipWith_cons_cons, List.zipWith_cons_cons, this]
    simp [hb]
end
end Pv

/-! Fillings: what the laws draw. -/
namespace Pv
open PySem
theorem Row.nd {z : Tx} (h : Row z) : z.Nodup := by
  refine List.Pairwise.imp ?_ h.pw
  intro a b q e
  omega
/-- the letters of a row's beginning, sorted -/
theorem e_srt {cx : Cxt} {env : Env} {s : Store} {pool : Tx} {i j c : Nat} (hi : env[i]? = some (some (.d (.str pool)))) (hj : env[j]? = some (some (.d (.int (c : Int))))) (hp : pool.length ≤ 60) :
    evE cx (.meth .join (.str []) (.cons (.blt .sorted (.cons (.slice0 (.var i) (.var j)) .nil)) .nil)) env s = .ok (.d (.str (sortG ltN (pool.take c)))) s := by
  have hl : pool.length ≤ line := by show _ ≤ 16777216; omega
  have ct := cut_to pool (j := (c : Int)) (by omega)
  rw [Int.toNat_natCast] at ct
  have tl : (pool.take c).length ≤ 60 := by rw [List.length_take]; omega
  have so := sorted_sgn s (pool.take c) (by omega)
  rw [sort_one] at so
  have sl := (sortG_perm (lt := ltN) (pool.take c)).length_eq
  have jr := joinR s [] ((sortG ltN (pool.take c)).map fun c => ([c] : Tx)) (by rw [ones_sum, sl]; simp only [List.length_nil, Nat.mul_zero]; show _ ≤ 16777216; omega)
  rw [join_one] at jr
  generalize ((sortG ltN (pool.take c)).map fun c => ([c] : Tx)).map D.str = SS at *
  generalize sortG ltN (pool.take c) = S at *
  generalize pool.take c = P at *
  simp [hi, hj, hl, ct, so, jr]
theorem e_srt_len (pool : Tx) {c : Nat} (h : c ≤ pool.length) : (sortG ltN (pool.take c)).length = c := by
  rw [(sortG_perm (lt := ltN) (pool.take c)).length_eq, List.length_take]
  omega
/-- a tree whose marks are rows, of so many places at most -/
structure OkF (t : List Plc) (q : Nat) : Prop where
  tr : IsTree t
  tl : t.length ≤ q
  rows : ∀ x ∈ t, Row x.2
theorem OkF.zl {t : List Plc} {q : Nat} (h : OkF t q) : ∀ x ∈ t, x.2.length ≤ 52 := fun x hx => (h.rows x hx).len
theorem wood_ok {pool : Tx} (nd : pool.Nodup) (hs : ∀ c ∈ pool, c ∈ LETTERS) (ds : List Int) : OkF (woodI pool FAR ds) (2 * ds.length) :=
  ⟨(woodI_ok pool FAR ds).1, (woodI_ok pool FAR ds).2, wood_rows nd hs FAR (by decide) ds⟩
theorem rowPl_ok {pool : Tx} (nd : pool.Nodup) (hs : ∀ c ∈ pool, c ∈ LETTERS) (ds : List Int) : OkF (rowPl pool 0 ds) ds.length := by
  refine ⟨rowPl_tree pool ds, by rw [rowPl_len]; exact Nat.le_refl _, fun x hx => ?_⟩
  obtain ⟨i, hi⟩ := List.getElem?_of_mem hx
  rw [rowPl_at] at hi
  cases e : ds[i]? with
  | none => rw [e] at hi; cases hi
  | some y =>
    rw [e] at hi
    cases hi
    exact marks_row nd hs _
theorem OkF.le {t : List Plc} {q r : Nat} (h : OkF t q) (hq : q ≤ r) : OkF t r := ⟨h.tr, Nat.le_trans h.tl hq, h.rows⟩
theorem OkF.fc {t : List Plc} {M : Mach} {c n : Nat} {nm : Tx} (h : OkF t 200) (W : WF M c n) (hc : c ≤ 20) (n1 : 1 ≤ n) (n2 : n ≤ 1000) (nl : nm.length ≤ 4) : FC M c n nm t :=
  ⟨W, hc, n1, n2, by rw [W.nl]; omega, nl, h.tl, h.tr.1, fun x hx => by have := h.zl x hx; omega⟩
end Pv

namespace Pv.L
/- slots of letter_of: 0 names, 1 marks, 2 number, 3 name -/
def f_letter_of : Fn := ⟨["names", "marks"], ["names", "marks", "number", "name"], b_letter_of⟩
/- slots of marks_of: 0 names, 1 number, 2 found, 3 weight, 4 name -/
def f_marks_of : Fn := ⟨["names", "number"], ["names", "number", "found", "weight", "name"], b_marks_of⟩
/- slots of links_of: 0 tree, 1 links, 2 tops, 3 place, 4 branches, 5 left, 6 right -/
def f_links_of : Fn := ⟨["tree"], ["tree", "links", "tops", "place", "branches", "left", "right"], b_links_of⟩
/- slots of refuse_names: 0 names -/
def f_refuse_names : Fn := ⟨["names"], ["names"], b_refuse_names⟩
/- slots of bare_marks: 0 marks, 1 names, 2 sign -/
def f_bare_marks : Fn := ⟨["marks", "names"], ["marks", "names", "sign"], b_bare_marks⟩
/- slots of place_choices: 0 machine, 1 tree, 2 names, 3 found, 4 branches, 5 marks, 6 bare, 7 way -/
def f_place_choices : Fn := ⟨["machine", "tree", "names"], ["machine", "tree", "names", "found", "branches", "marks", "bare", "way"], b_place_choices⟩
/- slots of branch_ways: 0 counts, 1 top, 2 many, 3 row -/
def f_branch_ways : Fn := ⟨["counts", "top", "many"], ["counts", "top", "many", "row"], b_branch_ways⟩
/- slots of part_ways: 0 machine, 1 links, 2 choices, 3 many, 4 counts, 5 place, 6 lefts, 7 rights, 8 row, 9 low, 10 high, 11 pairs, 12 letter -/
def f_part_ways : Fn := ⟨["machine", "links", "choices"], ["machine", "links", "choices", "many", "counts", "place", "lefts", "rights", "row", "low", "high", "pairs", "letter"], b_part_ways⟩
/- slots of filling_form: 0 machine, 1 tree, 2 names, 3 links, 4 choices -/
def f_filling_form : Fn := ⟨["machine", "tree", "names"], ["machine", "tree", "names", "links", "choices"], b_filling_form⟩
/- slots of top_of: 0 links -/
def f_top_of : Fn := ⟨["links"], ["links"], b_top_of⟩
/- slots of taken_by_places: 0 form, 1 place, 2 taken, 3 machine, 4 many, 5 found, 6 low, 7 row, 8 high, 9 letter -/
def f_taken_by_places : Fn := ⟨["form", "place", "taken"], ["form", "place", "taken", "machine", "many", "found", "low", "row", "high", "letter"], b_taken_by_places⟩
/- slots of taken_by_left: 0 form, 1 place, 2 tops, 3 many, 4 rights, 5 low, 6 high -/
def f_taken_by_left : Fn := ⟨["form", "place", "tops"], ["form", "place", "tops", "many", "rights", "low", "high"], b_taken_by_left⟩
/- slots of ways_ahead: 0 form, 1 place, 2 taken, 3 own, 4 machine, 5 links, 6 choices, 7 counts, 8 tops, 9 lefts, 10 found, 11 low, 12 more, 13 high, 14 less, 15 way -/
def f_ways_ahead : Fn := ⟨["form", "place", "taken", "own"], ["form", "place", "taken", "own", "machine", "links", "choices", "counts", "tops", "lefts", "found", "low", "more", "high", "less", "way"], b_ways_ahead⟩
/- slots of taken_by_good: 0 machine, 1 good -/
def f_taken_by_good : Fn := ⟨["machine"], ["machine", "good"], b_taken_by_good⟩
/- slots of let_by_many: 0 form, 1 machine, 2 links, 3 choices, 4 counts, 5 rooms, 6 room -/
def f_let_by_many : Fn := ⟨["form"], ["form", "machine", "links", "choices", "counts", "rooms", "room"], b_let_by_many⟩
/- slots of fillings: 0 machine, 1 tree, 2 names -/
def f_fillings : Fn := ⟨["machine", "tree", "names"], ["machine", "tree", "names"], b_fillings⟩
/- slots of filling_rank: 0 machine, 1 tree, 2 names, 3 form, 4 own, 5 branches, 6 marks -/
def f_filling_rank : Fn := ⟨["machine", "tree", "names"], ["machine", "tree", "names", "form", "own", "branches", "marks"], b_filling_rank⟩
/- slots of _law_cell: 0 _law_script, 1 _law_k -/
def f__law_cell : Fn := ⟨["_law_script", "_law_k"], ["_law_script", "_law_k"], b__law_cell⟩
/- slots of _law_mixed: 0 _law_cell_here, 1 _law_k, 2 _law_salt, 3 _law_first -/
def f__law_mixed : Fn := ⟨["_law_cell_here", "_law_k", "_law_salt"], ["_law_cell_here", "_law_k", "_law_salt", "_law_first"], b__law_mixed⟩
/- slots of _law_draws: 0 _law_cell_here, 1 _law_many, 2 _law_salt, 3 _law_found, 4 _law_rest, 5 _law_k -/
def f__law_draws : Fn := ⟨["_law_cell_here", "_law_many", "_law_salt"], ["_law_cell_here", "_law_many", "_law_salt", "_law_found", "_law_rest", "_law_k"], b__law_draws⟩
/- slots of _law_same: 0 _law_found, 1 _law_due, 2 _law_k -/
def f__law_same : Fn := ⟨["_law_found", "_law_due"], ["_law_found", "_law_due", "_law_k"], b__law_same⟩
/- slots of _law_pool: 0 _law_cell_here, 1 _law_many, 2 _law_salt, 3 _law_rest, 4 _law_found, 5 _law_d, 6 _law_at -/
def f__law_pool : Fn := ⟨["_law_cell_here", "_law_many", "_law_salt"], ["_law_cell_here", "_law_many", "_law_salt", "_law_rest", "_law_found", "_law_d", "_law_at"], b__law_pool⟩
/- slots of _law_marks: 0 _law_pool_here, 1 _law_number, 2 _law_k -/
def f__law_marks : Fn := ⟨["_law_pool_here", "_law_number"], ["_law_pool_here", "_law_number", "_law_k"], b__law_marks⟩
/- slots of _law_tree: 0 _law_draws_here, 1 _law_pool_here, 2 _law_found, 3 _law_high, 4 _law_d, 5 _law_branches -/
def f__law_tree : Fn := ⟨["_law_draws_here", "_law_pool_here"], ["_law_draws_here", "_law_pool_here", "_law_found", "_law_high", "_law_d", "_law_branches"], b__law_tree⟩
/- slots of _law_machine: 0 _law_names, 1 _law_many, 2 _law_top, 3 _law_draws_here, 4 _law_good, 5 _law_k, 6 _law_table, 7 _law_at, 8 _law_letter_here, 9 _law_rows, 10 _law_l, 11 _law_r -/
def f__law_machine : Fn := ⟨["_law_names", "_law_many", "_law_top", "_law_draws_here"], ["_law_names", "_law_many", "_law_top", "_law_draws_here", "_law_good", "_law_k", "_law_table", "_law_at", "_law_letter_here", "_law_rows", "_law_l", "_law_r"], b__law_machine⟩
/- slots of _law_letter: 0 _law_names, 1 _law_marks_here, 2 _law_found, 3 _law_name -/
def f__law_letter : Fn := ⟨["_law_names", "_law_marks_here"], ["_law_names", "_law_marks_here", "_law_found", "_law_name"], b__law_letter⟩
/- slots of _law_run: 0 _law_machine_here, 1 _law_tree_here, 2 _law_heap, 3 _law_found, 4 _law_branches, 5 _law_marks_here, 6 _law_left, 7 _law_right -/
def f__law_run : Fn := ⟨["_law_machine_here", "_law_tree_here"], ["_law_machine_here", "_law_tree_here", "_law_heap", "_law_found", "_law_branches", "_law_marks_here", "_law_left", "_law_right"], b__law_run⟩
/- slots of _law_lets: 0 _law_machine_here, 1 _law_tree_here -/
def f__law_lets : Fn := ⟨["_law_machine_here", "_law_tree_here"], ["_law_machine_here", "_law_tree_here"], b__law_lets⟩
/- slots of _law_put: 0 _law_tree_here, 1 _law_names, 2 _law_ways, 3 _law_found, 4 _law_k, 5 _law_marks_here, 6 _law_sign, 7 _law_j -/
def f__law_put : Fn := ⟨["_law_tree_here", "_law_names", "_law_ways"], ["_law_tree_here", "_law_names", "_law_ways", "_law_found", "_law_k", "_law_marks_here", "_law_sign", "_law_j"], b__law_put⟩
/- slots of _law_row_of: 0 _law_draws_here, 1 _law_pool_here, 2 _law_found, 3 _law_k, 4 _law_d -/
def f__law_row_of : Fn := ⟨["_law_draws_here", "_law_pool_here"], ["_law_draws_here", "_law_pool_here", "_law_found", "_law_k", "_law_d"], b__law_row_of⟩
/- slots of _law_later: 0 _law_ways, 1 _law_many, 2 _law_found, 3 _law_k -/
def f__law_later : Fn := ⟨["_law_ways", "_law_many"], ["_law_ways", "_law_many", "_law_found", "_law_k"], b__law_later⟩
/- slots of law: 0 _law_script, 1 _law_shape, 2 _law_many, 3 _law_rooms, 4 _law_pool_here, 5 _law_draws_here, 6 _law_machine_here, 7 _law_names, 8 _law_most, 9 _law_tree_here, 10 _law_ways, 11 _law_branches, 12 _law_marks_here, 13 _law_cut, 14 _law_rank, 15 _law_later_here, 16 _law_due, 17 _law_none, 18 _law_told -/
def x_law_1 : E :=
 (.call "_law_letter" (.cons (.var 7) (.cons (.var 12) .nil)))
def y_law_1 : Es :=
 .nil
def b_law : Ss :=
 (.cons (.set 1 (.frz (.call "_law_draws" (.cons (.call "_law_cell" (.cons (.var 0) (.cons (.int 0) .nil))) (.cons (.int 8) (.cons (.int 50021) .nil))))))
 (.cons (.set 2 (.bin .mod (.ix (.var 1) (.int 0)) (.int 3)))
 (.cons (.set 3 (.bin .add (.int 1) (.bin .mod (.ix (.var 1) (.int 1)) (.bin .sub (.int 5) (.var 2)))))
 (.cons (.set 4 (.call "_law_pool" (.cons (.call "_law_cell" (.cons (.var 0) (.cons (.int 1) .nil))) (.cons (.int 6) (.cons (.int 100003) .nil)))))
 (.cons (.set 5 (.frz (.call "_law_draws" (.cons (.call "_law_cell" (.cons (.var 0) (.cons (.int 2) .nil))) (.cons (.bin .add (.var 3) (.bin .shl (.bin .mul (.var 3) (.var 3)) (.var 2))) (.cons (.int 200017) .nil))))))
 (.cons (.set 6 (.call "_law_machine" (.cons (.meth .join (.str []) (.cons (.blt .sorted (.cons (.slice0 (.var 4) (.var 2)) .nil)) .nil)) (.cons (.var 3) (.cons (.var 3) (.cons (.var 5) .nil))))))
 (.cons (.set 7 (.slice0 (.call "_law_marks" (.cons (.var 4) (.cons (.ix (.var 1) (.int 3)) .nil))) (.bin .mod (.ix (.var 1) (.int 4)) (.int 5))))
 (.cons (.set 8 (.ix (.list (.cons (.int 40) (.cons (.int 23) (.cons (.int 15) (.cons (.int 10) (.cons (.int 7) .nil)))))) (.blt .len (.cons (.var 7) .nil))))
 (.cons (.set 9 (.call "_law_tree" (.cons (.call "_law_draws" (.cons (.call "_law_cell" (.cons (.var 0) (.cons (.int 3) .nil))) (.cons (.bin .mod (.ix (.var 1) (.int 2)) (.bin .add (.var 8) (.int 1))) (.cons (.int 300007) .nil)))) (.cons (.slice0 (.var 4) (.int 4)) .nil))))
 (.cons (.ife (.cmp .eq (.bin .mod (.ix (.var 1) (.int 7)) (.int 8)) (.int 3)) (.cons (.set 7 (.slice0 (.var 7) (.bin .add (.int 1) (.bin .mod (.ix (.var 1) (.int 4)) (.int 2)))))
 (.cons (.set 9 (.call "_law_row_of" (.cons (.call "_law_draws" (.cons (.call "_law_cell" (.cons (.var 0) (.cons (.int 3) .nil))) (.cons (.bin .add (.int 80) (.bin .mod (.ix (.var 1) (.int 2)) (.int 21))) (.cons (.int 300007) .nil)))) (.cons (.slice0 (.var 4) (.int 4)) .nil))))
 .nil)) .nil)
 (.cons (.set 10 (.frz (.lc x_law_1 (.tup (.cons (.name 11) (.cons (.name 12) .nil))) (.val (.var 9)) y_law_1)))
 (.cons (.ife (.cmp .eq (.bin .mod (.ix (.var 1) (.int 5)) (.int 4)) (.int 1)) (.cons (.set 13 (.bin .mod (.ix (.var 1) (.int 6)) (.bin .add (.blt .len (.cons (.var 9) .nil)) (.int 1))))
 (.cons (.set 10 (.frz (.bin .add (.slice0 (.var 10) (.var 13)) (.bin .mul (.list (.cons (.bin .sub (.bin .shl (.int 1) (.blt .len (.cons (.var 7) .nil))) (.int 1)) .nil)) (.bin .sub (.blt .len (.cons (.var 9) .nil)) (.var 13))))))
 .nil)) .nil)
 (.cons (.set 9 (.call "_law_put" (.cons (.var 9) (.cons (.var 7) (.cons (.var 10) .nil)))))
 (.cons (.set 14 (.call "filling_rank" (.cons (.var 6) (.cons (.var 9) (.cons (.var 7) .nil)))))
 (.cons (.ife (.or (.cons (.not (.isi .int (.var 14))) (.cons (.isi .bool (.var 14)) .nil))) (.cons (.ret (.bl false))
 .nil) .nil)
 (.cons (.set 15 (.frz (.call "_law_later" (.cons (.var 10) (.cons (.bin .shl (.int 1) (.blt .len (.cons (.var 7) .nil))) .nil)))))
 (.cons (.set 16 (.bin .add (.var 14) (.blt .int (.cons (.call "_law_lets" (.cons (.var 6) (.cons (.var 9) .nil))) .nil))))
 (.cons (.ife (.cmp .is (.var 15) .non) (.cons (.ret (.call "_law_same" (.cons (.call "fillings" (.cons (.var 6) (.cons (.var 9) (.cons (.var 7) .nil)))) (.cons (.var 16) .nil))))
 .nil) .nil)
 (.cons (.ife (.not (.call "_law_same" (.cons (.call "filling_rank" (.cons (.var 6) (.cons (.call "_law_put" (.cons (.var 9) (.cons (.var 7) (.cons (.var 15) .nil)))) (.cons (.var 7) .nil)))) (.cons (.var 16) .nil)))) (.cons (.ret (.bl false))
 .nil) .nil)
 (.cons (.set 17 (.call "_law_put" (.cons (.var 9) (.cons (.var 7) (.cons (.bin .mul (.list (.cons (.int 0) .nil)) (.blt .len (.cons (.var 9) .nil))) .nil)))))
 (.cons (.ife (.not (.call "_law_same" (.cons (.call "filling_rank" (.cons (.var 6) (.cons (.var 17) (.cons (.var 7) .nil)))) (.cons (.int 0) .nil)))) (.cons (.ret (.bl false))
 .nil) .nil)
 (.cons (.set 18 (.call "fillings" (.cons (.var 6) (.cons (.var 17) (.cons (.var 7) .nil)))))
 (.cons (.ife (.or (.cons (.not (.isi .int (.var 18))) (.cons (.isi .bool (.var 18)) (.cons (.cmp .lt (.var 18) (.var 16)) .nil)))) (.cons (.ret (.bl false))
 .nil) .nil)
 (.cons (.ret (.call "_law_same" (.cons (.call "fillings" (.cons (.var 6) (.cons (.var 9) (.cons (.var 7) .nil)))) (.cons (.var 18) .nil))))
 .nil))))))))))))))))))))))))
def f_law : Fn := ⟨["_law_script"], ["_law_script", "_law_shape", "_law_many", "_law_rooms", "_law_pool_here", "_law_draws_here", "_law_machine_here", "_law_names", "_law_most", "_law_tree_here", "_law_ways", "_law_branches", "_law_marks_here", "_law_cut", "_law_rank", "_law_later_here", "_law_due", "_law_none", "_law_told"], b_law⟩
def fnT : String → Option Fn
  | "letter_of" => some f_letter_of
  | "marks_of" => some f_marks_of
  | "links_of" => some f_links_of
  | "refuse_names" => some f_refuse_names
  | "bare_marks" => some f_bare_marks
  | "place_choices" => some f_place_choices
  | "branch_ways" => some f_branch_ways
  | "part_ways" => some f_part_ways
  | "filling_form" => some f_filling_form
  | "top_of" => some f_top_of
  | "taken_by_places" => some f_taken_by_places
  | "taken_by_left" => some f_taken_by_left
  | "ways_ahead" => some f_ways_ahead
  | "taken_by_good" => some f_taken_by_good
  | "let_by_many" => some f_let_by_many
  | "fillings" => some f_fillings
  | "filling_rank" => some f_filling_rank
  | "_law_cell" => some f__law_cell
  | "_law_mixed" => some f__law_mixed
  | "_law_draws" => some f__law_draws
  | "_law_same" => some f__law_same
  | "_law_pool" => some f__law_pool
  | "_law_marks" => some f__law_marks
  | "_law_tree" => some f__law_tree
  | "_law_machine" => some f__law_machine
  | "_law_letter" => some f__law_letter
  | "_law_run" => some f__law_run
  | "_law_lets" => some f__law_lets
  | "_law_put" => some f__law_put
  | "_law_row_of" => some f__law_row_of
  | "_law_later" => some f__law_later
  | "law" => some f_law
  | _ => none
def globT : String → Option D
  | "MOST_NAMES" => some (.int 4)
  | _ => none
def isxT : String → Bool
  | "TooGreat" => true
  | _ => false
def subT : String → String → Option Bool := fun _ _ => none
def hndT : String → String → Option Bool := fun _ _ => none
def kndT : String → Option (List String) := fun _ => none
def Δ : Prog := ⟨fnT, globT, isxT, subT, hndT, kndT⟩
end Pv.L

/-! Law 61: the next filling. -/
namespace Pv.L
open PySem Pv
abbrev depth : Nat := 120
abbrev fuel : Nat := 1000000
theorem has_fil : HasFil Δ := ⟨⟨_, _, rfl, rfl, rfl⟩, ⟨_, _, rfl, rfl, rfl⟩, ⟨_, _, rfl, rfl, rfl⟩, ⟨_, _, rfl, rfl, rfl⟩, ⟨_, _, rfl, rfl, rfl⟩, ⟨_, _, rfl, rfl, rfl⟩, ⟨_, _, rfl, rfl, rfl⟩, ⟨_, _, rfl, rfl, rfl⟩, ⟨_, _, rfl, rfl, rfl⟩, ⟨_, _, rfl, rfl, rfl⟩, ⟨_, _, rfl, rfl, rfl⟩, ⟨_, _, rfl, rfl, rfl⟩, ⟨_, _, rfl, rfl, rfl⟩, ⟨_, _, rfl, rfl, rfl⟩, ⟨_, _, rfl, rfl, rfl⟩, rfl⟩
theorem has_rank : Has Δ "filling_rank" 3 7 b_filling_rank := ⟨_, _, rfl, rfl, rfl⟩
theorem has_ahead : Has Δ "ways_ahead" 4 16 b_ways_ahead := ⟨_, _, rfl, rfl, rfl⟩
theorem has_cell : Has Δ "_law_cell" 2 2 b__law_cell := ⟨_, _, rfl, rfl, rfl⟩
theorem has_mixed : Has Δ "_law_mixed" 3 4 b__law_mixed := ⟨_, _, rfl, rfl, rfl⟩
theorem has_draws : Has Δ "_law_draws" 3 6 b__law_draws := ⟨_, _, rfl, rfl, rfl⟩
theorem has_same : Has Δ "_law_same" 2 3 b__law_same := ⟨_, _, rfl, rfl, rfl⟩
theorem has_pool : Has Δ "_law_pool" 3 7 b__law_pool := ⟨_, _, rfl, rfl, rfl⟩
theorem has_marks : Has Δ "_law_marks" 2 3 b__law_marks := ⟨_, _, rfl, rfl, rfl⟩
theorem has_tree : Has Δ "_law_tree" 2 6 b__law_tree := ⟨_, _, rfl, rfl, rfl⟩
theorem has_machine : Has Δ "_law_machine" 4 12 b__law_machine := ⟨_, _, rfl, rfl, rfl⟩
theorem has_lletter : Has Δ "_law_letter" 2 4 b__law_letter := ⟨_, _, rfl, rfl, rfl⟩
theorem has_run : Has Δ "_law_run" 2 8 b__law_run := ⟨_, _, rfl, rfl, rfl⟩
theorem has_lets : Has Δ "_law_lets" 2 2 b__law_lets := ⟨_, _, rfl, rfl, rfl⟩
theorem has_put : Has Δ "_law_put" 3 8 b__law_put := ⟨_, _, rfl, rfl, rfl⟩
theorem has_row : Has Δ "_law_row_of" 2 5 b__law_row_of := ⟨_, _, rfl, rfl, rfl⟩
theorem has_later : Has Δ "_law_later" 2 4 b__law_later := ⟨_, _, rfl, rfl, rfl⟩
theorem has_law : Has Δ "law" 1 19 b_law := ⟨_, _, rfl, rfl, rfl⟩
section
variable {M : Mach} {c n : Nat} {nm : Tx} {T : TT}
theorem rank_at (F : FC M c n nm (fl T)) (hk : (fl T).length ≤ 115) (s : Store) : ∃ a x, Φ Δ fuel 119 "filling_rank" [.d (machD M), .d (.tup ((fl T).map plD)), .d (.str nm)] s = .ok (.d (.int a)) s ∧ Ah (fun y => gdI M y.2) (Fl (wN nm) (stM M nm) T) (ownW nm (fl T), x) a := by
  obtain ⟨a, x, h1, h2, _, _⟩ := sp_rank (m := fuel) has_fil has_rank has_ahead F (k := 115) hk s
  exact ⟨a, x, h1, h2⟩
theorem fils_at (F : FC M c n nm (fl T)) (s : Store) : Φ Δ fuel 119 "fillings" [.d (machD M), .d (.tup ((fl T).map plD)), .d (.str nm)] s = .ok (.d (.int (manyI M nm T))) s := sp_fillings (m := fuel) (d := 115) has_fil F s
theorem lets_at (F : FC M c n nm (fl T)) (s : Store) : Φ Δ fuel 119 "_law_lets" [.d (machD M), .d (.tup ((fl T).map plD))] s = .ok (.d (.bl (letsI M (fl T)))) s := sp_llets (m := fuel) (d := 116) has_lets has_run has_lletter F.W F.n1 (fl T) F.wd (by have := F.tl; show (fl T).length < 16777216; omega) s
/-- all that the law asks, of a filling -/
theorem core61 (F : FC M c n nm (fl T)) (nd : nm.Nodup) (hz : ∀ x ∈ fl T, x.2.length ≤ 52) (hk : (fl T).length ≤ 115) (ws : List Nat) (wl : ws.length = (fl T).length) (hw : ∀ w ∈ ws, w < wN nm) :
    ∃ (t' : List Plc) (a mm : Int) (b : Bool), (∀ s, Φ Δ fuel 119 "_law_put" [.d (.tup ((fl T).map plD)), .d (.str nm), .d (.lst (wsD ws))] s = .ok (.d (.tup (t'.map plD))) s) ∧ t'.length = ws.length ∧
      Φ Δ fuel 119 "filling_rank" [.d (machD M), .d (.tup (t'.map plD)), .d (.str nm)] [] = .ok (.d (.int a)) [] ∧ Φ Δ fuel 119 "_law_lets" [.d (machD M), .d (.tup (t'.map plD))] [] = .ok (.d (.bl b)) [] ∧
      Φ Δ fuel 119 "fillings" [.d (machD M), .d (.tup (t'.map plD)), .d (.str nm)] [] = .ok (.d (.int mm)) [] ∧ a + (if b = true then 1 else 0) ≤ mm ∧ (laterR (wN nm) ws.reverse = none → mm = a + (if b = true then 1 else 0)) ∧
      (∀ r, laterR (wN nm) ws.reverse = some r → ∃ t2 : List Plc, Φ Δ fuel 119 "_law_put" [.d (.tup (t'.map plD)), .d (.str nm), .d (.lst (wsD r.reverse))] [] = .ok (.d (.tup (t2.map plD))) [] ∧ Φ Δ fuel 119 "filling_rank" [.d (machD M), .d (.tup (t2.map plD)), .d (.str nm)] [] = .ok (.d (.int (a + (if b = true then 1 else 0)))) []) ∧
      (∃ t3 : List Plc, Φ Δ fuel 119 "_law_put" [.d (.tup (t'.map plD)), .d (.str nm), .d (.lst (wsD (List.replicate ws.length 0)))] [] = .ok (.d (.tup (t3.map plD))) [] ∧ Φ Δ fuel 119 "filling_rank" [.d (machD M), .d (.tup (t3.map plD)), .d (.str nm)] [] = .ok (.d (.int 0)) [] ∧
        Φ Δ fuel 119 "fillings" [.d (machD M), .d (.tup (t3.map plD)), .d (.str nm)] [] = .ok (.d (.int mm)) []) := by
  have tl := F.tl
  have nl := F.nl
  have hW : 0 < wN nm := Nat.one_le_two_pow
  have pf := put_fl (nm := nm) wl
  have F' := put_FC F wl (fun x hx => by have := hz x hx; omega)
  have ow := put_own (t := fl T) nd wl hw
  have pl := putL_len (putZ nm) wl
  have hz' : ∀ x ∈ putL (putZ nm) (fl T) ws, x.2.length ≤ 56 := fun x hx => by
    unfold putL at hx
    obtain ⟨i, hi, rfl⟩ := List.getElem_of_mem hx
    rw [List.length_zipWith] at hi
    rw [List.getElem_zipWith]
    have := putZ_len nm (fl T)[i].2 ws[i]
    have := hz (fl T)[i] (List.getElem_mem _)
    show (putZ nm (fl T)[i].2 ws[i]).length ≤ 56
    omega
  have put0 := fun s => sp_lput (m := fuel) (d := 118) has_put nm (fl T) ws wl tl nl (fun x hx => by have := hz x hx; omega) s
  have put1 := fun (v : List Nat) (hv : v.length = (putL (putZ nm) (fl T) ws).length) => sp_lput (m := fuel) (d := 118) has_put nm (putL (putZ nm) (fl T) ws) v hv (by rw [pl]; exact tl) nl (fun x hx => by have := hz' x hx; omega) []
  rw [pf] at F' ow pl hz' put0 put1
  have eF := put_Fl (M := M) (nm := nm) (T := T) ws
  have eM := put_many (M := M) (nm := nm) (T := T) ws
  -- the second ones
  have snd := fun (v : List Nat) (hv : v.length = (fl (putT (putZ nm) T ws)).length) (hvw : ∀ w ∈ v, w < wN nm) => (show ∃ T2, fl T2 = putL (putZ nm) (fl (putT (putZ nm) T ws)) v ∧ FC M c n nm (fl T2) ∧ ownW nm (fl T2) = v ∧ Fl (wN nm) (stM M nm) T2 = Fl (wN nm) (stM M nm) T ∧ manyI M nm T2 = manyI M nm T ∧ (fl T2).length ≤ 115 from by
    have pf2 := put_fl (nm := nm) hv
    have F2 := put_FC F' hv (fun x hx => by have := hz' x hx; omega)
    have ow2 := put_own (t := fl (putT (putZ nm) T ws)) nd hv hvw
    have pl2 := putL_len (putZ nm) hv
    refine ⟨putT (putZ nm) (putT (putZ nm) T ws) v, pf2.symm, by rw [← pf2]; exact F2, by rw [← pf2]; exact ow2, by rw [put_Fl, eF], by rw [put_many, eM], ?_⟩
    rw [← pf2, pl2, pl]
    exact hk)
  have pls : ∀ x : Int, (ws, x) ∈ Fl (wN nm) (stM M nm) T → letsI M (fl (putT (putZ nm) T ws)) = M.good.getD x.toNat false := fun x h => put_lets (M := M) nd h
  generalize putT (putZ nm) T ws = T1 at *
  have hk1 : (fl T1).length ≤ 115 := by rw [pl]; exact hk
  obtain ⟨a, x, r1, A1⟩ := rank_at F' hk1 []
  rw [ow, eF] at A1
  have lt := lets_at F' []
  have fi := fils_at F' []
  rw [eM] at fi
  have gx : gdI M x = if letsI M (fl T1) = true then 1 else 0 := by
    rw [pls x (ah_mem A1)]
    rfl
  refine ⟨fl T1, a, manyI M nm T, letsI M (fl T1), put0, by rw [pl, wl], r1, lt, fi, ?_, fun hn => ?_, fun r hn => ?_, ?_⟩
  · rw [← gx]
    exact (many_ge A1).2
  · rw [← gx]
    exact next_none A1 hn
  · obtain ⟨rl, rw'⟩ := next_lt wl hw hn
    have rl' : r.reverse.length = (fl T1).length := by rw [List.length_reverse, rl, pl]
    obtain ⟨T2, e2, F2, ow2, eF2, eM2, hk2⟩ := snd r.reverse rl' (fun w h => rw' w (List.mem_reverse.mp h))
    obtain ⟨a2, x2, r2, A2⟩ := rank_at F2 hk2 []
    rw [ow2, eF2] at A2
    have ea := next_some A1 hn A2
    have pt := put1 r.reverse rl'
    rw [← e2] at pt
    refine ⟨fl T2, pt, ?_⟩
    rw [r2, ea, gx]
  · have rl' : (List.replicate ws.length 0).length = (fl T1).length := by rw [List.length_replicate, wl, pl]
    obtain ⟨T2, e2, F2, ow2, eF2, eM2, hk2⟩ := snd (List.replicate ws.length 0) rl' (fun w h => by rw [List.eq_of_mem_replicate h]; exact hW)
    obtain ⟨a2, x2, r2, A2⟩ := rank_at F2 hk2 []
    rw [ow2, eF2, wl] at A2
    have ea := zero_ah A2
    have pt := put1 (List.replicate ws.length 0) rl'
    rw [← e2] at pt
    have fi2 := fils_at F2 []
    rw [eM2] at fi2
    refine ⟨fl T2, pt, ?_, fi2⟩
    rw [r2, ea]
end
end Pv.L

/-! Law 61: the law. -/
namespace Pv.L
open PySem Pv
theorem shl_nat (x c : Nat) (hx : x ≤ 1000) (hc : c ≤ 60) (s : Store) : binV .shl (.d (.int (x : Int))) (.d (.int (c : Int))) s = .ok (.d (.int ((x * 2 ^ c : Nat) : Int))) s := by
  have lg : x.log2 ≤ x := by
    by_cases q : x = 0
    · subst q; decide
    · have := (Nat.log2_lt q).2 (Nat.lt_two_pow_self (n := x))
      omega
  have e : okShl (x : Int) c = true := by
    unfold okShl
    rw [Bool.and_eq_true, Bool.and_eq_true, decide_eq_true_eq, decide_eq_true_eq, decide_eq_true_eq, Int.natAbs_natCast]
    omega
  rw [bin_shl _ _ _ e, Int.toNat_natCast]
  congr 3
theorem own_wsD (nm : Tx) (t : List Plc) : (t.map fun x => D.int (val nm (fun c => decide (c ∈ x.2)) : Nat)) = wsD (ownW nm t) := by
  unfold wsD ownW
  rw [List.map_map]
  rfl
theorem rep_w (w : Nat) : ∀ r : Nat, (List.replicate r [D.int (w : Int)]).flatten = wsD (List.replicate r w)
  | 0 => rfl
  | r + 1 => by rw [List.replicate_succ, List.flatten_cons, rep_w w r, List.replicate_succ]; rfl
theorem mul_rep (w r : Nat) (h : r ≤ 1000) (s : Store) : binV .mul (.new [.int (w : Int)]) (.d (.int (r : Int))) s = .ok (.new (wsD (List.replicate r w))) s := by
  rw [bin_rep, if_pos (by refine ⟨?_, by omega, by omega⟩; simp only [List.length_cons, List.length_nil, Int.toNat_natCast]; show _ ≤ 16777216; omega), Int.toNat_natCast, rep_w]
theorem law_true (ns : List Int) (hl : ns.length ≤ 63) : Φ Δ fuel depth "law" [.d (.lst (ns.map .int))] [] = .ok (.d (.bl true)) [] := by
  show Φ Δ fuel (119 + 1) "law" _ [] = _
  rw [has_law.run rfl]
  unfold b_law
  obtain ⟨c0, h0⟩ := sp_cell (m := fuel) (d := 118) has_cell ns 0
  obtain ⟨c1, h1⟩ := sp_cell (m := fuel) (d := 118) has_cell ns 1
  obtain ⟨c2, h2⟩ := sp_cell (m := fuel) (d := 118) has_cell ns 2
  obtain ⟨c3, h3⟩ := sp_cell (m := fuel) (d := 118) has_cell ns 3
  have h0 := h0 []
  have h1 := h1 []
  have h2 := h2 []
  have h3 := h3 []
  have hd0 : Φ Δ fuel 119 "_law_draws" [.d (.int c0), .d (.int 8), .d (.int 50021)] [] = .ok (.new ((drawsI c0 8 50021).map .int)) [] := sp_draws (m := fuel) (d := 117) has_draws has_mixed c0 8 50021 (by omega) (by omega) []
  have hdl0 := drawsI_len c0 8 50021
  generalize drawsI c0 8 50021 = sh at hd0 hdl0
  obtain ⟨w0, w1, w2, w3, w4, w5, w6, w7, rfl⟩ : ∃ a b c d e f g h, sh = [a, b, c, d, e, f, g, h] := by
    match sh, hdl0 with
    | [a, b, c, d, e, f, g, h], _ => exact ⟨a, b, c, d, e, f, g, h, rfl⟩
  simp only [List.map_cons, List.map_nil] at hd0
  have x0 : L2.atI [D.int w0, .int w1, .int w2, .int w3, .int w4, .int w5, .int w6, .int w7] 0 = some (.int w0) := rfl
  have x1 : L2.atI [D.int w0, .int w1, .int w2, .int w3, .int w4, .int w5, .int w6, .int w7] 1 = some (.int w1) := rfl
  have x2 : L2.atI [D.int w0, .int w1, .int w2, .int w3, .int w4, .int w5, .int w6, .int w7] 2 = some (.int w2) := rfl
  have x3 : L2.atI [D.int w0, .int w1, .int w2, .int w3, .int w4, .int w5, .int w6, .int w7] 3 = some (.int w3) := rfl
  have x4 : L2.atI [D.int w0, .int w1, .int w2, .int w3, .int w4, .int w5, .int w6, .int w7] 4 = some (.int w4) := rfl
  have x5 : L2.atI [D.int w0, .int w1, .int w2, .int w3, .int w4, .int w5, .int w6, .int w7] 5 = some (.int w5) := rfl
  have x6 : L2.atI [D.int w0, .int w1, .int w2, .int w3, .int w4, .int w5, .int w6, .int w7] 6 = some (.int w6) := rfl
  have x7 : L2.atI [D.int w0, .int w1, .int w2, .int w3, .int w4, .int w5, .int w6, .int w7] 7 = some (.int w7) := rfl
  generalize [D.int w0, .int w1, .int w2, .int w3, .int w4, .int w5, .int w6, .int w7] = SH at *
  -- the numbers of names and rooms
  obtain ⟨c, hc, ec⟩ : ∃ c : Nat, c ≤ 2 ∧ w0 % 3 = (c : Int) := ⟨(w0 % 3).toNat, by omega, by omega⟩
  obtain ⟨n, n1, n5, en⟩ : ∃ n : Nat, 1 ≤ n ∧ n ≤ 5 ∧ 1 + w1 % (5 - (c : Int)) = (n : Int) := by
    have a1 := Int.emod_nonneg w1 (by omega : (5 - (c : Int)) ≠ 0)
    have a2 := Int.emod_lt_of_pos w1 (by omega : 0 < (5 - (c : Int)))
    exact ⟨(1 + w1 % (5 - (c : Int))).toNat, by omega, by omega, by omega⟩
  have md1 : ∀ s, binV .mod (.d (.int w1)) (.d (.int (5 - (c : Int)))) s = .ok (.d (.int (w1 % (5 - (c : Int))))) s := fun s => bin_mod _ _ _ (by omega)
  -- letters
  have p0 : Φ Δ fuel 119 "_law_pool" [.d (.int c1), .d (.int 6), .d (.int 100003)] [] = .ok (.d (.str (poolI c1 6 100003))) [] := sp_pool (m := fuel) (d := 116) has_pool has_draws has_mixed c1 6 100003 (by omega) (by omega) []
  have pl : (poolI c1 6 100003).length = 6 := poolI_len c1 6 100003 (by omega)
  obtain ⟨pn, pin⟩ := pool_row c1 6 100003 (by omega)
  generalize poolI c1 6 100003 = pool at p0 pl pn pin
  have pll : pool.length ≤ line := by show _ ≤ 16777216; omega
  have ct4 := cut_to pool (j := 4) (by omega)
  have p4n : (pool.take 4).Nodup := pn.sublist (List.take_sublist 4 pool)
  have p4in : ∀ x ∈ pool.take 4, x ∈ LETTERS := fun x hx => pin x (List.mem_of_mem_take hx)
  have p4l : (pool.take 4).length = 4 := by rw [List.length_take, pl]; rfl
  rw [show (4 : Int).toNat = 4 from rfl] at ct4
  generalize hp4 : pool.take 4 = pool4 at *
  -- the machine
  have m1 : binV .mul (.d (.int (n : Int))) (.d (.int (n : Int))) [] = .ok (.d (.int ((n * n : Nat) : Int))) [] := by
    rw [bin_mul _ _ _ (okM1 (by omega))]
    rfl
  have sl := shl_nat (n * n) c (by have := Nat.mul_le_mul n5 n5; omega) (by omega) []
  have nnc : n * n * 2 ^ c ≤ 25 * 4 := Nat.mul_le_mul (Nat.mul_le_mul n5 n5) (by have := Nat.pow_le_pow_right (n := 2) (by decide) hc; exact this)
  have hd2 : Φ Δ fuel 119 "_law_draws" [.d (.int c2), .d (.int ((n : Int) + ((n * n * 2 ^ c : Nat) : Int))), .d (.int 200017)] [] = .ok (.new ((drawsI c2 ((n : Int) + ((n * n * 2 ^ c : Nat) : Int)) 200017).map .int)) [] := sp_draws (m := fuel) (d := 117) has_draws has_mixed c2 _ 200017 (by omega) (by omega) []
  have hdl2 := drawsI_len c2 ((n : Int) + ((n * n * 2 ^ c : Nat) : Int)) 200017
  rw [show ((n : Int) + ((n * n * 2 ^ c : Nat) : Int)).toNat = n + n * n * 2 ^ c by omega] at hdl2
  generalize drawsI c2 ((n : Int) + ((n * n * 2 ^ c : Nat) : Int)) 200017 = L at hd2 hdl2
  have mn := e_srt_len pool (c := c) (by omega)
  have mc := sp_machine (m := fuel) (d := 118) has_machine (sortG ltN (pool.take c)) c n (n : Int) L mn (by omega) (by omega) (by omega) (by omega) []
  have W := mchM_wf (names := sortG ltN (pool.take c)) (c := c) (n := n) (top := (n : Int)) (L := L) mn (by omega) (by omega)
  generalize hM : mchM (sortG ltN (pool.take c)) c n (n : Int) L = M at mc W
  clear hM
  -- the names
  have mk := sp_marks (m := fuel) (d := 118) has_marks pool w3 (by omega) []
  have mr := marks_row pn pin w3
  have mll : (marksI pool w3).length ≤ line := by have := mr.len; show _ ≤ 16777216; omega
  obtain ⟨k, hk4, ek⟩ : ∃ k : Nat, k ≤ 4 ∧ w4 % 5 = (k : Int) := ⟨(w4 % 5).toNat, by omega, by omega⟩
  have ctk := cut_to (marksI pool w3) (j := (k : Int)) (by omega)
  rw [Int.toNat_natCast] at ctk
  generalize marksI pool w3 = mk3 at *
  have nmr : Row (mk3.take k) := row_sub ((List.take_sublist k mk3).trans mr.sub)
  have nml : (mk3.take k).length ≤ 4 := by rw [List.length_take]; omega
  generalize mk3.take k = nm0 at *
  have nm0l : nm0.length ≤ line := by show _ ≤ 16777216; omega
  obtain ⟨mo, mo0, mo1, amo⟩ : ∃ mo : Int, 7 ≤ mo ∧ mo ≤ 40 ∧ L2.atI [D.int 40, .int 23, .int 15, .int 10, .int 7] (nm0.length : Int) = some (.int mo) := by
    generalize nm0.length = q at nml
    match q, nml with
    | 0, _ => exact ⟨40, by omega, by omega, rfl⟩
    | 1, _ => exact ⟨23, by omega, by omega, rfl⟩
    | 2, _ => exact ⟨15, by omega, by omega, rfl⟩
    | 3, _ => exact ⟨10, by omega, by omega, rfl⟩
    | 4, _ => exact ⟨7, by omega, by omega, rfl⟩
  have mo2 : 0 < mo + 1 := by omega
  -- the tree
  have b0 := Int.emod_nonneg w2 (by omega : mo + 1 ≠ 0)
  have b1 := Int.emod_lt_of_pos w2 mo2
  have hd3 : Φ Δ fuel 119 "_law_draws" [.d (.int c3), .d (.int (w2 % (mo + 1))), .d (.int 300007)] [] = .ok (.new ((drawsI c3 (w2 % (mo + 1)) 300007).map .int)) [] := sp_draws (m := fuel) (d := 117) has_draws has_mixed c3 _ 300007 (by omega) (by omega) []
  have hdl3 := drawsI_len c3 (w2 % (mo + 1)) 300007
  generalize drawsI c3 (w2 % (mo + 1)) 300007 = L3 at hd3 hdl3
  have tr := sp_ltree (m := fuel) (d := 117) has_tree has_marks L3 pool4 (by omega) (by omega) (by decide) []
  have okt := (wood_ok p4n p4in L3).le (r := 100) (by omega)
  generalize woodI pool4 FAR L3 = t0 at tr okt
  have hd4 : Φ Δ fuel 119 "_law_draws" [.d (.int c3), .d (.int (80 + w2 % 21)), .d (.int 300007)] [] = .ok (.new ((drawsI c3 (80 + w2 % 21) 300007).map .int)) [] := sp_draws (m := fuel) (d := 117) has_draws has_mixed c3 _ 300007 (by omega) (by omega) []
  have hdl4 := drawsI_len c3 (80 + w2 % 21) 300007
  generalize drawsI c3 (80 + w2 % 21) 300007 = L4 at hd4 hdl4
  have rw4 := sp_lrow (m := fuel) (d := 117) has_row has_marks L4 pool4 (by omega) (by omega) []
  have okr := (rowPl_ok p4n p4in L4).le (r := 100) (by omega)
  generalize rowPl pool4 0 L4 = t1 at rw4 okr
  generalize ((n * n * 2 ^ c : Nat) : Int) = nn3 at sl hd2
  generalize ((n * n : Nat) : Int) = nn2 at m1 sl
  have l5 : (5 : Nat) ≤ line := by decide
  generalize hND : ns.map D.int = ND at *
  generalize hLD : L.map D.int = LD at *
  generalize hLD3 : L3.map D.int = LD3 at *
  generalize hLD4 : L4.map D.int = LD4 at *
  rw [seqE (e1 := [some (.d (.lst ND)), some (.d (.lst SH)), none, none, none, none, none, none, none, none, none, none, none, none, none, none, none, none, none]) (s1 := []) (by simp [h0, has_cell.has, hd0, has_draws.has])]
  rw [seqE (e1 := [some (.d (.lst ND)), some (.d (.lst SH)), some (.d (.int c)), none, none, none, none, none, none, none, none, none, none, none, none, none, none, none, none]) (s1 := []) (by simp [x0, ec])]
  rw [seqE (e1 := [some (.d (.lst ND)), some (.d (.lst SH)), some (.d (.int c)), some (.d (.int n)), none, none, none, none, none, none, none, none, none, none, none, none, none, none, none]) (s1 := []) (by simp [x1, md1, en])]
  rw [seqE (e1 := [some (.d (.lst ND)), some (.d (.lst SH)), some (.d (.int c)), some (.d (.int n)), some (.d (.str pool)), none, none, none, none, none, none, none, none, none, none, none, none, none, none]) (s1 := []) (by simp [h1, has_cell.has, p0, has_pool.has])]
  rw [seqE (e1 := [some (.d (.lst ND)), some (.d (.lst SH)), some (.d (.int c)), some (.d (.int n)), some (.d (.str pool)), some (.d (.lst LD)), none, none, none, none, none, none, none, none, none, none, none, none, none]) (s1 := []) (by simp [h2, has_cell.has, m1, sl, hd2, has_draws.has])]
  have es : evE (cxΔ Δ fuel 119) (.meth .join (.str []) (.cons (.blt .sorted (.cons (.slice0 (.var 4) (.var 2)) .nil)) .nil)) [some (.d (.lst ND)), some (.d (.lst SH)), some (.d (.int c)), some (.d (.int n)), some (.d (.str pool)), some (.d (.lst LD)), none, none, none, none, none, none, none, none, none, none, none, none, none] [] = .ok (.d (.str (sortG ltN (pool.take c)))) [] := e_srt (pool := pool) (c := c) rfl rfl (by omega)
  generalize sortG ltN (pool.take c) = mnm at *
  rw [seqE (e1 := [some (.d (.lst ND)), some (.d (.lst SH)), some (.d (.int c)), some (.d (.int n)), some (.d (.str pool)), some (.d (.lst LD)), some (.d (machD M)), none, none, none, none, none, none, none, none, none, none, none, none]) (s1 := []) (by rw [s_set', e_call, if_pos has_machine.has, es_cons, es]; simp [mc])]
  rw [seqE (e1 := [some (.d (.lst ND)), some (.d (.lst SH)), some (.d (.int c)), some (.d (.int n)), some (.d (.str pool)), some (.d (.lst LD)), some (.d (machD M)), some (.d (.str nm0)), none, none, none, none, none, none, none, none, none, none, none]) (s1 := []) (by simp [mk, has_marks.has, x3, x4, ek, mll, ctk])]
  rw [seqE (e1 := [some (.d (.lst ND)), some (.d (.lst SH)), some (.d (.int c)), some (.d (.int n)), some (.d (.str pool)), some (.d (.lst LD)), some (.d (machD M)), some (.d (.str nm0)), some (.d (.int mo)), none, none, none, none, none, none, none, none, none, none]) (s1 := []) (by simp [nm0l, amo, l5])]
  rw [seqE (e1 := [some (.d (.lst ND)), some (.d (.lst SH)), some (.d (.int c)), some (.d (.int n)), some (.d (.str pool)), some (.d (.lst LD)), some (.d (machD M)), some (.d (.str nm0)), some (.d (.int mo)), some (.d (.tup (t0.map plD))), none, none, none, none, none, none, none, none, none]) (s1 := []) (by simp [h3, has_cell.has, x2, mo2, hd3, has_draws.has, pll, ct4, tr, has_tree.has])]
  have st10 : ∃ (nm : Tx) (t : List Plc), Row nm ∧ nm.length ≤ 4 ∧ OkF t 100 ∧ evS (cxΔ Δ fuel 119) (.ife (.cmp .eq (.bin .mod (.ix (.var 1) (.int 7)) (.int 8)) (.int 3)) (.cons (.set 7 (.slice0 (.var 7) (.bin .add (.int 1) (.bin .mod (.ix (.var 1) (.int 4)) (.int 2)))))  (.cons (.set 9 (.call "_law_row_of" (.cons (.call "_law_draws" (.cons (.call "_law_cell" (.cons (.var 0) (.cons (.int 3) .nil))) (.cons (.bin .add (.int 80) (.bin .mod (.ix (.var 1) (.int 2)) (.int 21))) (.cons (.int 300007) .nil)))) (.cons (.slice0 (.var 4) (.int 4)) .nil))))  .nil)) .nil) [some (.d (.lst ND)), some (.d (.lst SH)), some (.d (.int c)), some (.d (.int n)), some (.d (.str pool)), some (.d (.lst LD)), some (.d (machD M)), some (.d (.str nm0)), some (.d (.int mo)), some (.d (.tup (t0.map plD))), none, none, none, none, none, none, none, none, none] [] = .nx [some (.d (.lst ND)), some (.d (.lst SH)), some (.d (.int c)), some (.d (.int n)), some (.d (.str pool)), some (.d (.lst LD)), some (.d (machD M)), some (.d (.str nm)), some (.d (.int mo)), some (.d (.tup (t.map plD))), none, none, none, none, none, none, none, none, none] [] := by
    by_cases q : w7 % 8 = 3
    · have q2 := Int.emod_nonneg w4 (by omega : (2 : Int) ≠ 0)
      have ct := cut_to nm0 (j := 1 + w4 % 2) (by omega)
      refine ⟨nm0.take (1 + w4 % 2).toNat, t1, row_sub ((List.take_sublist _ nm0).trans nmr.sub), by rw [List.length_take]; omega, okr, ?_⟩
      generalize nm0.take (1 + w4 % 2).toNat = nm1 at *
      simp [x7, q, x4, nm0l, ct, h3, has_cell.has, x2, hd4, has_draws.has, pll, ct4, rw4, has_row.has]
    · refine ⟨nm0, t0, nmr, nml, okt, ?_⟩
      simp [x7, q]
  obtain ⟨nm, t, nmR, nmL, okT, st10⟩ := st10
  rw [seqE st10]
  clear st10 okt okr nmr nml tr rw4
  have nmll : nm.length ≤ line := by show _ ≤ 16777216; omega
  obtain ⟨T, rfl⟩ := tree_tt okT.tr
  have F : FC M c n nm (fl T) := (okT.le (r := 200) (by omega)).fc W (by omega) n1 (by omega) nmL
  have tl := okT.tl
  have lc := lc_plc (i := 11) (j := 12) (test := fun e s => evC (cxΔ Δ fuel 119) y_law_1 e s) (elt := fun e s => evE (cxΔ Δ fuel 119) x_law_1 e s) (env := [some (.d (.lst ND)), some (.d (.lst SH)), some (.d (.int c)), some (.d (.int n)), some (.d (.str pool)), some (.d (.lst LD)), some (.d (machD M)), some (.d (.str nm)), some (.d (.int mo)), some (.d (.tup ((fl T).map plD))), none, none, none, none, none, none, none, none, none]) (s := [])
    (fun x => .int (val nm (fun c => decide (c ∈ x.2)) : Nat)) (fl T) (by show _ ≤ 16777216; omega) (fun e => by unfold y_law_1; simp) (fun x hx => by
      have s1 := sp_lletter (m := fuel) (d := 118) has_lletter nm x.2 []
      generalize x.2 = z at *
      generalize val nm (fun c => decide (c ∈ z)) = V at *
      unfold x_law_1
      simp [has_lletter.has, s1])
  rw [own_wsD] at lc
  have wl : (ownW nm (fl T)).length = (fl T).length := List.length_map _
  have wW : ∀ x ∈ ownW nm (fl T), x < wN nm := fun x hx => by
    obtain ⟨y, _, rfl⟩ := List.mem_map.mp hx
    exact val_lt _ _
  generalize ownW nm (fl T) = ws0 at *
  generalize hTD : (fl T).map plD = TD at *
  have TDl : TD.length = (fl T).length := by rw [← hTD, List.length_map]
  have we : wipeE [some (.d (.lst ND)), some (.d (.lst SH)), some (.d (.int c)), some (.d (.int n)), some (.d (.str pool)), some (.d (.lst LD)), some (.d (machD M)), some (.d (.str nm)), some (.d (.int mo)), some (.d (.tup TD)), none, none, none, none, none, none, none, none, none] (slotsT (.tup (.cons (.name 11) (.cons (.name 12) .nil)))) = [some (.d (.lst ND)), some (.d (.lst SH)), some (.d (.int c)), some (.d (.int n)), some (.d (.str pool)), some (.d (.lst LD)), some (.d (machD M)), some (.d (.str nm)), some (.d (.int mo)), some (.d (.tup TD)), none, none, none, none, none, none, none, none, none] := rfl
  rw [seqE (e1 := [some (.d (.lst ND)), some (.d (.lst SH)), some (.d (.int c)), some (.d (.int n)), some (.d (.str pool)), some (.d (.lst LD)), some (.d (machD M)), some (.d (.str nm)), some (.d (.int mo)), some (.d (.tup TD)), some (.d (.lst (wsD ws0))), none, none, none, none, none, none, none, none]) (s1 := []) (by simp [lc, we])]
  have shw := shl_small nm nmL []
  obtain ⟨w16, w1'⟩ := wN_le nmL
  have st12 : ∃ (ws : List Nat) (v13 : Option Val), ws.length = (fl T).length ∧ (∀ w ∈ ws, w < wN nm) ∧ evS (cxΔ Δ fuel 119) (.ife (.cmp .eq (.bin .mod (.ix (.var 1) (.int 5)) (.int 4)) (.int 1)) (.cons (.set 13 (.bin .mod (.ix (.var 1) (.int 6)) (.bin .add (.blt .len (.cons (.var 9) .nil)) (.int 1))))  (.cons (.set 10 (.frz (.bin .add (.slice0 (.var 10) (.var 13)) (.bin .mul (.list (.cons (.bin .sub (.bin .shl (.int 1) (.blt .len (.cons (.var 7) .nil))) (.int 1)) .nil)) (.bin .sub (.blt .len (.cons (.var 9) .nil)) (.var 13))))))  .nil)) .nil) [some (.d (.lst ND)), some (.d (.lst SH)), some (.d (.int c)), some (.d (.int n)), some (.d (.str pool)), some (.d (.lst LD)), some (.d (machD M)), some (.d (.str nm)), some (.d (.int mo)), some (.d (.tup TD)), some (.d (.lst (wsD ws0))), none, none, none, none, none, none, none, none] [] = .nx [some (.d (.lst ND)), some (.d (.lst SH)), some (.d (.int c)), some (.d (.int n)), some (.d (.str pool)), some (.d (.lst LD)), some (.d (machD M)), some (.d (.str nm)), some (.d (.int mo)), some (.d (.tup TD)), some (.d (.lst (wsD ws))), none, none, v13, none, none, none, none, none] [] := by
    by_cases q : w5 % 4 = 1
    · have q0 := Int.emod_nonneg w6 (by omega : (((fl T).length : Int) + 1) ≠ 0)
      have q1 := Int.emod_lt_of_pos w6 (by omega : 0 < (((fl T).length : Int) + 1))
      have q2 : 0 < (((fl T).length : Int) + 1) := by omega
      obtain ⟨cu, ecu⟩ : ∃ cu : Nat, w6 % (((fl T).length : Int) + 1) = (cu : Int) := ⟨(w6 % (((fl T).length : Int) + 1)).toNat, by omega⟩
      have cul : cu ≤ (fl T).length := by omega
      have ct := cut_to (wsD ws0) (j := (cu : Int)) (by omega)
      rw [Int.toNat_natCast] at ct
      have ewn : ((wN nm : Nat) : Int) - 1 = ((wN nm - 1 : Nat) : Int) := by omega
      have el : ((fl T).length : Int) - (cu : Int) = (((fl T).length - cu : Nat) : Int) := by omega
      have rp : ∀ s, binV .mul (.new [.int ((wN nm - 1 : Nat) : Int)]) (.d (.int (((fl T).length - cu : Nat) : Int))) s = .ok (.new (wsD (List.replicate ((fl T).length - cu) (wN nm - 1)))) s := mul_rep _ _ (by omega)
      have etk : (wsD ws0).take cu ++ wsD (List.replicate ((fl T).length - cu) (wN nm - 1)) = wsD (ws0.take cu ++ List.replicate ((fl T).length - cu) (wN nm - 1)) := by
        unfold wsD
        rw [List.map_append, List.map_take]
      refine ⟨ws0.take cu ++ List.replicate ((fl T).length - cu) (wN nm - 1), some (.d (.int (cu : Int))), by rw [List.length_append, List.length_take, List.length_replicate]; omega, fun w hw => ?_, ?_⟩
      · rcases List.mem_append.mp hw with hw | hw
        · exact wW w (List.mem_of_mem_take hw)
        · rw [List.eq_of_mem_replicate hw]
          omega
      · rw [← etk]
        have ll : ((wsD ws0).take cu).length + (wsD (List.replicate ((fl T).length - cu) (wN nm - 1))).length ≤ line := by
          rw [List.length_take, wsD_len, wsD_len, List.length_replicate]
          show _ ≤ 16777216
          omega
        have l1 : (1 : Nat) ≤ line := by decide
        generalize wsD (List.replicate ((fl T).length - cu) (wN nm - 1)) = RP at *
        generalize (wsD ws0).take cu = TK at *
        generalize wsD ws0 = W0 at *
        have md6 : ∀ s, binV .mod (.d (.int w6)) (.d (.int (((fl T).length : Int) + 1))) s = .ok (.d (.int (cu : Int))) s := fun s => by rw [bin_mod _ _ _ q2, ecu]
        generalize ((wN nm - 1 : Nat) : Int) = z1 at *
        generalize ((wN nm : Nat) : Int) = z3 at *
        generalize (((fl T).length - cu : Nat) : Int) = z2 at *
        simp [-bin_rep, x5, q, x6, TDl, md6, ct, nmll, shw, ewn, el, rp, ll, l1]
    · refine ⟨ws0, none, wl, wW, ?_⟩
      simp [x5, q]
  obtain ⟨ws, v13, wl2, wW2, st12⟩ := st12
  rw [seqE st12]
  clear st12 lc
  obtain ⟨t', a, mm, b, P0, tl', R0, L0, F0, ge, nn, ns', zz⟩ := core61 (T := T) F nmR.nd okT.zl (by omega) ws wl2 wW2
  rw [hTD] at P0
  have P0 := P0 []
  have lat := sp_llater (m := fuel) (d := 118) has_later ws (wN nm) (by omega) (by decide) []
  obtain ⟨t3, P3, R3, F3⟩ := zz
  have sI := fun (k : Int) => sp_same (m := fuel) (d := 118) has_same 1 (.int k) [] trivial
  have TDl' : (t'.map plD).length = t'.length := List.length_map _
  have rp0 : binV .mul (.new [.int 0]) (.d (.int (t'.length : Int))) [] = .ok (.new (wsD (List.replicate ws.length 0))) [] := by
    rw [← tl']
    exact mul_rep 0 t'.length (by omega) []
  have l1 : (1 : Nat) ≤ line := by decide
  generalize wsD (List.replicate ws.length 0) = Z0 at *
  generalize t'.map plD = TP at *
  generalize t3.map plD = T3 at *
  generalize ((wN nm : Nat) : Int) = wz at *
  generalize hdv : a + (if b = true then 1 else 0) = dv at *
  rw [seqE (e1 := [some (.d (.lst ND)), some (.d (.lst SH)), some (.d (.int c)), some (.d (.int n)), some (.d (.str pool)), some (.d (.lst LD)), some (.d (machD M)), some (.d (.str nm)), some (.d (.int mo)), some (.d (.tup TP)), some (.d (.lst (wsD ws))), none, none, v13, none, none, none, none, none]) (s1 := []) (by simp [P0, has_put.has])]
  rw [seqE (e1 := [some (.d (.lst ND)), some (.d (.lst SH)), some (.d (.int c)), some (.d (.int n)), some (.d (.str pool)), some (.d (.lst LD)), some (.d (machD M)), some (.d (.str nm)), some (.d (.int mo)), some (.d (.tup TP)), some (.d (.lst (wsD ws))), none, none, v13, some (.d (.int a)), none, none, none, none]) (s1 := []) (by simp [R0, has_rank.has])]
  rw [seqE (e1 := [some (.d (.lst ND)), some (.d (.lst SH)), some (.d (.int c)), some (.d (.int n)), some (.d (.str pool)), some (.d (.lst LD)), some (.d (machD M)), some (.d (.str nm)), some (.d (.int mo)), some (.d (.tup TP)), some (.d (.lst (wsD ws))), none, none, v13, some (.d (.int a)), none, none, none, none]) (s1 := []) (by rw [ifF (s1 := []) (by simp)]; simp)]
  cases hla : laterR (wN nm) ws.reverse with
  | none =>
    rw [hla] at lat
    have em := nn hla
    subst em
    rw [seqE (e1 := [some (.d (.lst ND)), some (.d (.lst SH)), some (.d (.int c)), some (.d (.int n)), some (.d (.str pool)), some (.d (.lst LD)), some (.d (machD M)), some (.d (.str nm)), some (.d (.int mo)), some (.d (.tup TP)), some (.d (.lst (wsD ws))), none, none, v13, some (.d (.int a)), some (.d .non), none, none, none]) (s1 := []) (by simp [nmll, shw, lat, has_later.has, laterV])]
    rw [seqE (e1 := [some (.d (.lst ND)), some (.d (.lst SH)), some (.d (.int c)), some (.d (.int n)), some (.d (.str pool)), some (.d (.lst LD)), some (.d (machD M)), some (.d (.str nm)), some (.d (.int mo)), some (.d (.tup TP)), some (.d (.lst (wsD ws))), none, none, v13, some (.d (.int a)), some (.d .non), some (.d (.int mm)), none, none]) (s1 := []) (by simp [L0, has_lets.has, hdv])]
    have sI := sI mm
    simp [F0, has_fil.fils.has, sI, has_same.has]
  | some r =>
    rw [hla] at lat
    obtain ⟨t2, P2, R2⟩ := ns' r hla
    generalize t2.map plD = T2 at *
    generalize hWR : wsD r.reverse = WR at *
    rw [seqE (e1 := [some (.d (.lst ND)), some (.d (.lst SH)), some (.d (.int c)), some (.d (.int n)), some (.d (.str pool)), some (.d (.lst LD)), some (.d (machD M)), some (.d (.str nm)), some (.d (.int mo)), some (.d (.tup TP)), some (.d (.lst (wsD ws))), none, none, v13, some (.d (.int a)), some (.d (.lst WR)), none, none, none]) (s1 := []) (by simp [nmll, shw, lat, has_later.has, laterV, hWR])]
    rw [seqE (e1 := [some (.d (.lst ND)), some (.d (.lst SH)), some (.d (.int c)), some (.d (.int n)), some (.d (.str pool)), some (.d (.lst LD)), some (.d (machD M)), some (.d (.str nm)), some (.d (.int mo)), some (.d (.tup TP)), some (.d (.lst (wsD ws))), none, none, v13, some (.d (.int a)), some (.d (.lst WR)), some (.d (.int dv)), none, none]) (s1 := []) (by simp [L0, has_lets.has, hdv])]
    rw [seqE (e1 := [some (.d (.lst ND)), some (.d (.lst SH)), some (.d (.int c)), some (.d (.int n)), some (.d (.str pool)), some (.d (.lst LD)), some (.d (machD M)), some (.d (.str nm)), some (.d (.int mo)), some (.d (.tup TP)), some (.d (.lst (wsD ws))), none, none, v13, some (.d (.int a)), some (.d (.lst WR)), some (.d (.int dv)), none, none]) (s1 := []) (by rw [ifF (s1 := []) (by simp)]; simp)]
    have sD := sI dv
    rw [seqE (e1 := [some (.d (.lst ND)), some (.d (.lst SH)), some (.d (.int c)), some (.d (.int n)), some (.d (.str pool)), some (.d (.lst LD)), some (.d (machD M)), some (.d (.str nm)), some (.d (.int mo)), some (.d (.tup TP)), some (.d (.lst (wsD ws))), none, none, v13, some (.d (.int a)), some (.d (.lst WR)), some (.d (.int dv)), none, none]) (s1 := []) (by rw [ifF (s1 := []) (by simp [P2, has_put.has, R2, has_rank.has, sD, has_same.has])]; simp)]
    rw [seqE (e1 := [some (.d (.lst ND)), some (.d (.lst SH)), some (.d (.int c)), some (.d (.int n)), some (.d (.str pool)), some (.d (.lst LD)), some (.d (machD M)), some (.d (.str nm)), some (.d (.int mo)), some (.d (.tup TP)), some (.d (.lst (wsD ws))), none, none, v13, some (.d (.int a)), some (.d (.lst WR)), some (.d (.int dv)), some (.d (.tup T3)), none]) (s1 := []) (by simp [-bin_rep, TDl', l1, rp0, P3, has_put.has])]
    have s0 := sI 0
    rw [seqE (e1 := [some (.d (.lst ND)), some (.d (.lst SH)), some (.d (.int c)), some (.d (.int n)), some (.d (.str pool)), some (.d (.lst LD)), some (.d (machD M)), some (.d (.str nm)), some (.d (.int mo)), some (.d (.tup TP)), some (.d (.lst (wsD ws))), none, none, v13, some (.d (.int a)), some (.d (.lst WR)), some (.d (.int dv)), some (.d (.tup T3)), none]) (s1 := []) (by rw [ifF (s1 := []) (by simp [R3, has_rank.has, s0, has_same.has])]; simp)]
    rw [seqE (e1 := [some (.d (.lst ND)), some (.d (.lst SH)), some (.d (.int c)), some (.d (.int n)), some (.d (.str pool)), some (.d (.lst LD)), some (.d (machD M)), some (.d (.str nm)), some (.d (.int mo)), some (.d (.tup TP)), some (.d (.lst (wsD ws))), none, none, v13, some (.d (.int a)), some (.d (.lst WR)), some (.d (.int dv)), some (.d (.tup T3)), some (.d (.int mm))]) (s1 := []) (by simp [F3, has_fil.fils.has])]
    have gg : ¬ mm < dv := by omega
    rw [seqE (e1 := [some (.d (.lst ND)), some (.d (.lst SH)), some (.d (.int c)), some (.d (.int n)), some (.d (.str pool)), some (.d (.lst LD)), some (.d (machD M)), some (.d (.str nm)), some (.d (.int mo)), some (.d (.tup TP)), some (.d (.lst (wsD ws))), none, none, v13, some (.d (.int a)), some (.d (.lst WR)), some (.d (.int dv)), some (.d (.tup T3)), some (.d (.int mm))]) (s1 := []) (by rw [ifF (s1 := []) (by simp [gg])]; simp)]
    have sM := sI mm
    simp [F0, has_fil.fils.has, sM, has_same.has]
end Pv.L

namespace Pv.L
open PySem PySem.Spec PyProof.Rows L2
def top (i : Nat) : Stmt := PySem.Challenge.pw_trunksay_k61_next_filling.main.body.getD i (.Pass ⟨0, 0, 0, 0⟩)
theorem k_letter_of : chkFn f_letter_of (top 4) = true := by decide +kernel
theorem k_marks_of : chkFn f_marks_of (top 5) = true := by decide +kernel
theorem k_links_of : chkFn f_links_of (top 7) = true := by decide +kernel
theorem k_refuse_names : chkFn f_refuse_names (top 10) = true := by decide +kernel
theorem k_bare_marks : chkFn f_bare_marks (top 11) = true := by decide +kernel
theorem k_place_choices : chkFn f_place_choices (top 12) = true := by decide +kernel
theorem k_branch_ways : chkFn f_branch_ways (top 13) = true := by decide +kernel
theorem k_part_ways : chkFn f_part_ways (top 14) = true := by decide +kernel
theorem k_filling_form : chkFn f_filling_form (top 15) = true := by decide +kernel
theorem k_top_of : chkFn f_top_of (top 16) = true := by decide +kernel
theorem k_taken_by_places : chkFn f_taken_by_places (top 17) = true := by decide +kernel
theorem k_taken_by_left : chkFn f_taken_by_left (top 18) = true := by decide +kernel
theorem k_ways_ahead : chkFn f_ways_ahead (top 19) = true := by decide +kernel
theorem k_taken_by_good : chkFn f_taken_by_good (top 20) = true := by decide +kernel
theorem k_let_by_many : chkFn f_let_by_many (top 21) = true := by decide +kernel
theorem k_fillings : chkFn f_fillings (top 22) = true := by decide +kernel
theorem k_filling_rank : chkFn f_filling_rank (top 23) = true := by decide +kernel
theorem k__law_cell : chkFn f__law_cell (top 25) = true := by decide +kernel
theorem k__law_mixed : chkFn f__law_mixed (top 26) = true := by decide +kernel
theorem k__law_draws : chkFn f__law_draws (top 27) = true := by decide +kernel
theorem k__law_same : chkFn f__law_same (top 28) = true := by decide +kernel
theorem k__law_pool : chkFn f__law_pool (top 29) = true := by decide +kernel
theorem k__law_marks : chkFn f__law_marks (top 30) = true := by decide +kernel
theorem k__law_tree : chkFn f__law_tree (top 31) = true := by decide +kernel
theorem k__law_machine : chkFn f__law_machine (top 32) = true := by decide +kernel
theorem k__law_letter : chkFn f__law_letter (top 33) = true := by decide +kernel
theorem k__law_run : chkFn f__law_run (top 34) = true := by decide +kernel
theorem k__law_lets : chkFn f__law_lets (top 35) = true := by decide +kernel
theorem k__law_put : chkFn f__law_put (top 36) = true := by decide +kernel
theorem k__law_row_of : chkFn f__law_row_of (top 37) = true := by decide +kernel
theorem k__law_later : chkFn f__law_later (top 38) = true := by decide +kernel
theorem k_law : chkFn f_law (top 39) = true := by decide +kernel
theorem all_mk {l : PySem.W.OpenLaw} {w : World} {K : Frag} {h : Heap} {mg : Str → Option Value} {fa f0 f1 f2 f3 f4 f5 f6 f7 f8 f9 f10 f11 f12 f13 f14 f15 f16 f17 f18 f19 f20 f21 f22 f23 f24 f25 f26 f27 f28 f29 f30 f31 C0 : Addr} (X : K.In h) (G : h.Ns mainGlobals mg) (hfa : mg "law" = some (.ref fa))
  {od0 an0 : Option Addr} {sl0 : Array (Option Value)} {oc0 kV0 dc0 pm0 cd0 ct0 : Value} (a0 : PySem.W.nsIn K mainGlobals "letter_of" = some (some (.ref f0))) (l0 : K.lookup f0 = some ⟨oc0, od0, .func (PySem.W.fnOf "letter_of" "letter_of" (defArgs (top 4)) (defBody (top 4)) (defScope (top 4)) .none kV0 dc0 pm0 an0 cd0 ct0), sl0⟩) (c0 : PySem.W.codeIn K cd0 "letter_of" = true) (k0 : PySem.W.keepIn K (.ref f0) = true)
  {od1 an1 : Option Addr} {sl1 : Array (Option Value)} {oc1 kV1 dc1 pm1 cd1 ct1 : Value} (a1 : PySem.W.nsIn K mainGlobals "marks_of" = some (some (.ref f1))) (l1 : K.lookup f1 = some ⟨oc1, od1, .func (PySem.W.fnOf "marks_of" "marks_of" (defArgs (top 5)) (defBody (top 5)) (defScope (top 5)) .none kV1 dc1 pm1 an1 cd1 ct1), sl1⟩) (c1 : PySem.W.codeIn K cd1 "marks_of" = true) (k1 : PySem.W.keepIn K (.ref f1) = true)
  {od2 an2 : Option Addr} {sl2 : Array (Option Value)} {oc2 kV2 dc2 pm2 cd2 ct2 : Value} (a2 : PySem.W.nsIn K mainGlobals "links_of" = some (some (.ref f2))) (l2 : K.lookup f2 = some ⟨oc2, od2, .func (PySem.W.fnOf "links_of" "links_of" (defArgs (top 7)) (defBody (top 7)) (defScope (top 7)) .none kV2 dc2 pm2 an2 cd2 ct2), sl2⟩) (c2 : PySem.W.codeIn K cd2 "links_of" = true) (k2 : PySem.W.keepIn K (.ref f2) = true)
  {od3 an3 : Option Addr} {sl3 : Array (Option Value)} {oc3 kV3 dc3 pm3 cd3 ct3 : Value} (a3 : PySem.W.nsIn K mainGlobals "refuse_names" = some (some (.ref f3))) (l3 : K.lookup f3 = some ⟨oc3, od3, .func (PySem.W.fnOf "refuse_names" "refuse_names" (defArgs (top 10)) (defBody (top 10)) (defScope (top 10)) .none kV3 dc3 pm3 an3 cd3 ct3), sl3⟩) (c3 : PySem.W.codeIn K cd3 "refuse_names" = true) (k3 : PySem.W.keepIn K (.ref f3) = true)
  {od4 an4 : Option Addr} {sl4 : Array (Option Value)} {oc4 kV4 dc4 pm4 cd4 ct4 : Value} (a4 : PySem.W.nsIn K mainGlobals "bare_marks" = some (some (.ref f4))) (l4 : K.lookup f4 = some ⟨oc4, od4, .func (PySem.W.fnOf "bare_marks" "bare_marks" (defArgs (top 11)) (defBody (top 11)) (defScope (top 11)) .none kV4 dc4 pm4 an4 cd4 ct4), sl4⟩) (c4 : PySem.W.codeIn K cd4 "bare_marks" = true) (k4 : PySem.W.keepIn K (.ref f4) = true)
  {od5 an5 : Option Addr} {sl5 : Array (Option Value)} {oc5 kV5 dc5 pm5 cd5 ct5 : Value} (a5 : PySem.W.nsIn K mainGlobals "place_choices" = some (some (.ref f5))) (l5 : K.lookup f5 = some ⟨oc5, od5, .func (PySem.W.fnOf "place_choices" "place_choices" (defArgs (top 12)) (defBody (top 12)) (defScope (top 12)) .none kV5 dc5 pm5 an5 cd5 ct5), sl5⟩) (c5 : PySem.W.codeIn K cd5 "place_choices" = true) (k5 : PySem.W.keepIn K (.ref f5) = true)
  {od6 an6 : Option Addr} {sl6 : Array (Option Value)} {oc6 kV6 dc6 pm6 cd6 ct6 : Value} (a6 : PySem.W.nsIn K mainGlobals "branch_ways" = some (some (.ref f6))) (l6 : K.lookup f6 = some ⟨oc6, od6, .func (PySem.W.fnOf "branch_ways" "branch_ways" (defArgs (top 13)) (defBody (top 13)) (defScope (top 13)) .none kV6 dc6 pm6 an6 cd6 ct6), sl6⟩) (c6 : PySem.W.codeIn K cd6 "branch_ways" = true) (k6 : PySem.W.keepIn K (.ref f6) = true)
  {od7 an7 : Option Addr} {sl7 : Array (Option Value)} {oc7 kV7 dc7 pm7 cd7 ct7 : Value} (a7 : PySem.W.nsIn K mainGlobals "part_ways" = some (some (.ref f7))) (l7 : K.lookup f7 = some ⟨oc7, od7, .func (PySem.W.fnOf "part_ways" "part_ways" (defArgs (top 14)) (defBody (top 14)) (defScope (top 14)) .none kV7 dc7 pm7 an7 cd7 ct7), sl7⟩) (c7 : PySem.W.codeIn K cd7 "part_ways" = true) (k7 : PySem.W.keepIn K (.ref f7) = true)
  {od8 an8 : Option Addr} {sl8 : Array (Option Value)} {oc8 kV8 dc8 pm8 cd8 ct8 : Value} (a8 : PySem.W.nsIn K mainGlobals "filling_form" = some (some (.ref f8))) (l8 : K.lookup f8 = some ⟨oc8, od8, .func (PySem.W.fnOf "filling_form" "filling_form" (defArgs (top 15)) (defBody (top 15)) (defScope (top 15)) .none kV8 dc8 pm8 an8 cd8 ct8), sl8⟩) (c8 : PySem.W.codeIn K cd8 "filling_form" = true) (k8 : PySem.W.keepIn K (.ref f8) = true)
  {od9 an9 : Option Addr} {sl9 : Array (Option Value)} {oc9 kV9 dc9 pm9 cd9 ct9 : Value} (a9 : PySem.W.nsIn K mainGlobals "top_of" = some (some (.ref f9))) (l9 : K.lookup f9 = some ⟨oc9, od9, .func (PySem.W.fnOf "top_of" "top_of" (defArgs (top 16)) (defBody (top 16)) (defScope (top 16)) .none kV9 dc9 pm9 an9 cd9 ct9), sl9⟩) (c9 : PySem.W.codeIn K cd9 "top_of" = true) (k9 : PySem.W.keepIn K (.ref f9) = true)
  {od10 an10 : Option Addr} {sl10 : Array (Option Value)} {oc10 kV10 dc10 pm10 cd10 ct10 : Value} (a10 : PySem.W.nsIn K mainGlobals "taken_by_places" = some (some (.ref f10))) (l10 : K.lookup f10 = some ⟨oc10, od10, .func (PySem.W.fnOf "taken_by_places" "taken_by_places" (defArgs (top 17)) (defBody (top 17)) (defScope (top 17)) .none kV10 dc10 pm10 an10 cd10 ct10), sl10⟩) (c10 : PySem.W.codeIn K cd10 "taken_by_places" = true) (k10 : PySem.W.keepIn K (.ref f10) = true)
  {od11 an11 : Option Addr} {sl11 : Array (Option Value)} {oc11 kV11 dc11 pm11 cd11 ct11 : Value} (a11 : PySem.W.nsIn K mainGlobals "taken_by_left" = some (some (.ref f11))) (l11 : K.lookup f11 = some ⟨oc11, od11, .func (PySem.W.fnOf "taken_by_left" "taken_by_left" (defArgs (top 18)) (defBody (top 18)) (defScope (top 18)) .none kV11 dc11 pm11 an11 cd11 ct11), sl11⟩) (c11 : PySem.W.codeIn K cd11 "taken_by_left" = true) (k11 : PySem.W.keepIn K (.ref f11) = true)
  {od12 an12 : Option Addr} {sl12 : Array (Option Value)} {oc12 kV12 dc12 pm12 cd12 ct12 : Value} (a12 : PySem.W.nsIn K mainGlobals "ways_ahead" = some (some (.ref f12))) (l12 : K.lookup f12 = some ⟨oc12, od12, .func (PySem.W.fnOf "ways_ahead" "ways_ahead" (defArgs (top 19)) (defBody (top 19)) (defScope (top 19)) .none kV12 dc12 pm12 an12 cd12 ct12), sl12⟩) (c12 : PySem.W.codeIn K cd12 "ways_ahead" = true) (k12 : PySem.W.keepIn K (.ref f12) = true)
  {od13 an13 : Option Addr} {sl13 : Array (Option Value)} {oc13 kV13 dc13 pm13 cd13 ct13 : Value} (a13 : PySem.W.nsIn K mainGlobals "taken_by_good" = some (some (.ref f13))) (l13 : K.lookup f13 = some ⟨oc13, od13, .func (PySem.W.fnOf "taken_by_good" "taken_by_good" (defArgs (top 20)) (defBody (top 20)) (defScope (top 20)) .none kV13 dc13 pm13 an13 cd13 ct13), sl13⟩) (c13 : PySem.W.codeIn K cd13 "taken_by_good" = true) (k13 : PySem.W.keepIn K (.ref f13) = true)
  {od14 an14 : Option Addr} {sl14 : Array (Option Value)} {oc14 kV14 dc14 pm14 cd14 ct14 : Value} (a14 : PySem.W.nsIn K mainGlobals "let_by_many" = some (some (.ref f14))) (l14 : K.lookup f14 = some ⟨oc14, od14, .func (PySem.W.fnOf "let_by_many" "let_by_many" (defArgs (top 21)) (defBody (top 21)) (defScope (top 21)) .none kV14 dc14 pm14 an14 cd14 ct14), sl14⟩) (c14 : PySem.W.codeIn K cd14 "let_by_many" = true) (k14 : PySem.W.keepIn K (.ref f14) = true)
  {od15 an15 : Option Addr} {sl15 : Array (Option Value)} {oc15 kV15 dc15 pm15 cd15 ct15 : Value} (a15 : PySem.W.nsIn K mainGlobals "fillings" = some (some (.ref f15))) (l15 : K.lookup f15 = some ⟨oc15, od15, .func (PySem.W.fnOf "fillings" "fillings" (defArgs (top 22)) (defBody (top 22)) (defScope (top 22)) .none kV15 dc15 pm15 an15 cd15 ct15), sl15⟩) (c15 : PySem.W.codeIn K cd15 "fillings" = true) (k15 : PySem.W.keepIn K (.ref f15) = true)
  {od16 an16 : Option Addr} {sl16 : Array (Option Value)} {oc16 kV16 dc16 pm16 cd16 ct16 : Value} (a16 : PySem.W.nsIn K mainGlobals "filling_rank" = some (some (.ref f16))) (l16 : K.lookup f16 = some ⟨oc16, od16, .func (PySem.W.fnOf "filling_rank" "filling_rank" (defArgs (top 23)) (defBody (top 23)) (defScope (top 23)) .none kV16 dc16 pm16 an16 cd16 ct16), sl16⟩) (c16 : PySem.W.codeIn K cd16 "filling_rank" = true) (k16 : PySem.W.keepIn K (.ref f16) = true)
  {od17 an17 : Option Addr} {sl17 : Array (Option Value)} {oc17 kV17 dc17 pm17 cd17 ct17 : Value} (a17 : PySem.W.nsIn K mainGlobals "_law_cell" = some (some (.ref f17))) (l17 : K.lookup f17 = some ⟨oc17, od17, .func (PySem.W.fnOf "_law_cell" "_law_cell" (defArgs (top 25)) (defBody (top 25)) (defScope (top 25)) .none kV17 dc17 pm17 an17 cd17 ct17), sl17⟩) (c17 : PySem.W.codeIn K cd17 "_law_cell" = true) (k17 : PySem.W.keepIn K (.ref f17) = true)
  {od18 an18 : Option Addr} {sl18 : Array (Option Value)} {oc18 kV18 dc18 pm18 cd18 ct18 : Value} (a18 : PySem.W.nsIn K mainGlobals "_law_mixed" = some (some (.ref f18))) (l18 : K.lookup f18 = some ⟨oc18, od18, .func (PySem.W.fnOf "_law_mixed" "_law_mixed" (defArgs (top 26)) (defBody (top 26)) (defScope (top 26)) .none kV18 dc18 pm18 an18 cd18 ct18), sl18⟩) (c18 : PySem.W.codeIn K cd18 "_law_mixed" = true) (k18 : PySem.W.keepIn K (.ref f18) = true)
  {od19 an19 : Option Addr} {sl19 : Array (Option Value)} {oc19 kV19 dc19 pm19 cd19 ct19 : Value} (a19 : PySem.W.nsIn K mainGlobals "_law_draws" = some (some (.ref f19))) (l19 : K.lookup f19 = some ⟨oc19, od19, .func (PySem.W.fnOf "_law_draws" "_law_draws" (defArgs (top 27)) (defBody (top 27)) (defScope (top 27)) .none kV19 dc19 pm19 an19 cd19 ct19), sl19⟩) (c19 : PySem.W.codeIn K cd19 "_law_draws" = true) (k19 : PySem.W.keepIn K (.ref f19) = true)
  {od20 an20 : Option Addr} {sl20 : Array (Option Value)} {oc20 kV20 dc20 pm20 cd20 ct20 : Value} (a20 : PySem.W.nsIn K mainGlobals "_law_same" = some (some (.ref f20))) (l20 : K.lookup f20 = some ⟨oc20, od20, .func (PySem.W.fnOf "_law_same" "_law_same" (defArgs (top 28)) (defBody (top 28)) (defScope (top 28)) .none kV20 dc20 pm20 an20 cd20 ct20), sl20⟩) (c20 : PySem.W.codeIn K cd20 "_law_same" = true) (k20 : PySem.W.keepIn K (.ref f20) = true)
  {od21 an21 : Option Addr} {sl21 : Array (Option Value)} {oc21 kV21 dc21 pm21 cd21 ct21 : Value} (a21 : PySem.W.nsIn K mainGlobals "_law_pool" = some (some (.ref f21))) (l21 : K.lookup f21 = some ⟨oc21, od21, .func (PySem.W.fnOf "_law_pool" "_law_pool" (defArgs (top 29)) (defBody (top 29)) (defScope (top 29)) .none kV21 dc21 pm21 an21 cd21 ct21), sl21⟩) (c21 : PySem.W.codeIn K cd21 "_law_pool" = true) (k21 : PySem.W.keepIn K (.ref f21) = true)
  {od22 an22 : Option Addr} {sl22 : Array (Option Value)} {oc22 kV22 dc22 pm22 cd22 ct22 : Value} (a22 : PySem.W.nsIn K mainGlobals "_law_marks" = some (some (.ref f22))) (l22 : K.lookup f22 = some ⟨oc22, od22, .func (PySem.W.fnOf "_law_marks" "_law_marks" (defArgs (top 30)) (defBody (top 30)) (defScope (top 30)) .none kV22 dc22 pm22 an22 cd22 ct22), sl22⟩) (c22 : PySem.W.codeIn K cd22 "_law_marks" = true) (k22 : PySem.W.keepIn K (.ref f22) = true)
  {od23 an23 : Option Addr} {sl23 : Array (Option Value)} {oc23 kV23 dc23 pm23 cd23 ct23 : Value} (a23 : PySem.W.nsIn K mainGlobals "_law_tree" = some (some (.ref f23))) (l23 : K.lookup f23 = some ⟨oc23, od23, .func (PySem.W.fnOf "_law_tree" "_law_tree" (defArgs (top 31)) (defBody (top 31)) (defScope (top 31)) .none kV23 dc23 pm23 an23 cd23 ct23), sl23⟩) (c23 : PySem.W.codeIn K cd23 "_law_tree" = true) (k23 : PySem.W.keepIn K (.ref f23) = true)
  {od24 an24 : Option Addr} {sl24 : Array (Option Value)} {oc24 kV24 dc24 pm24 cd24 ct24 : Value} (a24 : PySem.W.nsIn K mainGlobals "_law_machine" = some (some (.ref f24))) (l24 : K.lookup f24 = some ⟨oc24, od24, .func (PySem.W.fnOf "_law_machine" "_law_machine" (defArgs (top 32)) (defBody (top 32)) (defScope (top 32)) .none kV24 dc24 pm24 an24 cd24 ct24), sl24⟩) (c24 : PySem.W.codeIn K cd24 "_law_machine" = true) (k24 : PySem.W.keepIn K (.ref f24) = true)
  {od25 an25 : Option Addr} {sl25 : Array (Option Value)} {oc25 kV25 dc25 pm25 cd25 ct25 : Value} (a25 : PySem.W.nsIn K mainGlobals "_law_letter" = some (some (.ref f25))) (l25 : K.lookup f25 = some ⟨oc25, od25, .func (PySem.W.fnOf "_law_letter" "_law_letter" (defArgs (top 33)) (defBody (top 33)) (defScope (top 33)) .none kV25 dc25 pm25 an25 cd25 ct25), sl25⟩) (c25 : PySem.W.codeIn K cd25 "_law_letter" = true) (k25 : PySem.W.keepIn K (.ref f25) = true)
  {od26 an26 : Option Addr} {sl26 : Array (Option Value)} {oc26 kV26 dc26 pm26 cd26 ct26 : Value} (a26 : PySem.W.nsIn K mainGlobals "_law_run" = some (some (.ref f26))) (l26 : K.lookup f26 = some ⟨oc26, od26, .func (PySem.W.fnOf "_law_run" "_law_run" (defArgs (top 34)) (defBody (top 34)) (defScope (top 34)) .none kV26 dc26 pm26 an26 cd26 ct26), sl26⟩) (c26 : PySem.W.codeIn K cd26 "_law_run" = true) (k26 : PySem.W.keepIn K (.ref f26) = true)
  {od27 an27 : Option Addr} {sl27 : Array (Option Value)} {oc27 kV27 dc27 pm27 cd27 ct27 : Value} (a27 : PySem.W.nsIn K mainGlobals "_law_lets" = some (some (.ref f27))) (l27 : K.lookup f27 = some ⟨oc27, od27, .func (PySem.W.fnOf "_law_lets" "_law_lets" (defArgs (top 35)) (defBody (top 35)) (defScope (top 35)) .none kV27 dc27 pm27 an27 cd27 ct27), sl27⟩) (c27 : PySem.W.codeIn K cd27 "_law_lets" = true) (k27 : PySem.W.keepIn K (.ref f27) = true)
  {od28 an28 : Option Addr} {sl28 : Array (Option Value)} {oc28 kV28 dc28 pm28 cd28 ct28 : Value} (a28 : PySem.W.nsIn K mainGlobals "_law_put" = some (some (.ref f28))) (l28 : K.lookup f28 = some ⟨oc28, od28, .func (PySem.W.fnOf "_law_put" "_law_put" (defArgs (top 36)) (defBody (top 36)) (defScope (top 36)) .none kV28 dc28 pm28 an28 cd28 ct28), sl28⟩) (c28 : PySem.W.codeIn K cd28 "_law_put" = true) (k28 : PySem.W.keepIn K (.ref f28) = true)
  {od29 an29 : Option Addr} {sl29 : Array (Option Value)} {oc29 kV29 dc29 pm29 cd29 ct29 : Value} (a29 : PySem.W.nsIn K mainGlobals "_law_row_of" = some (some (.ref f29))) (l29 : K.lookup f29 = some ⟨oc29, od29, .func (PySem.W.fnOf "_law_row_of" "_law_row_of" (defArgs (top 37)) (defBody (top 37)) (defScope (top 37)) .none kV29 dc29 pm29 an29 cd29 ct29), sl29⟩) (c29 : PySem.W.codeIn K cd29 "_law_row_of" = true) (k29 : PySem.W.keepIn K (.ref f29) = true)
  {od30 an30 : Option Addr} {sl30 : Array (Option Value)} {oc30 kV30 dc30 pm30 cd30 ct30 : Value} (a30 : PySem.W.nsIn K mainGlobals "_law_later" = some (some (.ref f30))) (l30 : K.lookup f30 = some ⟨oc30, od30, .func (PySem.W.fnOf "_law_later" "_law_later" (defArgs (top 38)) (defBody (top 38)) (defScope (top 38)) .none kV30 dc30 pm30 an30 cd30 ct30), sl30⟩) (c30 : PySem.W.codeIn K cd30 "_law_later" = true) (k30 : PySem.W.keepIn K (.ref f30) = true)
  {od31 an31 : Option Addr} {sl31 : Array (Option Value)} {oc31 kV31 dc31 pm31 cd31 ct31 : Value} (a31 : PySem.W.nsIn K mainGlobals "law" = some (some (.ref f31))) (l31 : K.lookup f31 = some ⟨oc31, od31, .func (PySem.W.fnOf "law" "law" (defArgs (top 39)) (defBody (top 39)) (defScope (top 39)) .none kV31 dc31 pm31 an31 cd31 ct31), sl31⟩) (c31 : PySem.W.codeIn K cd31 "law" = true) (k31 : PySem.W.keepIn K (.ref f31) = true)
  {gv0 : Value} (g0 : PySem.W.nsIn K mainGlobals "MOST_NAMES" = some (some gv0))
  (gr0 : RelV (.int 4) gv0)
  (ca0 : PySem.W.nsIn K mainGlobals "TooGreat" = some (some (.ref C0)))
  (cx0 : PySem.W.excIn K C0 [.type "ValueError", .type "Exception", .type "BaseException", .type "object"] "ValueError.__new__" = true) (ck0 : PySem.W.keepIn K (.ref C0) = true) (cs0 : PySem.W.subIn K (.ref C0) (.type "BaseException") = some true) (ct0_ : PySem.W.typeIn K (.ref C0) = some (.type "type"))
  (z0 : PySem.W.nsIn K mainGlobals "len" = some none)
  (z1 : PySem.W.nsIn K mainGlobals "tuple" = some none)
  (z2 : PySem.W.nsIn K mainGlobals "list" = some none)
  (z3 : PySem.W.nsIn K mainGlobals "sorted" = some none)
  (z4 : PySem.W.nsIn K mainGlobals "max" = some none)
  (z5 : PySem.W.nsIn K mainGlobals "min" = some none)
  (z6 : PySem.W.nsIn K mainGlobals "sum" = some none)
  (z7 : PySem.W.nsIn K mainGlobals "abs" = some none)
  (z8 : PySem.W.nsIn K mainGlobals "int" = some none)
  (z9 : PySem.W.nsIn K mainGlobals "ord" = some none)
  (z10 : PySem.W.nsIn K mainGlobals "str" = some none)
  (z11 : PySem.W.nsIn K mainGlobals "any" = some none)
  (z12 : PySem.W.nsIn K mainGlobals "all" = some none)
  (z13 : PySem.W.nsIn K mainGlobals "isinstance" = some none)
  (z14 : PySem.W.nsIn K mainGlobals "bool" = some none)
  (z15 : PySem.W.nsIn K mainGlobals "range" = some none)
  (z16 : PySem.W.nsIn K mainGlobals "enumerate" = some none)
  (z17 : PySem.W.nsIn K mainGlobals "zip" = some none)
  (z18 : PySem.W.nsIn K mainGlobals "set" = some none)
  (z19 : PySem.W.nsIn K mainGlobals "dict" = some none)
  (law : ∀ ns : List Int, ns.length ≤ 63 → Φ Δ fuel depth "law" [.d (.lst (ns.map .int))] [] = .ok (.d (.bl true)) []) :
  ∃ fd : FuncData, (∀ (s : Shared) (v : Value), BindsTo s fd ⟨[v], []⟩ [("_law_script", v)]) ∧ ∀ base : Heap, K.In base → base.Ns mainGlobals mg → FnOk l.prog w K mg base (L2.CX l.prog w) depth fa fd ["_law_script"] (spLaw K) := by
  have e := hfa.symm.trans (PySem.W.mg_of X G a31)
  cases e
  have T : Top Δ K mg := by
    refine ⟨fun f F hf => ?_, fun g d hg => ?_, fun n hn => ?_, fun c hc => ?_, fun c t b hc => ?_, fun c t b hc => ?_, fun f cs hc => ?_⟩
    · change fnT f = some F at hf
      unfold fnT at hf
      split at hf
      · cases hf
        have F0 := fun_mk (st := top 4) l0 c0 k0
        exact ⟨_, _, _, _, PySem.W.mg_of X G a0, F0, k_letter_of, F0.binds (ps := f_letter_of.P) fun _ _ _ _ _ _ us hl => match us, hl with | [_, _], _ => rfl⟩
      · cases hf
        have F1 := fun_mk (st := top 5) l1 c1 k1
        exact ⟨_, _, _, _, PySem.W.mg_of X G a1, F1, k_marks_of, F1.binds (ps := f_marks_of.P) fun _ _ _ _ _ _ us hl => match us, hl with | [_, _], _ => rfl⟩
      · cases hf
        have F2 := fun_mk (st := top 7) l2 c2 k2
        exact ⟨_, _, _, _, PySem.W.mg_of X G a2, F2, k_links_of, F2.binds (ps := f_links_of.P) fun _ _ _ _ _ _ us hl => match us, hl with | [_], _ => rfl⟩
      · cases hf
        have F3 := fun_mk (st := top 10) l3 c3 k3
        exact ⟨_, _, _, _, PySem.W.mg_of X G a3, F3, k_refuse_names, F3.binds (ps := f_refuse_names.P) fun _ _ _ _ _ _ us hl => match us, hl with | [_], _ => rfl⟩
      · cases hf
        have F4 := fun_mk (st := top 11) l4 c4 k4
        exact ⟨_, _, _, _, PySem.W.mg_of X G a4, F4, k_bare_marks, F4.binds (ps := f_bare_marks.P) fun _ _ _ _ _ _ us hl => match us, hl with | [_, _], _ => rfl⟩
      · cases hf
        have F5 := fun_mk (st := top 12) l5 c5 k5
        exact ⟨_, _, _, _, PySem.W.mg_of X G a5, F5, k_place_choices, F5.binds (ps := f_place_choices.P) fun _ _ _ _ _ _ us hl => match us, hl with | [_, _, _], _ => rfl⟩
      · cases hf
        have F6 := fun_mk (st := top 13) l6 c6 k6
        exact ⟨_, _, _, _, PySem.W.mg_of X G a6, F6, k_branch_ways, F6.binds (ps := f_branch_ways.P) fun _ _ _ _ _ _ us hl => match us, hl with | [_, _, _], _ => rfl⟩
      · cases hf
        have F7 := fun_mk (st := top 14) l7 c7 k7
        exact ⟨_, _, _, _, PySem.W.mg_of X G a7, F7, k_part_ways, F7.binds (ps := f_part_ways.P) fun _ _ _ _ _ _ us hl => match us, hl with | [_, _, _], _ => rfl⟩
      · cases hf
        have F8 := fun_mk (st := top 15) l8 c8 k8
        exact ⟨_, _, _, _, PySem.W.mg_of X G a8, F8, k_filling_form, F8.binds (ps := f_filling_form.P) fun _ _ _ _ _ _ us hl => match us, hl with | [_, _, _], _ => rfl⟩
      · cases hf
        have F9 := fun_mk (st := top 16) l9 c9 k9
        exact ⟨_, _, _, _, PySem.W.mg_of X G a9, F9, k_top_of, F9.binds (ps := f_top_of.P) fun _ _ _ _ _ _ us hl => match us, hl with | [_], _ => rfl⟩
      · cases hf
        have F10 := fun_mk (st := top 17) l10 c10 k10
        exact ⟨_, _, _, _, PySem.W.mg_of X G a10, F10, k_taken_by_places, F10.binds (ps := f_taken_by_places.P) fun _ _ _ _ _ _ us hl => match us, hl with | [_, _, _], _ => rfl⟩
      · cases hf
        have F11 := fun_mk (st := top 18) l11 c11 k11
        exact ⟨_, _, _, _, PySem.W.mg_of X G a11, F11, k_taken_by_left, F11.binds (ps := f_taken_by_left.P) fun _ _ _ _ _ _ us hl => match us, hl with | [_, _, _], _ => rfl⟩
      · cases hf
        have F12 := fun_mk (st := top 19) l12 c12 k12
        exact ⟨_, _, _, _, PySem.W.mg_of X G a12, F12, k_ways_ahead, F12.binds (ps := f_ways_ahead.P) fun _ _ _ _ _ _ us hl => match us, hl with | [_, _, _, _], _ => rfl⟩
      · cases hf
        have F13 := fun_mk (st := top 20) l13 c13 k13
        exact ⟨_, _, _, _, PySem.W.mg_of X G a13, F13, k_taken_by_good, F13.binds (ps := f_taken_by_good.P) fun _ _ _ _ _ _ us hl => match us, hl with | [_], _ => rfl⟩
      · cases hf
        have F14 := fun_mk (st := top 21) l14 c14 k14
        exact ⟨_, _, _, _, PySem.W.mg_of X G a14, F14, k_let_by_many, F14.binds (ps := f_let_by_many.P) fun _ _ _ _ _ _ us hl => match us, hl with | [_], _ => rfl⟩
      · cases hf
        have F15 := fun_mk (st := top 22) l15 c15 k15
        exact ⟨_, _, _, _, PySem.W.mg_of X G a15, F15, k_fillings, F15.binds (ps := f_fillings.P) fun _ _ _ _ _ _ us hl => match us, hl with | [_, _, _], _ => rfl⟩
      · cases hf
        have F16 := fun_mk (st := top 23) l16 c16 k16
        exact ⟨_, _, _, _, PySem.W.mg_of X G a16, F16, k_filling_rank, F16.binds (ps := f_filling_rank.P) fun _ _ _ _ _ _ us hl => match us, hl with | [_, _, _], _ => rfl⟩
      · cases hf
        have F17 := fun_mk (st := top 25) l17 c17 k17
        exact ⟨_, _, _, _, PySem.W.mg_of X G a17, F17, k__law_cell, F17.binds (ps := f__law_cell.P) fun _ _ _ _ _ _ us hl => match us, hl with | [_, _], _ => rfl⟩
      · cases hf
        have F18 := fun_mk (st := top 26) l18 c18 k18
        exact ⟨_, _, _, _, PySem.W.mg_of X G a18, F18, k__law_mixed, F18.binds (ps := f__law_mixed.P) fun _ _ _ _ _ _ us hl => match us, hl with | [_, _, _], _ => rfl⟩
      · cases hf
        have F19 := fun_mk (st := top 27) l19 c19 k19
        exact ⟨_, _, _, _, PySem.W.mg_of X G a19, F19, k__law_draws, F19.binds (ps := f__law_draws.P) fun _ _ _ _ _ _ us hl => match us, hl with | [_, _, _], _ => rfl⟩
      · cases hf
        have F20 := fun_mk (st := top 28) l20 c20 k20
        exact ⟨_, _, _, _, PySem.W.mg_of X G a20, F20, k__law_same, F20.binds (ps := f__law_same.P) fun _ _ _ _ _ _ us hl => match us, hl with | [_, _], _ => rfl⟩
      · cases hf
        have F21 := fun_mk (st := top 29) l21 c21 k21
        exact ⟨_, _, _, _, PySem.W.mg_of X G a21, F21, k__law_pool, F21.binds (ps := f__law_pool.P) fun _ _ _ _ _ _ us hl => match us, hl with | [_, _, _], _ => rfl⟩
      · cases hf
        have F22 := fun_mk (st := top 30) l22 c22 k22
        exact ⟨_, _, _, _, PySem.W.mg_of X G a22, F22, k__law_marks, F22.binds (ps := f__law_marks.P) fun _ _ _ _ _ _ us hl => match us, hl with | [_, _], _ => rfl⟩
      · cases hf
        have F23 := fun_mk (st := top 31) l23 c23 k23
        exact ⟨_, _, _, _, PySem.W.mg_of X G a23, F23, k__law_tree, F23.binds (ps := f__law_tree.P) fun _ _ _ _ _ _ us hl => match us, hl with | [_, _], _ => rfl⟩
      · cases hf
        have F24 := fun_mk (st := top 32) l24 c24 k24
        exact ⟨_, _, _, _, PySem.W.mg_of X G a24, F24, k__law_machine, F24.binds (ps := f__law_machine.P) fun _ _ _ _ _ _ us hl => match us, hl with | [_, _, _, _], _ => rfl⟩
      · cases hf
        have F25 := fun_mk (st := top 33) l25 c25 k25
        exact ⟨_, _, _, _, PySem.W.mg_of X G a25, F25, k__law_letter, F25.binds (ps := f__law_letter.P) fun _ _ _ _ _ _ us hl => match us, hl with | [_, _], _ => rfl⟩
      · cases hf
        have F26 := fun_mk (st := top 34) l26 c26 k26
        exact ⟨_, _, _, _, PySem.W.mg_of X G a26, F26, k__law_run, F26.binds (ps := f__law_run.P) fun _ _ _ _ _ _ us hl => match us, hl with | [_, _], _ => rfl⟩
      · cases hf
        have F27 := fun_mk (st := top 35) l27 c27 k27
        exact ⟨_, _, _, _, PySem.W.mg_of X G a27, F27, k__law_lets, F27.binds (ps := f__law_lets.P) fun _ _ _ _ _ _ us hl => match us, hl with | [_, _], _ => rfl⟩
      · cases hf
        have F28 := fun_mk (st := top 36) l28 c28 k28
        exact ⟨_, _, _, _, PySem.W.mg_of X G a28, F28, k__law_put, F28.binds (ps := f__law_put.P) fun _ _ _ _ _ _ us hl => match us, hl with | [_, _, _], _ => rfl⟩
      · cases hf
        have F29 := fun_mk (st := top 37) l29 c29 k29
        exact ⟨_, _, _, _, PySem.W.mg_of X G a29, F29, k__law_row_of, F29.binds (ps := f__law_row_of.P) fun _ _ _ _ _ _ us hl => match us, hl with | [_, _], _ => rfl⟩
      · cases hf
        have F30 := fun_mk (st := top 38) l30 c30 k30
        exact ⟨_, _, _, _, PySem.W.mg_of X G a30, F30, k__law_later, F30.binds (ps := f__law_later.P) fun _ _ _ _ _ _ us hl => match us, hl with | [_, _], _ => rfl⟩
      · cases hf
        have F31 := fun_mk (st := top 39) l31 c31 k31
        exact ⟨_, _, _, _, PySem.W.mg_of X G a31, F31, k_law, F31.binds (ps := f_law.P) fun _ _ _ _ _ _ us hl => match us, hl with | [_], _ => rfl⟩
      · cases hf
    · change globT g = some d at hg
      unfold globT at hg
      split at hg
      · cases hg
        exact ⟨(.int 4), gv0, PySem.W.mg_of X G g0, gr0, fun H => .int _⟩
      · cases hg
    · unfold bltNames at hn
      simp only [List.mem_cons, List.not_mem_nil, or_false] at hn
      rcases hn with rfl | rfl | rfl | rfl | rfl | rfl | rfl | rfl | rfl | rfl | rfl | rfl | rfl | rfl | rfl | rfl | rfl | rfl | rfl | rfl
      · exact PySem.W.mg_none_of X G z0
      · exact PySem.W.mg_none_of X G z1
      · exact PySem.W.mg_none_of X G z2
      · exact PySem.W.mg_none_of X G z3
      · exact PySem.W.mg_none_of X G z4
      · exact PySem.W.mg_none_of X G z5
      · exact PySem.W.mg_none_of X G z6
      · exact PySem.W.mg_none_of X G z7
      · exact PySem.W.mg_none_of X G z8
      · exact PySem.W.mg_none_of X G z9
      · exact PySem.W.mg_none_of X G z10
      · exact PySem.W.mg_none_of X G z11
      · exact PySem.W.mg_none_of X G z12
      · exact PySem.W.mg_none_of X G z13
      · exact PySem.W.mg_none_of X G z14
      · exact PySem.W.mg_none_of X G z15
      · exact PySem.W.mg_none_of X G z16
      · exact PySem.W.mg_none_of X G z17
      · exact PySem.W.mg_none_of X G z18
      · exact PySem.W.mg_none_of X G z19
    · change isxT c = true at hc
      unfold isxT at hc
      split at hc
      · exact ⟨C0, PySem.W.mg_of X G ca0, cx0, ck0, cs0, ct0_⟩
      · cases hc
    · exact absurd hc (by intro z; cases z)
    · exact absurd hc (by intro z; cases z)
    · exact absurd hc (by intro z; cases z)
  have FL := fun_mk (st := top 39) l31 c31 k31
  exact ⟨_, fun s v => .of_eq rfl, fun base _ _ => law_ok T (F := f_law) rfl FL k_law law⟩
end Pv.L
open PySem PySem.W PyProof.Rows Pv
theorem PySem.Challenge.cw_trunksay_k61_next_filling_holds : PySem.Challenge.rw_trunksay_k61_next_filling.Holds := by
  w_on; o_law; k_head; (case hw => w_witness2)
  k_fill
  refine Pv.walk_law (l := PySem.Challenge.rw_trunksay_k61_next_filling) (k := Pv.L.depth) (x := "_law_script") rfl rfl (by decide) (fun w h Y => PySem.W.kIn_of Y) ?F
  case F =>
    intro w mg fa h KX G hmg
    refine' Pv.L.all_mk KX G hmg ?a0 ?l0 ?c0 ?k0 ?a1 ?l1 ?c1 ?k1 ?a2 ?l2 ?c2 ?k2 ?a3 ?l3 ?c3 ?k3 ?a4 ?l4 ?c4 ?k4 ?a5 ?l5 ?c5 ?k5 ?a6 ?l6 ?c6 ?k6 ?a7 ?l7 ?c7 ?k7 ?a8 ?l8 ?c8 ?k8 ?a9 ?l9 ?c9 ?k9 ?a10 ?l10 ?c10 ?k10 ?a11 ?l11 ?c11 ?k11 ?a12 ?l12 ?c12 ?k12 ?a13 ?l13 ?c13 ?k13 ?a14 ?l14 ?c14 ?k14 ?a15 ?l15 ?c15 ?k15 ?a16 ?l16 ?c16 ?k16 ?a17 ?l17 ?c17 ?k17 ?a18 ?l18 ?c18 ?k18 ?a19 ?l19 ?c19 ?k19 ?a20 ?l20 ?c20 ?k20 ?a21 ?l21 ?c21 ?k21 ?a22 ?l22 ?c22 ?k22 ?a23 ?l23 ?c23 ?k23 ?a24 ?l24 ?c24 ?k24 ?a25 ?l25 ?c25 ?k25 ?a26 ?l26 ?c26 ?k26 ?a27 ?l27 ?c27 ?k27 ?a28 ?l28 ?c28 ?k28 ?a29 ?l29 ?c29 ?k29 ?a30 ?l30 ?c30 ?k30 ?a31 ?l31 ?c31 ?k31 ?pvg0 ?pvr0 ?pva0 ?pvx0 ?pvk0 ?pvs0 ?pvt0 ?z0 ?z1 ?z2 ?z3 ?z4 ?z5 ?z6 ?z7 ?z8 ?z9 ?z10 ?z11 ?z12 ?z13 ?z14 ?z15 ?z16 ?z17 ?z18 ?z19 Pv.L.law_true
    (case a0 => k_is); (case l0 => k_is); (case c0 => k_is); (case k0 => k_is)
    (case a1 => k_is); (case l1 => k_is); (case c1 => k_is); (case k1 => k_is)
    (case a2 => k_is); (case l2 => k_is); (case c2 => k_is); (case k2 => k_is)
    (case a3 => k_is); (case l3 => k_is); (case c3 => k_is); (case k3 => k_is)
    (case a4 => k_is); (case l4 => k_is); (case c4 => k_is); (case k4 => k_is)
    (case a5 => k_is); (case l5 => k_is); (case c5 => k_is); (case k5 => k_is)
    (case a6 => k_is); (case l6 => k_is); (case c6 => k_is); (case k6 => k_is)
    (case a7 => k_is); (case l7 => k_is); (case c7 => k_is); (case k7 => k_is)
    (case a8 => k_is); (case l8 => k_is); (case c8 => k_is); (case k8 => k_is)
    (case a9 => k_is); (case l9 => k_is); (case c9 => k_is); (case k9 => k_is)
    (case a10 => k_is); (case l10 => k_is); (case c10 => k_is); (case k10 => k_is)
    (case a11 => k_is); (case l11 => k_is); (case c11 => k_is); (case k11 => k_is)
    (case a12 => k_is); (case l12 => k_is); (case c12 => k_is); (case k12 => k_is)
    (case a13 => k_is); (case l13 => k_is); (case c13 => k_is); (case k13 => k_is)
    (case a14 => k_is); (case l14 => k_is); (case c14 => k_is); (case k14 => k_is)
    (case a15 => k_is); (case l15 => k_is); (case c15 => k_is); (case k15 => k_is)
    (case a16 => k_is); (case l16 => k_is); (case c16 => k_is); (case k16 => k_is)
    (case a17 => k_is); (case l17 => k_is); (case c17 => k_is); (case k17 => k_is)
    (case a18 => k_is); (case l18 => k_is); (case c18 => k_is); (case k18 => k_is)
    (case a19 => k_is); (case l19 => k_is); (case c19 => k_is); (case k19 => k_is)
    (case a20 => k_is); (case l20 => k_is); (case c20 => k_is); (case k20 => k_is)
    (case a21 => k_is); (case l21 => k_is); (case c21 => k_is); (case k21 => k_is)
    (case a22 => k_is); (case l22 => k_is); (case c22 => k_is); (case k22 => k_is)
    (case a23 => k_is); (case l23 => k_is); (case c23 => k_is); (case k23 => k_is)
    (case a24 => k_is); (case l24 => k_is); (case c24 => k_is); (case k24 => k_is)
    (case a25 => k_is); (case l25 => k_is); (case c25 => k_is); (case k25 => k_is)
    (case a26 => k_is); (case l26 => k_is); (case c26 => k_is); (case k26 => k_is)
    (case a27 => k_is); (case l27 => k_is); (case c27 => k_is); (case k27 => k_is)
    (case a28 => k_is); (case l28 => k_is); (case c28 => k_is); (case k28 => k_is)
    (case a29 => k_is); (case l29 => k_is); (case c29 => k_is); (case k29 => k_is)
    (case a30 => k_is); (case l30 => k_is); (case c30 => k_is); (case k30 => k_is)
    (case a31 => k_is); (case l31 => k_is); (case c31 => k_is); (case k31 => k_is)
    (case pvg0 => k_is); (case pvr0 => exact ⟨_, rfl⟩)
    (case pva0 => k_is)
    (case pvx0 => k_exc); (case pvk0 => k_is); (case pvs0 => k_is); (case pvt0 => k_is)
    (case z0 => k_is)
    (case z1 => k_is)
    (case z2 => k_is)
    (case z3 => k_is)
    (case z4 => k_is)
    (case z5 => k_is)
    (case z6 => k_is)
    (case z7 => k_is)
    (case z8 => k_is)
    (case z9 => k_is)
    (case z10 => k_is)
    (case z11 => k_is)
    (case z12 => k_is)
    (case z13 => k_is)
    (case z14 => k_is)
    (case z15 => k_is)
    (case z16 => k_is)
    (case z17 => k_is)
    (case z18 => k_is)
    (case z19 => k_is)
#print axioms PySem.Challenge.cw_trunksay_k61_next_filling_holds

