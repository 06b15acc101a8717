import PyProof.Rows.All
import Wide.All
import OpenK.AllK
import Wide.FinOn
import HandS.ForMost
import HandS.ForExc
import HandS.TupAny
import HandS.Iter
import HandS.Comp
import HandS.Text
import HandS.SortInts
import HandS.IsInst
import HandS.Style
import HandS.ExcIs
import HandS.HotCalls
import HandS.WordsExc
import HandS.Wide
import PyProof.StrOps2
import PyProof.CollectStr
import HandS.Set
import HandS.Strs
import HandS.ExcValue
import PyProof.CollectIter
import PyProof.EnumMake
import PyProof.JoinWalk
import HandS.MapObj
import HandS.More
import PyProof.StrLawsChain
import PyProof.StrLawsTight
import PyProof.Rows.StrItems
import PyProof.StrLawsFirst
import PyProof.ExcBaseAll.ValueError
import PySem.Challenge.RW_trunksay_k13_statement_texts_refused
set_option Elab.async false
set_option linter.all false
set_option maxRecDepth 100000
set_option maxHeartbeats 4000000
/-! The core language: data, cells, expressions, statements, and their evaluator, in plain Lean. -/
namespace Pv
open PySem

abbrev Tx := List Nat

/-- data that never changes -/
inductive D where
  | non | bl (b : Bool) | int (i : Int) | str (x : Tx) | tup (xs : List D) | lst (xs : List D)

mutual
def D.eqb : D → D → Bool
  | .non, .non => true
  | .bl a, .bl b => a == b
  | .int a, .int b => a == b
  | .str a, .str b => a == b
  | .tup a, .tup b => D.eqbs a b
  | .lst a, .lst b => D.eqbs a b
  | _, _ => false
def D.eqbs : List D → List D → Bool
  | [], [] => true
  | a :: as, b :: bs => D.eqb a b && D.eqbs as bs
  | _, _ => false
end
mutual
theorem D.eqb_iff : ∀ a b : D, D.eqb a b = true ↔ a = b
  | .non, b => by cases b <;> simp [D.eqb]
  | .bl a, b => by cases b <;> simp [D.eqb]
  | .int a, b => by cases b <;> simp [D.eqb]
  | .str a, b => by cases b <;> simp [D.eqb]
  | .tup a, b => by cases b <;> simp [D.eqb, D.eqbs_iff a]
  | .lst a, b => by cases b <;> simp [D.eqb, D.eqbs_iff a]
theorem D.eqbs_iff : ∀ a b : List D, D.eqbs a b = true ↔ a = b
  | [], b => by cases b <;> simp [D.eqbs]
  | a :: as, b => by cases b <;> simp [D.eqbs, D.eqb_iff a, D.eqbs_iff as]
end
instance : DecidableEq D := fun a b => decidable_of_iff _ (D.eqb_iff a b)

/-- a mutable object: a list, live or shut for ever -/
inductive Cell where
  | lst (xs : List D) | flst (xs : List D)
  deriving DecidableEq
abbrev Store := List Cell
/-- what an expression gives: data; a cell; a list just made that no name has yet -/
inductive Val where
  | d (x : D) | ref (i : Nat) | new (xs : List D)
abbrev Env := List (Option Val)

inductive R (α : Type) where
  | ok (a : α) (s : Store) | exc (c : String) (s : Store) | err
@[inline] def R.bind {α β : Type} (r : R α) (f : α → Store → R β) : R β := match r with
  | .ok a s => f a s
  | .exc c s => .exc c s
  | .err => .err
/-- a statement's end -/
inductive SR where
  | nx (env : Env) (s : Store) | rt (v : Val) (s : Store) | ct (env : Env) (s : Store) | exc (c : String) (env : Env) (s : Store) | err

inductive Bop where
  | add | sub | mul | fdiv | mod | pow | shl | shr | band | bor | bxor
  deriving DecidableEq
inductive Cop where
  | eq | ne | lt | le | gt | ge | is | isnot | isin | notin
  deriving DecidableEq
inductive Ty where
  | tup | bool | int | str
  deriving DecidableEq
inductive Blt where
  | len | tuple | list | sorted | max | min | sum | abs | int | ord | str | any | all | sset
  deriving DecidableEq
inductive Mt where
  | append | pop | join | replace | split | count | find | insert | extend | index
  deriving DecidableEq

mutual
inductive Tg where
  | name (i : Nat) | tup (ts : Tgs)
inductive Tgs where
  | nil | cons (t : Tg) (ts : Tgs)
end
mutual
inductive E where
  | var (i : Nat) | int (i : Int) | str (x : Tx) | bl (b : Bool) | non | glob (g : String)
  | bin (o : Bop) (a b : E) | neg (a : E) | inv (a : E) | not (a : E)
  | cmp (o : Cop) (a b : E) | chain (o1 o2 : Cop) (a b c : E)
  | and (es : Es) | or (es : Es) | ite (t a b : E)
  | tup (es : Es) | list (es : Es) | ix (a i : E) | slice (a lo hi : E) | slice0 (a hi : E) | slice1 (a lo : E) | rev (a : E)
  | call (f : String) (es : Es) | blt (f : Blt) (es : Es) | meth (m : Mt) (a : E) (es : Es)
  | lc (elt : E) (tg : Tg) (it : It) (ifs : Es) | frz (a : E) | isi (t : Ty) (a : E)
inductive Es where
  | nil | cons (e : E) (es : Es)
inductive It where
  | val (e : E) | range (es : Es) | enum (e : E) | zip (a b : E)
end
mutual
/-- what a handler says of its exception -/
inductive HE where
  | str (x : Tx) | non | bl (b : Bool) | var (j : Nat) | isi (c : String) | isis (cs : List String) | kinds (f : String) | tup (es : HEs)
inductive HEs where
  | nil | cons (e : HE) (es : HEs)
end
inductive HS where
  | set (j : Nat) (e : HE) | ret (e : HE)
def HEs.of : List HE → HEs
  | [] => .nil
  | s :: r => .cons s (HEs.of r)
mutual
inductive S where
  | set (i : Nat) (e : E) | par (i j : Nat) (a b : E) | asg (tg : Tg) (e : E) | setix (a i v : E) | ex (e : E) | ret (e : E) | retN
  | ife (t : E) (a b : Ss) | forr (tg : Tg) (it : It) (b : Ss) | whil (t : E) (b : Ss)
  | rais (c : String) | trye (b : Ss) (c : String) (i : Nat) (h : List HS) | pass | cont
inductive Ss where
  | nil | cons (s : S) (ss : Ss)
end
def Ss.of : List S → Ss
  | [] => .nil
  | s :: r => .cons s (Ss.of r)
def Es.of : List E → Es
  | [] => .nil
  | s :: r => .cons s (Es.of r)
def Tgs.of : List Tg → Tgs
  | [] => .nil
  | s :: r => .cons s (Tgs.of r)

/-! ### values -/
def Cell.items : Cell → List D
  | .lst xs => xs
  | .flst xs => xs
/-- a list's items -/
def lstOf (v : Val) (s : Store) : Option (List D) := match v with
  | .d (.lst xs) => some xs
  | .new xs => some xs
  | .ref i => (s[i]?).map Cell.items
  | _ => none
def seqOf (v : Val) (s : Store) : Option (List D) := match v with
  | .d (.tup xs) => some xs
  | v => lstOf v s
/-- a value as data, as it stands -/
def peek (v : Val) (s : Store) : Option D := match v with
  | .d d => some d
  | .new xs => some (.lst xs)
  | .ref i => (s[i]?).map fun c => D.lst c.items
/-- a value as data for ever: its cell is shut -/
def toD (v : Val) (s : Store) : Option (D × Store) := match v with
  | .d d => some (d, s)
  | .new xs => some (.lst xs, s)
  | .ref i => match s[i]? with
    | some (.lst xs) => some (.lst xs, s.set i (.flst xs))
    | some (.flst xs) => some (.lst xs, s)
    | none => none
def toDs : List Val → Store → Option (List D × Store)
  | [], s => some ([], s)
  | v :: vs, s => match toD v s with
    | none => none
    | some (d, s1) => match toDs vs s1 with
      | none => none
      | some (ds, s2) => some (d :: ds, s2)
/-- what a call hands on -/
def argV : Val → Val
  | .new xs => .d (.lst xs)
  | v => v

mutual
def toPy : D → PyData
  | .non => .none
  | .bl b => .bool b
  | .int i => .int i
  | .str x => .str ⟨x.toArray⟩
  | .tup xs => .tuple (toPys xs)
  | .lst xs => .list (toPys xs)
def toPys : List D → List PyData
  | [] => []
  | d :: ds => toPy d :: toPys ds
end
/-- Python's == -/
def peq (a b : D) : Bool := PyData.eqv (toPy a) (toPy b)
def eqOk (a : D) : Bool := SeqAt.shaped (toPy a)

def okMul (i j : Int) : Bool := (decide (-18446744073709551616 < i) && decide (i < 18446744073709551616)) || (decide (-18446744073709551616 < j) && decide (j < 18446744073709551616)) || decide (i.natAbs.log2 + j.natAbs.log2 < 1000000)
def okPow (i j : Int) : Bool := decide (0 ≤ j) && decide (j ≤ 1000000) && decide (-18446744073709551616 < i) && decide (i < 18446744073709551616)
def okShl (i j : Int) : Bool := decide (0 ≤ j) && decide (j ≤ 1000000) && decide (i.natAbs.log2 < 1000000)
def okDiv (j : Int) : Bool := decide (0 < j) && decide (j.natAbs.log2 < 9000)
def binI (o : Bop) (i j : Int) : Option Int := match o with
  | .add => some (i + j)
  | .sub => some (i - j)
  | .mul => if okMul i j then some (i * j) else none
  | .fdiv => if okDiv j = true then some (i / j) else none
  | .mod => if 0 < j then some (i % j) else none
  | .pow => if okPow i j then some (i ^ j.toNat) else none
  | .shl => if okShl i j then some (i * 2 ^ j.toNat) else none
  | .shr => if 0 ≤ j then some (i / 2 ^ j.toNat) else none
  | .band => some (Builtin.bitAnd i j)
  | .bor => some (Builtin.bitOr i j)
  | .bxor => some (Builtin.bitXor i j)
def line : Nat := 16777216
/-- an operator by the values -/
def binV (o : Bop) (x y : Val) (s : Store) : R Val := match x, y with
  | .d (.int i), .d (.int j) => match binI o i j with
    | some k => .ok (.d (.int k)) s
    | none => .err
  | .d (.str a), .d (.str b) => match o with
    | .add => if a.length + b.length ≤ line then .ok (.d (.str (a ++ b))) s else .err
    | _ => .err
  | .d (.tup a), .d (.tup b) => match o with
    | .add => if a.length + b.length ≤ line then .ok (.d (.tup (a ++ b))) s else .err
    | _ => .err
  | x, y => match o with
    | .add => match lstOf x s, lstOf y s with
      | some a, some b => if a.length + b.length ≤ line then .ok (.new (a ++ b)) s else .err
      | _, _ => .err
    | .mul => match x, y with
      | .new a, .d (.int k) => if a.length * k.toNat ≤ line ∧ k < 9223372036854775808 ∧ -9223372036854775808 ≤ k then .ok (.new (List.replicate k.toNat a).flatten) s else .err
      | .d (.str a), .d (.int k) => if a.length * k.toNat ≤ line ∧ k < 9223372036854775808 ∧ -9223372036854775808 ≤ k then .ok (.d (.str (List.replicate k.toNat a).flatten)) s else .err
      | _, _ => .err
    | _ => .err
def flatD : D → Bool
  | .non => true | .bl _ => true | .int _ => true | .str _ => true | _ => false
def eqF : D → D → Bool
  | .non, .non => true
  | .bl a, .bl b => a == b
  | .bl a, .int b => (if a then 1 else 0) == b
  | .int a, .bl b => a == (if b then 1 else 0)
  | .int a, .int b => a == b
  | .str a, .str b => a == b
  | _, _ => false
/-- scalars that == tells apart -/
def scalD : D → D → Bool
  | .non, .non => true | .non, .int _ => true | .int _, .non => true | .non, .bl _ => true | .bl _, .non => true | .non, .str _ => true | .str _, .non => true
  | .int _, .int _ => true | .bl _, .bl _ => true | .str _, .str _ => true
  | .int _, .str _ => true | .str _, .int _ => true | .bl _, .str _ => true | .str _, .bl _ => true
  | _, _ => false
def inD (x : D) (xs : List D) : Bool := xs.any fun y => eqF y x
/-- is x in y -/
def memV (x y : Val) (s : Store) : Option Bool := match x, y with
  | .d (.str [c]), .d (.str z) => some (decide (c ∈ z))
  | .d x, y => match seqOf y s with
    | some xs => if flatD x && xs.all flatD then some (inD x xs) else none
    | none => none
  | _, _ => none
def cmpV (o : Cop) (x y : Val) (s : Store) : Option Bool := match o with
  | .eq => match peek x s, peek y s with
    | some a, some b => if scalD a b then some (decide (a = b)) else if eqOk a && eqOk b then some (peq a b) else none
    | _, _ => none
  | .ne => match peek x s, peek y s with
    | some a, some b => if scalD a b then some (!decide (a = b)) else if eqOk a && eqOk b then some (!peq a b) else none
    | _, _ => none
  | .lt => match x, y with
    | .d (.int i), .d (.int j) => some (decide (i < j))
    | .d (.str i), .d (.str j) => some (decide (i < j))
    | _, _ => none
  | .le => match x, y with
    | .d (.int i), .d (.int j) => some (decide (i ≤ j))
    | _, _ => none
  | .gt => match x, y with
    | .d (.int i), .d (.int j) => some (decide (j < i))
    | _, _ => none
  | .ge => match x, y with
    | .d (.int i), .d (.int j) => some (decide (j ≤ i))
    | _, _ => none
  | .is => match x, y with
    | .d .non, .d .non => some true
    | _, .d .non => some false
    | _, _ => none
  | .isnot => match x, y with
    | .d .non, .d .non => some false
    | _, .d .non => some true
    | _, _ => none
  | .isin => memV x y s
  | .notin => (memV x y s).map fun b => !b
def truV (v : Val) (s : Store) : Option Bool := match v with
  | .d (.bl b) => some b
  | .d (.int i) => some (i != 0)
  | _ => none
def ixV (x y : Val) (s : Store) : R Val := match y with
  | .d (.int i) => match x with
    | .d (.str z) => if z.length ≤ line then match L2.atI z i with
        | some c => .ok (.d (.str [c])) s
        | none => .err
      else .err
    | x => match seqOf x s with
      | some xs => match L2.atI xs i with
        | some d => .ok (.d d) s
        | none => .err
      | none => .err
  | _ => .err
def cutL {α : Type} (xs : List α) (lo hi : Option Int) : List α := (xs.drop (HT.sIx xs.length 0 lo)).take (HT.sIx xs.length xs.length hi - HT.sIx xs.length 0 lo)
def sliceV (x : Val) (lo hi : Option Int) (s : Store) : R Val := match x with
  | .d (.str z) => if z.length ≤ line then .ok (.d (.str (cutL z lo hi))) s else .err
  | .d (.tup z) => .ok (.d (.tup (cutL z lo hi))) s
  | x => match lstOf x s with
    | some z => .ok (.new (cutL z lo hi)) s
    | none => .err
def revV (x : Val) (s : Store) : R Val := match x with
  | .d (.str z) => if z.length ≤ line then .ok (.d (.str z.reverse)) s else .err
  | .d (.tup _) => .err
  | x => match lstOf x s with
    | some z => .ok (.new z.reverse) s
    | none => .err
def txOf : D → Option Tx
  | .str x => some x
  | _ => none
def intOf : D → Option Int
  | .int x => some x
  | _ => none
def blOf : D → Option Bool
  | .bl x => some x
  | _ => none
def allM {α : Type} (f : D → Option α) : List D → Option (List α)
  | [] => some []
  | d :: ds => match f d with
    | none => none
    | some a => match allM f ds with
      | none => none
      | some as => some (a :: as)
/-- put into a rising list -/
def insG {α : Type} (lt : α → α → Bool) (x : α) : List α → List α
  | [] => [x]
  | y :: ys => if lt y x = true then y :: insG lt x ys else x :: y :: ys
def sortG {α : Type} (lt : α → α → Bool) : List α → List α
  | [] => []
  | x :: xs => insG lt x (sortG lt xs)
def ltT (x y : Tx) : Bool := decide (x < y)
def ltI (x y : Int) : Bool := decide (x < y)
abbrev sortT : List Tx → List Tx := sortG ltT
abbrev sortI : List Int → List Int := sortG ltI
def joinT (sep : Tx) : List Tx → Tx
  | [] => []
  | [x] => x
  | x :: y :: r => x ++ sep ++ joinT sep (y :: r)
def tyIs (t : Ty) : Val → Bool
  | .d (.tup _) => match t with | .tup => true | _ => false
  | .d (.bl _) => match t with | .bool => true | .int => true | _ => false
  | .d (.int _) => match t with | .int => true | _ => false
  | .d (.str _) => match t with | .str => true | _ => false
  | _ => false
def isiV (t : Ty) (v : Val) : Option Bool := match v with
  | .d d => some (tyIs t (.d d))
  | _ => none
def bltV (f : Blt) (vs : List Val) (s : Store) : R Val := match f, vs with
  | .len, [.d (.str z)] => if z.length ≤ line then .ok (.d (.int z.length)) s else .err
  | .len, [v] => match seqOf v s with
    | some xs => .ok (.d (.int xs.length)) s
    | none => .err
  | .tuple, [.d (.tup xs)] => .ok (.d (.tup xs)) s
  | .tuple, [v] => match lstOf v s with
    | some xs => .ok (.d (.tup xs)) s
    | none => .err
  | .list, [v] => match seqOf v s with
    | some xs => .ok (.new xs) s
    | none => .err
  | .sorted, [.d (.str z)] => if z.length < 64 then .ok (.new ((sortT (z.map fun c => [c])).map D.str)) s else .err
  | .sorted, [v] => match lstOf v s with
    | some xs => if xs.length < 64 then match allM txOf xs with
        | some ts => .ok (.new ((sortT ts).map D.str)) s
        | none => match allM intOf xs with
          | some ns => .ok (.new ((sortI ns).map D.int)) s
          | none => .err
      else .err
    | none => .err
  | .max, [.d (.int i), .d (.int j)] => .ok (.d (.int (if j > i then j else i))) s
  | .min, [.d (.int i), .d (.int j)] => .ok (.d (.int (if j < i then j else i))) s
  | .abs, [.d (.int i)] => .ok (.d (.int (if i < 0 then -i else i))) s
  | .sum, [v] => match lstOf v s with
    | some xs => match allM intOf xs with
      | some ns => .ok (.d (.int ns.sum)) s
      | none => .err
    | none => .err
  | .int, [.d (.int i)] => .ok (.d (.int i)) s
  | .int, [.d (.bl b)] => .ok (.d (.int (if b then 1 else 0))) s
  | .int, [.d (.str [c])] => if 48 ≤ c ∧ c < 58 then .ok (.d (.int ((c : Int) - 48))) s else .err
  | .str, [.d (.int i)] => if 0 ≤ i ∧ i < 10 then .ok (.d (.str [48 + i.toNat])) s else .err
  | .ord, [.d (.str [c])] => .ok (.d (.int c)) s
  | .any, [v] => match lstOf v s with
    | some xs => match allM blOf xs with
      | some bs => .ok (.d (.bl (bs.any id))) s
      | none => .err
    | none => .err
  | .all, [v] => match lstOf v s with
    | some xs => match allM blOf xs with
      | some bs => .ok (.d (.bl (bs.all id))) s
      | none => .err
    | none => .err
  | _, _ => .err
/-- the pieces between the signs c -/
def splitC (c : Nat) : Tx → List Tx
  | [] => [[]]
  | x :: xs => if x = c then [] :: splitC c xs else match splitC c xs with
    | [] => [[x]]
    | p :: ps => (x :: p) :: ps
/-- where the sign c is first, or -1 -/
def findC (c : Nat) (z : Tx) : Int := if c ∈ z then (z.idxOf c : Int) else -1
def methV (m : Mt) (x : Val) (vs : List Val) (s : Store) : R Val := match m, x, vs with
  | .append, .ref i, [v] => match toD v s with
    | none => .err
    | some (d, s1) => match s1[i]? with
      | some (.lst xs) => if xs.length < line then .ok (.d .non) (s1.set i (.lst (xs ++ [d]))) else .err
      | _ => .err
  | .pop, .ref i, [] => match s[i]? with
    | some (.lst xs) => match xs.getLast? with
      | some d => .ok (.d d) (s.set i (.lst xs.dropLast))
      | none => .err
    | _ => .err
  | .pop, .ref i, [.d (.int k)] => match s[i]? with
    | some (.lst xs) => if xs.length ≤ line then match L2.ixN xs.length k with
      | some j => match xs[j]? with
        | some d => .ok (.d d) (s.set i (.lst (xs.eraseIdx j)))
        | none => .err
      | none => .err
      else .err
    | _ => .err
  | .join, .d (.str sep), [.d (.str z)] => if z.length + z.length * sep.length ≤ line then .ok (.d (.str (joinT sep (z.map fun c => [c])))) s else .err
  | .join, .d (.str sep), [v] => match seqOf v s with
    | some xs => match allM txOf xs with
      | some ts => if (ts.map List.length).sum + ts.length * sep.length ≤ line then .ok (.d (.str (joinT sep ts))) s else .err
      | none => .err
    | none => .err
  | .split, .d (.str z), [.d (.str [c])] => if z.length + 2 ≤ line then .ok (.new ((splitC c z).map D.str)) s else .err
  | .find, .d (.str z), [.d (.str [c])] => .ok (.d (.int (findC c z))) s
  | .count, .d (.str z), [.d (.str [c])] => .ok (.d (.int ((splitC c z).length - 1 : Nat))) s
  | .insert, .ref i, [.d (.int k), v] => match toD v s with
    | none => .err
    | some (d, s1) => match s1[i]? with
      | some (.lst xs) => if xs.length < line ∧ 0 ≤ k ∧ k < 9223372036854775808 then .ok (.d .non) (s1.set i (.lst (xs.take k.toNat ++ [d] ++ xs.drop k.toNat))) else .err
      | _ => .err
  | _, _, _ => .err

def isLm : Mt → Bool
  | .append | .pop | .insert | .extend | .index => true
  | _ => false
def isSup : Mt → Bool
  | .append | .pop | .join | .split | .find | .count | .insert => true
  | _ => false
/-- the receiver is of the kind -/
def recvOk (m : Mt) (x : Val) (s : Store) : Bool := isSup m && match x with
  | .ref i => isLm m && (s[i]?).isSome
  | .d (.str _) => !isLm m
  | _ => false
/-- o[k] = x -/
def setV (x o k : Val) (s : Store) : R Val := match o, k with
  | .ref r, .d (.int n) => match toD x s with
    | none => .err
    | some (d, s4) => match s4[r]? with
      | some (.lst xs) => match L2.ixN xs.length n with
        | some j => .ok (.d .non) (s4.set r (.lst (xs.set j d)))
        | none => .err
      | _ => .err
  | _, _ => .err

/-! ### targets -/
mutual
def bindT : Tg → D → Env → Option Env
  | .name i, d, env => some (env.set i (some (.d d)))
  | .tup ts, d, env => match d with
    | .tup xs => bindTs ts xs env
    | _ => none
def bindTs : Tgs → List D → Env → Option Env
  | .nil, [], env => some env
  | .cons t ts, d :: ds, env => match bindT t d env with
    | some e1 => bindTs ts ds e1
    | none => none
  | _, _, _ => none
end
mutual
def slotsT : Tg → List Nat
  | .name i => [i]
  | .tup ts => slotsTs ts
def slotsTs : Tgs → List Nat
  | .nil => []
  | .cons t ts => slotsT t ++ slotsTs ts
end
def wipeE (env : Env) : List Nat → Env
  | [] => env
  | v :: vs => (wipeE env vs).set v none

/-- what is walked: its items; a cell that must stand as it is meanwhile -/
structure Walk where
  items : List D
  guard : Option (Nat × List D)
def Walk.ok (w : Walk) (s : Store) : Bool := match w.guard with
  | none => true
  | some (i, xs) => match s[i]? with
    | some c => decide (c.items = xs)
    | none => false
def rangeL (lo : Int) (n : Nat) : List D := (List.range n).map fun (k : Nat) => D.int (lo + (k : Int))
def rangeD (lo c : Int) (n : Nat) : List D := (List.range n).map fun (k : Nat) => D.int (lo + (k : Int) * c)
def okR (i : Int) : Bool := decide (-4611686018427387904 ≤ i) && decide (i < 4611686018427387904)
def walkV (v : Val) (s : Store) : R Walk := match v with
  | .d (.str z) => .ok ⟨z.map fun c => D.str [c], none⟩ s
  | .d (.tup xs) => .ok ⟨xs, none⟩ s
  | .d (.lst xs) => .ok ⟨xs, none⟩ s
  | .new xs => .ok ⟨xs, none⟩ s
  | .ref i => match s[i]? with
    | some c => .ok ⟨c.items, some (i, c.items)⟩ s
    | none => .err
  | _ => .err
def rangeV (vs : List Val) (s : Store) : R Walk := match vs with
  | [.d (.int j)] => if okR j then .ok ⟨rangeL 0 j.toNat, none⟩ s else .err
  | [.d (.int i), .d (.int j)] => if okR i && okR j then .ok ⟨rangeL i (j - i).toNat, none⟩ s else .err
  | [.d (.int i), .d (.int j), .d (.int c)] => if okR i && okR j && decide (c = -1) then .ok ⟨rangeD i (-1) (i - j).toNat, none⟩ s
      else if okR i && okR j && decide (c = 50) then .ok ⟨rangeD i 50 ((j - i + 49) / 50).toNat, none⟩ s else .err
  | _ => .err
/-- cells from n on are forgotten -/
def kill (n : Nat) : Option Val → Option Val
  | some (.ref i) => if i < n then some (.ref i) else none
  | o => o

/-! ### loops -/
def forL (w : Walk) (n : Nat) (tg : Tg) (body : Env → Store → SR) : List D → Env → Store → SR
  | [], env, s => if w.ok s then .nx env s else .err
  | d :: ds, env, s => if w.ok s then match bindT tg d env with
      | some e1 => match body e1 s with
        | .nx e2 s2 => forL w n tg body ds (e2.map (kill n)) (s2.take n)
        | .ct e2 s2 => forL w n tg body ds (e2.map (kill n)) (s2.take n)
        | r => r
      | none => .err
    else .err
def whileL (n : Nat) (test : Env → Store → R Bool) (body : Env → Store → SR) : Nat → Env → Store → SR
  | 0, _, _ => .err
  | k + 1, env, s => match test env s with
    | .ok true s1 => match body env s1 with
      | .nx e2 s2 => whileL n test body k (e2.map (kill n)) (s2.take n)
      | .ct e2 s2 => whileL n test body k (e2.map (kill n)) (s2.take n)
      | r => r
    | .ok false s1 => .nx env s1
    | .exc c s1 => .exc c env s1
    | .err => .err
def lcL (w : Walk) (tg : Tg) (test : Env → Store → R Bool) (elt : Env → Store → R Val) (env : Env) : List D → List D → Store → R (List D)
  | [], acc, s => if w.ok s then .ok acc s else .err
  | d :: ds, acc, s => if w.ok s && decide (acc.length < line) then match bindT tg d env with
      | some e1 => match test e1 s with
        | .ok true s1 => match elt e1 s1 with
          | .ok v s2 => match toD v s2 with
            | some (y, s3) => lcL w tg test elt env ds (acc ++ [y]) s3
            | none => .err
          | _ => .err
        | .ok false s1 => lcL w tg test elt env ds acc s1
        | _ => .err
      | none => .err
    else .err

/-! ### the evaluator -/
structure Cxt where
  call : String → List Val → Store → R Val
  glob : String → Option D
  fuel : Nat
  isx : String → Bool
  has : String → Bool
  sub : String → String → Option Bool
  hnd : String → String → Option Bool
  knd : String → Option (List String)
/-- of which of the classes is the exception's class c -/
def subs (cx : Cxt) (c : String) : List String → Option (List D)
  | [] => some []
  | t :: ts => match cx.sub c t with
    | none => none
    | some b => match subs cx c ts with
      | none => none
      | some bs => some (.bl b :: bs)
def trD : D → Bool
  | .bl b => b
  | _ => false
mutual
def evH (cx : Cxt) (c : String) (env : Env) : HE → Option D
  | .non => some .non
  | .bl b => some (.bl b)
  | .var j => match env[j]? with
    | some (some (.d d)) => some d
    | _ => none
  | .str x => some (.str x)
  | .isi t => match cx.sub c t with
    | some b => some (.bl b)
    | none => none
  | .isis ts => match subs cx c ts with
    | some bs => if bs.length ≤ line then some (.bl (bs.any trD)) else none
    | none => none
  | .kinds f => match cx.knd f with
    | none => none
    | some ts => match subs cx c ts with
      | some bs => if bs.length ≤ line then some (.tup bs) else none
      | none => none
  | .tup es => match evHs cx c env es with
    | some ds => if ds.length ≤ line then some (.tup ds) else none
    | none => none
def evHs (cx : Cxt) (c : String) (env : Env) : HEs → Option (List D)
  | .nil => some []
  | .cons e es => match evH cx c env e with
    | none => none
    | some d => match evHs cx c env es with
      | none => none
      | some ds => some (d :: ds)
end
/-- a handler's suite -/
def evHS (cx : Cxt) (c : String) : List HS → Env → Store → SR
  | [], env, s => .nx env s
  | .set j e :: r, env, s => match evH cx c env e with
    | some d => evHS cx c r (env.set j (some (.d d))) s
    | none => .err
  | .ret e :: _, env, s => match evH cx c env e with
    | some d => .rt (.d d) s
    | none => .err
mutual
def evE (cx : Cxt) : E → Env → Store → R Val
  | .var i, env, s => match env[i]? with
    | some (some v) => .ok v s
    | _ => .err
  | .int i, _, s => .ok (.d (.int i)) s
  | .str x, _, s => .ok (.d (.str x)) s
  | .bl b, _, s => .ok (.d (.bl b)) s
  | .non, _, s => .ok (.d .non) s
  | .glob g, _, s => match cx.glob g with
    | some d => .ok (.d d) s
    | none => .err
  | .bin o a b, env, s => (evE cx a env s).bind fun x s1 => (evE cx b env s1).bind fun y s2 => binV o x y s2
  | .neg a, env, s => (evE cx a env s).bind fun x s1 => match x with
    | .d (.int i) => .ok (.d (.int (-i))) s1
    | _ => .err
  | .inv a, env, s => (evE cx a env s).bind fun x s1 => match x with
    | .d (.int i) => .ok (.d (.int (Builtin.bitNot i))) s1
    | _ => .err
  | .not a, env, s => (evE cx a env s).bind fun x s1 => match x with
    | .d (.bl b) => .ok (.d (.bl (!b))) s1
    | _ => .err
  | .cmp o a b, env, s => (evE cx a env s).bind fun x s1 => (evE cx b env s1).bind fun y s2 => match cmpV o x y s2 with
    | some k => .ok (.d (.bl k)) s2
    | none => .err
  | .chain o1 o2 a b c, env, s => (evE cx a env s).bind fun x s1 => (evE cx b env s1).bind fun y s2 => match cmpV o1 x y s2 with
    | some true => (evE cx c env s2).bind fun z s3 => match cmpV o2 y z s3 with
      | some k => .ok (.d (.bl k)) s3
      | none => .err
    | some false => .ok (.d (.bl false)) s2
    | none => .err
  | .and es, env, s => evAnd cx es env s
  | .or es, env, s => evOr cx es env s
  | .ite t a b, env, s => (evT cx t env s).bind fun k s1 => if k then evE cx a env s1 else evE cx b env s1
  | .tup es, env, s => (evEs cx es env s).bind fun vs s1 => match toDs vs s1 with
    | some (ds, s2) => if ds.length ≤ line then .ok (.d (.tup ds)) s2 else .err
    | none => .err
  | .list es, env, s => (evEs cx es env s).bind fun vs s1 => match toDs vs s1 with
    | some (ds, s2) => if ds.length ≤ line then .ok (.new ds) s2 else .err
    | none => .err
  | .ix a i, env, s => (evE cx a env s).bind fun x s1 => (evE cx i env s1).bind fun y s2 => ixV x y s2
  | .slice a lo hi, env, s => (evE cx a env s).bind fun x s1 => (evE cx lo env s1).bind fun l s2 => match l with
    | .d (.int i) => (evE cx hi env s2).bind fun h s3 => match h with
      | .d (.int j) => sliceV x (some i) (some j) s3
      | _ => .err
    | _ => .err
  | .slice0 a hi, env, s => (evE cx a env s).bind fun x s1 => (evE cx hi env s1).bind fun h s2 => match h with
    | .d (.int j) => sliceV x none (some j) s2
    | _ => .err
  | .slice1 a lo, env, s => (evE cx a env s).bind fun x s1 => (evE cx lo env s1).bind fun l s2 => match l with
    | .d (.int i) => sliceV x (some i) none s2
    | _ => .err
  | .rev a, env, s => (evE cx a env s).bind fun x s1 => revV x s1
  | .call f es, env, s => if cx.has f then (evEs cx es env s).bind fun vs s1 => cx.call f (vs.map argV) s1 else .err
  | .blt f es, env, s => (evEs cx es env s).bind fun vs s1 => bltV f vs s1
  | .meth m a es, env, s => (evE cx a env s).bind fun x s1 => if recvOk m x s1 then (evEs cx es env s1).bind fun vs s2 => methV m x vs s2 else .err
  | .lc elt tg it ifs, env, s => (evI cx it env s).bind fun w s1 =>
      (lcL w tg (fun e s => evC cx ifs e s) (fun e s => evE cx elt e s) (wipeE env (slotsT tg)) w.items [] s1).bind fun ds s2 => .ok (.new ds) s2
  | .frz a, env, s => (evE cx a env s).bind fun v s1 => match toD v s1 with
    | some (d, s2) => .ok (.d d) s2
    | none => .err
  | .isi t a, env, s => (evE cx a env s).bind fun v s1 => match isiV t v with
    | some b => .ok (.d (.bl b)) s1
    | none => .err
def evEs (cx : Cxt) : Es → Env → Store → R (List Val)
  | .nil, _, s => .ok [] s
  | .cons e es, env, s => (evE cx e env s).bind fun v s1 => (evEs cx es env s1).bind fun vs s2 => .ok (v :: vs) s2
/-- and, or as values: all but the last are truths -/
def evAnd (cx : Cxt) : Es → Env → Store → R Val
  | .nil, _, _ => .err
  | .cons e es, env, s => match es with
    | .nil => evE cx e env s
    | .cons _ _ => (evE cx e env s).bind fun x s1 => match x with
      | .d (.bl true) => evAnd cx es env s1
      | .d (.bl false) => .ok (.d (.bl false)) s1
      | _ => .err
def evOr (cx : Cxt) : Es → Env → Store → R Val
  | .nil, _, _ => .err
  | .cons e es, env, s => match es with
    | .nil => evE cx e env s
    | .cons _ _ => (evE cx e env s).bind fun x s1 => match x with
      | .d (.bl true) => .ok (.d (.bl true)) s1
      | .d (.bl false) => evOr cx es env s1
      | _ => .err
def evI (cx : Cxt) : It → Env → Store → R Walk
  | .val e, env, s => (evE cx e env s).bind fun v s1 => walkV v s1
  | .range es, env, s => (evEs cx es env s).bind fun vs s1 => rangeV vs s1
  | .enum _, _, _ => .err
  | .zip a b, env, s => .err
/-- a test -/
def evT (cx : Cxt) : E → Env → Store → R Bool
  | .not a, env, s => (evT cx a env s).bind fun k s1 => .ok (!k) s1
  | .and es, env, s => evTA cx es env s
  | .or es, env, s => evTO cx es env s
  | .ite _ _ _, _, _ => .err
  | .cmp o a b, env, s => (evE cx a env s).bind fun x s1 => (evE cx b env s1).bind fun y s2 => match cmpV o x y s2 with
    | some k => .ok k s2
    | none => .err
  | .chain o1 o2 a b c, env, s => (evE cx a env s).bind fun x s1 => (evE cx b env s1).bind fun y s2 => match cmpV o1 x y s2 with
    | some true => (evE cx c env s2).bind fun z s3 => match cmpV o2 y z s3 with
      | some k => .ok k s3
      | none => .err
    | some false => .ok false s2
    | none => .err
  | .frz _, _, _ => .err
  | .isi t a, env, s => (evE cx a env s).bind fun v s1 => match isiV t v with
    | some b => .ok b s1
    | none => .err
  | .var i, env, s => match env[i]? with
    | some (some v) => match truV v s with
      | some k => .ok k s
      | none => .err
    | _ => .err
  | .ix a i, env, s => (evE cx a env s).bind fun x s1 => (evE cx i env s1).bind fun y s2 => (ixV x y s2).bind fun v s3 => match truV v s3 with
    | some k => .ok k s3
    | none => .err
  | .call f es, env, s => if cx.has f then (evEs cx es env s).bind fun vs s1 => (cx.call f (vs.map argV) s1).bind fun v s2 => match truV v s2 with
    | some k => .ok k s2
    | none => .err
    else .err
  | .blt f es, env, s => (evEs cx es env s).bind fun vs s1 => (bltV f vs s1).bind fun v s2 => match truV v s2 with
    | some k => .ok k s2
    | none => .err
  | _, _, _ => .err
def evTA (cx : Cxt) : Es → Env → Store → R Bool
  | .nil, _, s => .ok true s
  | .cons e es, env, s => (evT cx e env s).bind fun k s1 => if k then evTA cx es env s1 else .ok false s1
def evTO (cx : Cxt) : Es → Env → Store → R Bool
  | .nil, _, s => .ok false s
  | .cons e es, env, s => (evT cx e env s).bind fun k s1 => if k then .ok true s1 else evTO cx es env s1
/-- a comprehension's tests: none or one -/
def evC (cx : Cxt) : Es → Env → Store → R Bool
  | .nil, _, s => .ok true s
  | .cons e es, env, s => match es with
    | .nil => evT cx e env s
    | .cons _ _ => .err
end
mutual
def evS (cx : Cxt) : S → Env → Store → SR
  | .set i e, env, s => match evE cx e env s with
    | .ok (.new xs) s1 => .nx (env.set i (some (.ref s1.length))) (s1 ++ [.lst xs])
    | .ok v s1 => .nx (env.set i (some v)) s1
    | .exc c s1 => .exc c env s1
    | .err => .err
  | .par i j a b, env, s => match (evE cx a env s).bind fun x s1 => (evE cx b env s1).bind fun y s2 => .ok (x, y) s2 with
    | .ok (.d x, .d y) s1 => .nx ((env.set i (some (.d x))).set j (some (.d y))) s1
    | .exc c s1 => .exc c env s1
    | _ => .err
  | .asg tg e, env, s => match evE cx e env s with
    | .ok (.d d) s1 => match bindT tg d env with
      | some e1 => .nx e1 s1
      | none => .err
    | .exc c s1 => .exc c env s1
    | _ => .err
  | .setix a i v, env, s => match (evE cx v env s).bind fun x s1 => (evE cx a env s1).bind fun o s2 => (evE cx i env s2).bind fun k s3 => setV x o k s3 with
    | .ok _ s1 => .nx env s1
    | .exc c s1 => .exc c env s1
    | .err => .err
  | .ex e, env, s => match evE cx e env s with
    | .ok _ s1 => .nx env s1
    | .exc c s1 => .exc c env s1
    | .err => .err
  | .ret e, env, s => match evE cx e env s with
    | .ok v s1 => .rt v s1
    | .exc c s1 => .exc c env s1
    | .err => .err
  | .retN, _, s => .rt (.d .non) s
  | .ife t a b, env, s => match evT cx t env s with
    | .ok true s1 => evSs cx a env s1
    | .ok false s1 => evSs cx b env s1
    | .exc c s1 => .exc c env s1
    | .err => .err
  | .forr tg it b, env, s => match evI cx it env s with
    | .ok w s1 => forL w s1.length tg (fun e s => evSs cx b e s) w.items env s1
    | .exc c s1 => .exc c env s1
    | .err => .err
  | .whil t b, env, s => whileL s.length (fun e s => evT cx t e s) (fun e s => evSs cx b e s) cx.fuel env s
  | .rais c, env, s => if cx.isx c then .exc c env s else .err
  | .trye b c i h, env, s => if (cx.hnd c c).isSome then match evSs cx b env s with
      | .exc c' e1 s1 => match cx.hnd c' c with
        | some true => if i < e1.length then evHS cx c' h (e1.set i none) s1 else .err
        | some false => .exc c' e1 s1
        | none => .err
      | r => r
    else .err
  | .pass, env, s => .nx env s
  | .cont, env, s => .ct env s
def evSs (cx : Cxt) : Ss → Env → Store → SR
  | .nil, env, s => .nx env s
  | .cons st ss, env, s => match evS cx st env s with
    | .nx e1 s1 => evSs cx ss e1 s1
    | r => r
end

/-! ### a program -/
structure Fn where
  ps : List String
  ns : List String
  body : Ss
/-- a def's value: cells that were made within are forgotten -/
def retV (v : Val) (n : Nat) (s : Store) : R Val := match v with
  | .d d => .ok (.d d) (s.take n)
  | .new xs => .ok (.new xs) (s.take n)
  | .ref i => if i < n then .ok (.ref i) (s.take n) else match s[i]? with
    | some (.lst xs) => .ok (.new xs) (s.take n)
    | some (.flst xs) => .ok (.d (.lst xs)) (s.take n)
    | none => .err
def endF (r : SR) (n : Nat) : R Val := match r with
  | .nx _ s => .ok (.d .non) (s.take n)
  | .rt v s => retV v n s
  | .exc c _ s => .exc c (s.take n)
  | .ct _ _ => .err
  | .err => .err
def envF (F : Fn) (vs : List Val) : Env := vs.map some ++ List.replicate (F.ns.length - vs.length) none
def runF (F : Fn) (cx : Cxt) (vs : List Val) (s : Store) : R Val :=
  if vs.length = F.ps.length then endF (evSs cx F.body (envF F vs) s) s.length else .err
structure Prog where
  fn : String → Option Fn
  glob : String → Option D
  isx : String → Bool
  sub : String → String → Option Bool
  hnd : String → String → Option Bool
  knd : String → Option (List String)
/-- calls to a depth -/
def Φ (Δ : Prog) (m : Nat) : Nat → String → List Val → Store → R Val
  | 0, _, _, _ => .err
  | n + 1, f, vs, s => match Δ.fn f with
    | some F => runF F ⟨Φ Δ m n, Δ.glob, m, Δ.isx, fun f => (Δ.fn f).isSome, Δ.sub, Δ.hnd, Δ.knd⟩ vs s
    | none => .err
end Pv

/-! Sorting: the one rising arrangement. -/
namespace Pv
open PySem
section
variable {α : Type} {lt : α → α → Bool}
theorem insG_perm (x : α) : ∀ l : List α, (insG lt x l).Perm (x :: l)
  | [] => .refl _
  | y :: ys => by
    unfold insG
    split
    · exact ((insG_perm x ys).cons y).trans (.swap x y ys)
    · exact .refl _
theorem sortG_perm : ∀ l : List α, (sortG lt l).Perm l
  | [] => .refl _
  | x :: xs => (insG_perm x _).trans ((sortG_perm xs).cons x)
abbrev leG (lt : α → α → Bool) (a b : α) : Prop := lt b a = false
theorem insG_pw (asym : ∀ a b, lt a b = true → lt b a = false) (tr : ∀ a b c, leG lt a b → leG lt b c → leG lt a c) (x : α) : ∀ l : List α, l.Pairwise (leG lt) → (insG lt x l).Pairwise (leG lt)
  | [], _ => List.pairwise_singleton _ _
  | y :: ys, h => by
    obtain ⟨h1, h2⟩ := List.pairwise_cons.mp h
    unfold insG
    split
    · rename_i c
      refine List.pairwise_cons.mpr ⟨fun z hz => ?_, insG_pw asym tr x ys h2⟩
      rcases List.mem_cons.mp ((insG_perm x ys).mem_iff.mp hz) with e | e
      · rw [e]; exact asym _ _ c
      · exact h1 z e
    · rename_i c
      have c' : leG lt x y := by simpa using c
      refine List.pairwise_cons.mpr ⟨fun z hz => ?_, h⟩
      rcases List.mem_cons.mp hz with e | e
      · rw [e]; exact c'
      · exact tr _ _ _ c' (h1 z e)
theorem sortG_pw (asym : ∀ a b, lt a b = true → lt b a = false) (tr : ∀ a b c, leG lt a b → leG lt b c → leG lt a c) : ∀ l : List α, (sortG lt l).Pairwise (leG lt)
  | [] => .nil
  | x :: xs => insG_pw asym tr x _ (sortG_pw asym tr xs)
/-- there is one rising arrangement -/
theorem sortG_uniq (asym : ∀ a b, lt a b = true → lt b a = false) (tr : ∀ a b c, leG lt a b → leG lt b c → leG lt a c) (anti : ∀ a b, leG lt a b → leG lt b a → a = b) {l m : List α}
    (p : m.Perm l) (w : m.Pairwise (leG lt)) : m = sortG lt l :=
  List.Perm.eq_of_pairwise (fun a b _ _ => anti a b) w (sortG_pw asym tr l) (p.trans (sortG_perm l).symm)
end
theorem ltT_asym (a b : Tx) (h : ltT a b = true) : ltT b a = false := by
  unfold ltT at *
  simp only [decide_eq_true_eq, decide_eq_false_iff_not] at *
  exact List.lt_asymm h
theorem ltT_tr (a b c : Tx) (h : leG ltT a b) (h' : leG ltT b c) : leG ltT a c := by
  unfold leG ltT at *
  simp only [decide_eq_false_iff_not] at *
  exact List.le_trans (α := Nat) h h'
theorem ltT_anti (a b : Tx) (h : leG ltT a b) (h' : leG ltT b a) : a = b := by
  unfold leG ltT at *
  simp only [decide_eq_false_iff_not] at *
  exact List.le_antisymm (α := Nat) h h'
theorem ltI_asym (a b : Int) (h : ltI a b = true) : ltI b a = false := by
  unfold ltI at *
  simp only [decide_eq_true_eq, decide_eq_false_iff_not] at *
  omega
theorem ltI_tr (a b c : Int) (h : leG ltI a b) (h' : leG ltI b c) : leG ltI a c := by
  unfold leG ltI at *
  simp only [decide_eq_false_iff_not] at *
  omega
theorem ltI_anti (a b : Int) (h : leG ltI a b) (h' : leG ltI b a) : a = b := by
  unfold leG ltI at *
  simp only [decide_eq_false_iff_not] at *
  omega
theorem sortT_uniq {l m : List Tx} (p : m.Perm l) (w : m.Pairwise (leG ltT)) : m = sortT l := sortG_uniq ltT_asym ltT_tr ltT_anti p w
theorem sortI_uniq {l m : List Int} (p : m.Perm l) (w : m.Pairwise (leG ltI)) : m = sortI l := sortG_uniq ltI_asym ltI_tr ltI_anti p w
end Pv

/-! The checker: which text of the model's syntax a core expression stands for. -/
namespace Pv
open PySem

def vis (sc : Scope) (x : Str) : Bool := match sc.names.lookup x with
  | some .local => true
  | some .cell => true
  | some .free => true
  | _ => false
def locl (sc : Scope) (x : Str) : Bool := match sc.names.lookup x with
  | some .local => true
  | some .cell => true
  | _ => false
def gl (sc : Scope) (x : Str) : Bool := match sc.names.lookup x with
  | some .globalImplicit => true
  | _ => false
def plainName (x : Str) : Bool := !(x == ("__debug__" : Str)) && !(x == ("__classdict__" : Str)) && !(x == ("__name__" : Str))
def isVar (N : List Str) (sc : Scope) (i : Nat) (x : Str) : Bool := decide (N[i]? = some x) && vis sc x && plainName x
def isSet (N : List Str) (sc : Scope) (i : Nat) (x : Str) : Bool := decide (N[i]? = some x) && locl sc x && plainName x
def isBlt (sc : Scope) (n x : Str) : Bool := decide (x = n) && gl sc x && plainName x
def txt (x : Tx) : Str := ⟨x.toArray⟩

def bopOf : Bop → Operator
  | .add => .Add | .sub => .Sub | .mul => .Mult | .fdiv => .FloorDiv | .mod => .Mod | .pow => .Pow | .shl => .LShift | .shr => .RShift
  | .band => .BitAnd | .bor => .BitOr | .bxor => .BitXor
def isBop (o : Bop) (p : Operator) : Bool := match o, p with
  | .add, .Add => true | .sub, .Sub => true | .mul, .Mult => true | .fdiv, .FloorDiv => true | .mod, .Mod => true | .pow, .Pow => true
  | .shl, .LShift => true | .shr, .RShift => true | .band, .BitAnd => true | .bor, .BitOr => true | .bxor, .BitXor => true
  | _, _ => false
def isCop (o : Cop) (p : CmpOp) : Bool := match o, p with
  | .eq, .Eq => true | .ne, .NotEq => true | .lt, .Lt => true | .le, .LtE => true | .gt, .Gt => true | .ge, .GtE => true
  | .is, .Is => true | .isnot, .IsNot => true | .isin, .In => true | .notin, .NotIn => true
  | _, _ => false
def tyName : Ty → Str
  | .tup => "tuple" | .bool => "bool" | .int => "int" | .str => "str"
def bltName : Blt → Str
  | .len => "len" | .tuple => "tuple" | .list => "list" | .sorted => "sorted" | .max => "max" | .min => "min" | .sum => "sum" | .abs => "abs"
  | .int => "int" | .ord => "ord" | .str => "str" | .any => "any" | .all => "all" | .sset => "sorted"
def mtName : Mt → Str
  | .append => "append" | .pop => "pop" | .join => "join" | .replace => "replace" | .split => "split" | .count => "count" | .find => "find"
  | .insert => "insert" | .extend => "extend" | .index => "index"
/-- no super() -/
def notCall0 : Expr → Bool
  | .Call (.Name _ _) [] [] _ => false
  | _ => true
def isIntC : Expr → Int → Bool
  | .Constant (.int j) _ _, i => decide (j = i)
  | _, _ => false
def isMinus1 : Expr → Bool
  | .UnaryOp .USub (.Constant (.int j) _ _) _ => decide (j = 1)
  | _ => false

mutual
def chkG (N : List Str) (sc : Scope) : Tg → Expr → Bool
  | .name i, .Name x _ => isSet N sc i x
  | .tup ts, .Tuple xs _ _ => chkGs N sc ts xs
  | _, _ => false
def chkGs (N : List Str) (sc : Scope) : Tgs → List Expr → Bool
  | .nil, [] => true
  | .cons t ts, x :: xs => chkG N sc t x && chkGs N sc ts xs
  | _, _ => false
end
/-- a comprehension's own names with their slots -/
def ownOf (N : List Str) (is : List Nat) : List (Str × Nat) := is.filterMap fun i => (N[i]?).map fun x => (x, i)

mutual
def chkE (N : List Str) : Scope → E → Expr → Bool
  | sc, .var i, ex => match ex with
    | .Name x _ => isVar N sc i x
    | _ => false
  | _, .int i, ex => match ex with
    | .Constant (.int j) _ _ => decide (j = i)
    | _ => false
  | _, .str t, ex => match ex with
    | .Constant (.str x) _ _ => decide (x = txt t)
    | _ => false
  | _, .bl b, ex => match ex with
    | .Constant (.bool c) _ _ => c == b
    | _ => false
  | _, .non, ex => match ex with
    | .Constant .none _ _ => true
    | _ => false
  | sc, .glob g, ex => match ex with
    | .Name x _ => decide (x = Str.ofString g) && gl sc x && plainName x
    | _ => false
  | sc, .bin o a b, ex => match ex with
    | .BinOp x p y _ => isBop o p && chkE N sc a x && chkE N sc b y
    | _ => false
  | sc, .neg a, ex => match ex with
    | .UnaryOp .USub x _ => chkE N sc a x
    | _ => false
  | sc, .inv a, ex => match ex with
    | .UnaryOp .Invert x _ => chkE N sc a x
    | _ => false
  | sc, .not a, ex => match ex with
    | .UnaryOp .Not x _ => chkE N sc a x
    | _ => false
  | sc, .cmp o a b, ex => match ex with
    | .Compare x [p] [y] _ => isCop o p && chkE N sc a x && chkE N sc b y
    | _ => false
  | sc, .chain o1 o2 a b c, ex => match ex with
    | .Compare x [p, q] [y, z] _ => isCop o1 p && isCop o2 q && chkE N sc a x && chkE N sc b y && chkE N sc c z
    | _ => false
  | sc, .and es, ex => match ex with
    | .BoolOp .And xs _ => !xs.isEmpty && chkEs N sc es xs
    | _ => false
  | sc, .or es, ex => match ex with
    | .BoolOp .Or xs _ => !xs.isEmpty && chkEs N sc es xs
    | _ => false
  | sc, .ite t a b, ex => match ex with
    | .IfExp x y z _ => chkE N sc t x && chkE N sc a y && chkE N sc b z
    | _ => false
  | sc, .tup es, ex => match ex with
    | .Tuple xs _ _ => chkEs N sc es xs
    | _ => false
  | sc, .list es, ex => match ex with
    | .List xs _ => chkEs N sc es xs
    | _ => false
  | sc, .ix a i, ex => match ex with
    | .Subscript x y _ => chkE N sc a x && chkE N sc i y
    | _ => false
  | sc, .slice a lo hi, ex => match ex with
    | .Subscript x (.Slice (some l) (some h) none _) _ => chkE N sc a x && chkE N sc lo l && chkE N sc hi h
    | _ => false
  | sc, .slice0 a hi, ex => match ex with
    | .Subscript x (.Slice none (some h) none _) _ => chkE N sc a x && chkE N sc hi h
    | _ => false
  | sc, .slice1 a lo, ex => match ex with
    | .Subscript x (.Slice (some l) none none _) _ => chkE N sc a x && chkE N sc lo l
    | _ => false
  | sc, .rev a, ex => match ex with
    | .Subscript x (.Slice none none (some m) _) _ => isMinus1 m && chkE N sc a x
    | _ => false
  | sc, .call f es, ex => match ex with
    | .Call (.Name x _) xs [] _ => decide (x = Str.ofString f) && gl sc x && plainName x && chkEs N sc es xs
    | _ => false
  | sc, .blt f es, ex => match ex with
    | .Call (.Name x _) xs [] _ => isBlt sc (bltName f) x && chkEs N sc es xs
    | _ => false
  | sc, .isi t a, ex => match ex with
    | .Call (.Name x _) [y, .Name z _] [] _ => isBlt sc "isinstance" x && isBlt sc (tyName t) z && chkE N sc a y
    | _ => false
  | sc, .meth m a es, ex => match ex with
    | .Call (.Attribute x n p) xs [] q => decide (n = mtName m) && (p.endLine == q.line) && notCall0 x && decide (xs.length < 20) && chkE N sc a x && chkEs N sc es xs
    | _ => false
  | sc, .lc elt tg it ifs, ex => match ex with
    | .ListComp x [⟨t, i, fs, 0⟩] scope _ => L2.blkC N sc scope (ownOf N (slotsT tg)) && decide ((slotsT tg).all fun i => decide (i < N.length)) && chkG N scope tg t && chkI N sc it i && chkEs N scope ifs fs && chkE N scope elt x
    | _ => false
  | sc, .frz a, ex => chkE N sc a ex
def chkEs (N : List Str) : Scope → Es → List Expr → Bool
  | _, .nil, xs => match xs with
    | [] => true
    | _ => false
  | sc, .cons e es, xs => match xs with
    | x :: xs => chkE N sc e x && chkEs N sc es xs
    | _ => false
def chkI (N : List Str) : Scope → It → Expr → Bool
  | sc, .val e, ex => (match ex with | .Set _ _ _ => false | _ => true) && chkE N sc e ex
  | sc, .range es, ex => match ex with
    | .Call (.Name x _) xs [] _ => isBlt sc "range" x && decide (xs.length ≤ 3) && chkEs N sc es xs
    | _ => false
  | sc, .enum e, ex => match ex with
    | .Call (.Name x _) [y] [] _ => isBlt sc "enumerate" x && chkE N sc e y
    | _ => false
  | sc, .zip a b, ex => false
end
/-- the value is no comprehension, or the name is on the comprehension's line -/
def isLC : Expr → Bool
  | .ListComp .. => true
  | _ => false
def isTuple : Expr → Bool
  | .Tuple .. => true
  | _ => false
/-- a pair that is stored from the right -/
def okPar (a b : Expr) : Bool := !([a, b].any fun | .Starred .. => true | _ => false) && !([a, b].all (foldedForSure 8)) && !([a, b].all (constantsAlone 8))
/-- isinstance(e, C) of the exception in slot i -/
def chkIsi (N : List Str) (sc : Scope) (i : Nat) (c : String) : Expr → Bool
  | .Call (.Name f _) [.Name y _, .Name z _] [] _ => isBlt sc "isinstance" f && isVar N sc i y && decide (z = Str.ofString c) && gl sc z && plainName z
  | _ => false
def chkNames (sc : Scope) : List String → List Expr → Bool
  | [], xs => match xs with
    | [] => true
    | _ => false
  | c :: cs, xs => match xs with
    | .Name z _ :: xs => decide (z = Str.ofString c) && gl sc z && plainName z && chkNames sc cs xs
    | _ => false
mutual
def chkH (N : List Str) (sc : Scope) (i : Nat) : HE → Expr → Bool
  | .str t, ex => match ex with
    | .Constant (.str x) _ _ => decide (x = txt t)
    | _ => false
  | .non, ex => match ex with
    | .Constant .none _ _ => true
    | _ => false
  | .bl b, ex => match ex with
    | .Constant (.bool c) _ _ => c == b
    | _ => false
  | .var j, ex => match ex with
    | .Name x _ => isVar N sc j x
    | _ => false
  | .isi c, ex => chkIsi N sc i c ex
  | .isis cs, ex => match ex with
    | .Call (.Name f _) [.Name y _, .Tuple zs _ _] [] _ => isBlt sc "isinstance" f && isVar N sc i y && chkNames sc cs zs && !cs.isEmpty
    | _ => false
  | .kinds f, ex => match ex with
    | .Call (.Name x _) [.Name y _] [] _ => decide (x = Str.ofString f) && gl sc x && plainName x && isVar N sc i y
    | _ => false
  | .tup es, ex => match ex with
    | .Tuple xs _ _ => chkHs N sc i es xs
    | _ => false
def chkHs (N : List Str) (sc : Scope) (i : Nat) : HEs → List Expr → Bool
  | .nil, xs => match xs with
    | [] => true
    | _ => false
  | .cons e es, xs => match xs with
    | x :: xs => chkH N sc i e x && chkHs N sc i es xs
    | _ => false
end
def chkHS (N : List Str) (sc : Scope) (i : Nat) : List HS → List Stmt → Bool
  | [], xs => match xs with
    | [] => true
    | _ => false
  | .set j e :: r, xs => match xs with
    | .Assign [.Name x _] ex _ :: xs => isSet N sc j x && decide (i ≠ j) && chkH N sc i e ex && chkHS N sc i r xs
    | _ => false
  | .ret e :: r, xs => match xs with
    | [.Return (some ex) _] => chkH N sc i e ex && r.isEmpty
    | _ => false
mutual
def chkS (N : List Str) (sc : Scope) : S → Stmt → Bool
  | .set i e, st => match st with
    | .Assign [.Name x p] ex q => isSet N sc i x && chkE N sc e ex && (!isLC ex || decide (sc.names.lookup x = some .cell) || (decide (sc.names.lookup x = some .local) && (p.line == ex.pos.line) && (match ex with
        | .ListComp _ _ scope _ => !(scope.names.any fun (n, k) => n == x && (k == .local || k == .cell))
        | _ => false)))
    | _ => false
  | .par i j a b, st => match st with
    | .Assign [.Tuple [.Name x px, .Name y py] _ _] (.Tuple [ea, eb] _ _) _ => isSet N sc i x && isSet N sc j y && decide (i ≠ j) && decide (sc.names.lookup x = some .local) && decide (sc.names.lookup y = some .local) && (px.line == py.line) && decide (x ≠ y) && chkE N sc a ea && chkE N sc b eb && okPar ea eb
    | _ => false
  | .asg tg e, st => match st with
    | .Assign [.Tuple ts k p] ex _ => chkG N sc tg (.Tuple ts k p) && chkE N sc e ex && !isLC ex && !isTuple ex
    | _ => false
  | .setix a i v, st => match st with
    | .Assign [.Subscript x y _] ex _ => chkE N sc a x && chkE N sc i y && chkE N sc v ex && !isLC ex
    | _ => false
  | .ex e, st => match st with
    | .Expr ex _ => chkE N sc e ex && !isLC ex
    | _ => false
  | .ret e, st => match st with
    | .Return (some ex) _ => chkE N sc e ex
    | _ => false
  | .retN, st => match st with
    | .Return none _ => true
    | _ => false
  | .ife t a b, st => match st with
    | .If x y z _ => chkE N sc t x && chkSs N sc a y && chkSs N sc b z
    | _ => false
  | .forr tg it b, st => match st with
    | .For t i y [] _ => chkG N sc tg t && chkI N sc it i && chkSs N sc b y
    | _ => false
  | .whil t b, st => match st with
    | .While x y [] _ => chkE N sc t x && chkSs N sc b y
    | _ => false
  | .rais c, st => match st with
    | .Raise (some (.Call (.Name x _) [.Constant (.str _) _ _] [] _)) none _ => decide (x = Str.ofString c) && gl sc x && plainName x
    | _ => false
  | .trye b c i h, st => match st with
    | .Try x [.ExceptHandler (some (.Name y _)) (some n) (z :: zs) _] [] [] _ => chkSs N sc b x && decide (y = Str.ofString c) && gl sc y && plainName y && decide (N[i]? = some n) && decide (sc.names.lookup n = some .local) && chkHS N sc i h (z :: zs)
    | _ => false
  | .pass, st => match st with
    | .Pass _ => true
    | _ => false
  | .cont, st => match st with
    | .Continue _ => true
    | _ => false
def chkSs (N : List Str) (sc : Scope) : Ss → List Stmt → Bool
  | .nil, xs => match xs with
    | [] => true
    | _ => false
  | .cons s ss, xs => match xs with
    | x :: xs => chkS N sc s x && chkSs N sc ss xs
    | _ => false
end
/-- a def that tells of which classes an exception is -/
structure Kd where
  p : String
  x : String
  g0 : List String
  g1 : List String
  g2 : List String
  c3 : String
def Kd.cs (d : Kd) : List String := d.g0 ++ d.g1 ++ d.g2 ++ [d.c3]
def Kd.N (d : Kd) : List Str := [Str.ofString d.p, Str.ofString d.x]
def chkIsis (N : List Str) (sc : Scope) (i : Nat) : List String → List Expr → Bool
  | [], xs => match xs with
    | [] => true
    | _ => false
  | c :: cs, xs => match xs with
    | x :: xs => chkIsi N sc i c x && chkIsis N sc i cs xs
    | _ => false
def chkKd0 (N : List Str) (sc : Scope) (d : Kd) : List Stmt → Bool
  | [.Assign [.Name x0 _] (.List e0 _) _, .Assign [.Name x1 _] (.BinOp (.Name y1 _) .Add (.List e1 _) _) _, .Assign [.Name x2 _] (.BinOp (.Name y2 _) .Add (.List e2 _) _) _,
      .Expr (.Call (.Attribute (.Name y3 _) m p) [e3] [] q) _, .Return (some (.Call (.Name t _) [.Name y4 _] [] _)) _] =>
    isSet N sc 1 x0 && isSet N sc 1 x1 && isSet N sc 1 x2 && isVar N sc 1 y1 && isVar N sc 1 y2 && isVar N sc 1 y3 && isVar N sc 1 y4 && decide (m = "append") && (p.endLine == q.line) && isBlt sc "tuple" t &&
      chkIsis N sc 0 d.g0 e0 && chkIsis N sc 0 d.g1 e1 && chkIsis N sc 0 d.g2 e2 && chkIsi N sc 0 d.c3 e3
  | _ => false
def chkScope (N P : List Str) (sc : Scope) : Bool := decide (sc.kind = .function) && !sc.isCoroutine && !sc.isGenerator && decide N.Nodup && decide (N.take P.length = P) && (P.all fun x => decide (sc.names.lookup x = some .local) || decide (sc.names.lookup x = some .cell)) &&
  sc.names.all fun y => decide (y.2 ≠ .free)
def chkKd (d : Kd) (st : Stmt) : Bool := chkKd0 d.N (L2.defScope st) d (L2.defBody st) && chkScope d.N [Str.ofString d.p] (L2.defScope st)
/-- a def's text is that of a core def -/
def chkF (F : Fn) (st : Stmt) : Bool := chkSs (F.ns.map Str.ofString) (L2.defScope st) F.body (L2.defBody st)
end Pv

/-! How core data stands in the model's heap. -/
namespace Pv
open PySem PySem.Spec PyProof.Rows L2

abbrev Frag := PySem.W.Frag
/-- a list that is shut -/
def FzL (K : Frag) (H : Hp) (a : Addr) (vs : List V) : Prop :=
  (∃ o, H a = some (.frz o (.lst vs))) ∨
    ∃ (o : Obj) (its : Array Value) (n : Nat), K.lookup a = some o ∧ o.cls = .type "list" ∧ o.dict = none ∧ o.data = .seq its n ∧ its.size ≤ sizeLine ∧ Vals vs its.toList
theorem FzL.sq {K : Frag} {H : Hp} {a : Addr} {vs : List V} (h : FzL K H a vs) : SqL K H a vs := by
  rcases h with ⟨o, h⟩ | h
  · exact .inl (.inr ⟨o, h⟩)
  · exact .inr h
mutual
inductive RepD (K : Frag) (H : Hp) : D → V → Prop
  | non : RepD K H .non .non
  | bl (b : Bool) : RepD K H (.bl b) (.bl b)
  | int (i : Int) : RepD K H (.int i) (.int i)
  | str (x : Tx) : RepD K H (.str x) (.str (txt x))
  | tup {a : Addr} {ds : List D} {vs : List V} : SqT K H a vs → RepDs K H ds vs → RepD K H (.tup ds) (.ref a)
  | lst {a : Addr} {ds : List D} {vs : List V} : FzL K H a vs → RepDs K H ds vs → RepD K H (.lst ds) (.ref a)
inductive RepDs (K : Frag) (H : Hp) : List D → List V → Prop
  | nil : RepDs K H [] []
  | cons {d : D} {v : V} {ds : List D} {vs : List V} : RepD K H d v → RepDs K H ds vs → RepDs K H (d :: ds) (v :: vs)
end
/-- what never changes stands -/
structure Stab (H H' : Hp) : Prop where
  tup : ∀ a vs, H a = some (.tup vs) → H' a = some (.tup vs)
  frz : ∀ a o u, H a = some (.frz o u) → H' a = some (.frz o u)
theorem Stab.refl (H : Hp) : Stab H H := ⟨fun _ _ h => h, fun _ _ _ h => h⟩
theorem Stab.trans {H H1 H2 : Hp} (a : Stab H H1) (b : Stab H1 H2) : Stab H H2 := ⟨fun c vs h => b.tup c vs (a.tup c vs h), fun c o u h => b.frz c o u (a.frz c o u h)⟩
theorem Stab.sqT {K : Frag} {H H' : Hp} (s : Stab H H') {a : Addr} {vs : List V} (h : SqT K H a vs) : SqT K H' a vs := by
  rcases h with (h | ⟨o, h⟩) | h
  · exact .inl (.inl (s.tup _ _ h))
  · exact .inl (.inr ⟨o, s.frz _ _ _ h⟩)
  · exact .inr h
theorem Stab.fzL {K : Frag} {H H' : Hp} (s : Stab H H') {a : Addr} {vs : List V} (h : FzL K H a vs) : FzL K H' a vs := by
  rcases h with ⟨o, h⟩ | h
  · exact .inl ⟨o, s.frz _ _ _ h⟩
  · exact .inr h
mutual
theorem RepD.mono {K : Frag} {H H' : Hp} (s : Stab H H') : ∀ {d : D} {v : V}, RepD K H d v → RepD K H' d v
  | _, _, .non => .non
  | _, _, .bl b => .bl b
  | _, _, .int i => .int i
  | _, _, .str x => .str x
  | _, _, .tup h r => .tup (s.sqT h) (RepDs.mono s r)
  | _, _, .lst h r => .lst (s.fzL h) (RepDs.mono s r)
theorem RepDs.mono {K : Frag} {H H' : Hp} (s : Stab H H') : ∀ {ds : List D} {vs : List V}, RepDs K H ds vs → RepDs K H' ds vs
  | _, _, .nil => .nil
  | _, _, .cons h r => .cons (RepD.mono s h) (RepDs.mono s r)
end
section
variable {K : Frag} {H H' : Hp}
theorem RepDs.length : ∀ {ds : List D} {vs : List V}, RepDs K H ds vs → ds.length = vs.length
  | _, _, .nil => rfl
  | _, _, .cons _ r => congrArg (· + 1) r.length
theorem RepDs.get : ∀ {ds : List D} {vs : List V} {i : Nat} {d : D}, RepDs K H ds vs → ds[i]? = some d → ∃ v, vs[i]? = some v ∧ RepD K H d v
  | _, _, 0, _, .cons h _, e => ⟨_, rfl, by cases e; exact h⟩
  | _, _, i + 1, _, .cons _ r, e => by
    obtain ⟨v, h1, h2⟩ := RepDs.get (i := i) r (by simpa using e)
    exact ⟨v, by simpa using h1, h2⟩
  | _, _, _, _, .nil, e => by simp at e
theorem RepDs.append : ∀ {ds es : List D} {vs us : List V}, RepDs K H ds vs → RepDs K H es us → RepDs K H (ds ++ es) (vs ++ us)
  | _, _, _, _, .nil, s => s
  | _, _, _, _, .cons r t, s => .cons r (RepDs.append t s)
theorem RepDs.set {d : D} {v : V} (r : RepD K H d v) : ∀ {ds : List D} {vs : List V} (i : Nat), RepDs K H ds vs → RepDs K H (ds.set i d) (vs.set i v)
  | _, _, _, .nil => .nil
  | _, _, 0, .cons _ t => .cons r t
  | _, _, i + 1, .cons q t => .cons q (RepDs.set r i t)
theorem RepDs.take : ∀ {ds : List D} {vs : List V} (n : Nat), RepDs K H ds vs → RepDs K H (ds.take n) (vs.take n)
  | _, _, 0, _ => by rw [List.take_zero, List.take_zero]; exact .nil
  | _, _, _ + 1, .nil => .nil
  | _, _, n + 1, .cons r t => .cons r (RepDs.take n t)
theorem RepDs.drop : ∀ {ds : List D} {vs : List V} (n : Nat), RepDs K H ds vs → RepDs K H (ds.drop n) (vs.drop n)
  | _, _, 0, r => r
  | _, _, _ + 1, .nil => .nil
  | _, _, n + 1, .cons _ t => RepDs.drop n t
theorem RepDs.eraseIdx : ∀ {ds : List D} {vs : List V} (n : Nat), RepDs K H ds vs → RepDs K H (ds.eraseIdx n) (vs.eraseIdx n)
  | _, _, _, .nil => .nil
  | _, _, 0, .cons _ t => t
  | _, _, n + 1, .cons r t => .cons r (RepDs.eraseIdx n t)
theorem RepDs.dropLast {ds : List D} {vs : List V} (r : RepDs K H ds vs) : RepDs K H ds.dropLast vs.dropLast := by
  rw [List.dropLast_eq_take, List.dropLast_eq_take, r.length]
  exact r.take _
theorem RepDs.reverse {ds : List D} {vs : List V} (r : RepDs K H ds vs) : RepDs K H ds.reverse vs.reverse := by
  induction ds generalizing vs with
  | nil => cases r; exact .nil
  | cons d ds ih =>
    cases r with
    | cons h t =>
      rw [List.reverse_cons, List.reverse_cons]
      exact (ih t).append (.cons h .nil)
theorem RepDs.rep {ds : List D} {vs : List V} (r : RepDs K H ds vs) : ∀ k : Nat, RepDs K H (List.replicate k ds).flatten (List.replicate k vs).flatten
  | 0 => .nil
  | k + 1 => by
    rw [List.replicate_succ, List.replicate_succ, List.flatten_cons, List.flatten_cons]
    exact r.append (r.rep k)
theorem RepDs.last {ds : List D} {vs : List V} {d : D} (r : RepDs K H ds vs) (e : ds.getLast? = some d) : ∃ v, vs[vs.length - 1]? = some v ∧ RepD K H d v := by
  rw [List.getLast?_eq_getElem?, r.length] at e
  exact r.get e
mutual
/-- what is read as data of the model -/
theorem RepD.dp : ∀ {d : D} {v : V}, RepD K H d v → Dp K H v (toPy d)
  | _, _, .non => .non
  | _, _, .bl b => .bl b
  | _, _, .int i => .int i
  | _, _, .str x => .str _
  | _, _, .tup h r => .tup h (RepDs.dp r)
  | _, _, .lst h r => .lst h.sq (RepDs.dp r)
theorem RepDs.dp : ∀ {ds : List D} {vs : List V}, RepDs K H ds vs → DpAll K H vs (toPys ds)
  | _, _, .nil => .nil
  | _, _, .cons h r => .cons (RepD.dp h) (RepDs.dp r)
end
theorem RepDs.txts : ∀ {ds : List D} {vs : List V} {ts : List Tx}, RepDs K H ds vs → allM txOf ds = some ts → vs = (ts.map txt).map V.str
  | _, _, ts, .nil, e => by cases e; rfl
  | _, _, ts, .cons (d := d) (ds := ds) h r, e => by
    unfold allM at e
    cases h with
    | str x =>
      simp only [txOf] at e
      cases q : allM txOf ds with
      | none => rw [q] at e; cases e
      | some as => rw [q] at e; cases e; rw [RepDs.txts r q]; rfl
    | _ => simp [txOf] at e
theorem RepDs.ints : ∀ {ds : List D} {vs : List V} {ts : List Int}, RepDs K H ds vs → allM intOf ds = some ts → vs = ts.map V.int
  | _, _, ts, .nil, e => by cases e; rfl
  | _, _, ts, .cons (d := d) (ds := ds) h r, e => by
    unfold allM at e
    cases h with
    | int x =>
      simp only [intOf] at e
      cases q : allM intOf ds with
      | none => rw [q] at e; cases e
      | some as => rw [q] at e; cases e; rw [RepDs.ints r q]; rfl
    | _ => simp [intOf] at e
theorem RepDs.bls : ∀ {ds : List D} {vs : List V} {ts : List Bool}, RepDs K H ds vs → allM blOf ds = some ts → vs = ts.map V.bl
  | _, _, ts, .nil, e => by cases e; rfl
  | _, _, ts, .cons (d := d) (ds := ds) h r, e => by
    unfold allM at e
    cases h with
    | bl x =>
      simp only [blOf] at e
      cases q : allM blOf ds with
      | none => rw [q] at e; cases e
      | some as => rw [q] at e; cases e; rw [RepDs.bls r q]; rfl
    | _ => simp [blOf] at e
theorem repStrs : ∀ ts : List Tx, RepDs K H (ts.map D.str) ((ts.map txt).map V.str)
  | [] => .nil
  | x :: xs => .cons (.str x) (repStrs xs)
theorem repInts : ∀ ts : List Int, RepDs K H (ts.map D.int) (ts.map V.int)
  | [] => .nil
  | x :: xs => .cons (.int x) (repInts xs)
end

/-! ### cells, values, frames -/
def RepC (K : Frag) (H : Hp) (a : Addr) : Cell → Prop
  | .lst ds => ∃ vs, H a = some (.lst vs) ∧ RepDs K H ds vs
  | .flst ds => ∃ o vs, H a = some (.frz o (.lst vs)) ∧ RepDs K H ds vs
/-- the cells' addresses; what is kept safe besides -/
structure Al where
  c : List Addr
  p : Addr → Prop
def Al.out (α : Al) (a : Addr) : Prop := a ∉ α.c ∧ ¬ α.p a
def Al.push (α : Al) (a : Addr) : Al := ⟨α.c ++ [a], α.p⟩
def Al.take (α : Al) (n : Nat) : Al := ⟨α.c.take n, α.p⟩
/-- the cells stand at the addresses α -/
structure Rel (K : Frag) (α : Al) (H : Hp) (st : Store) : Prop where
  len : α.c.length = st.length
  nd : α.c.Nodup
  cell : ∀ (i : Nat) (c : Cell) (a : Addr), st[i]? = some c → α.c[i]? = some a → RepC K H a c
  prot : ∀ a, α.p a → H a ≠ none ∧ a ∉ α.c
def RepV (K : Frag) (α : Al) (H : Hp) : Val → V → Prop
  | .d d, v => RepD K H d v
  | .ref i, v => ∃ a, α.c[i]? = some a ∧ v = .ref a
  | .new ds, v => ∃ a vs, v = .ref a ∧ H a = some (.lst vs) ∧ α.out a ∧ RepDs K H ds vs
/-- .. as it is held while other things are reckoned: a new list may be shut meanwhile -/
def RepW (K : Frag) (α : Al) (H : Hp) : Val → V → Prop
  | .d d, v => RepD K H d v
  | .ref i, v => ∃ a, α.c[i]? = some a ∧ v = .ref a
  | .new ds, v => ∃ a vs, v = .ref a ∧ Rd H a (.lst vs) ∧ α.out a ∧ RepDs K H ds vs
theorem RepV.weak {K : Frag} {α : Al} {H : Hp} {v : Val} {u : V} (h : RepV K α H v u) : RepW K α H v u := by
  cases v with
  | d d => exact h
  | ref i => exact h
  | new ds =>
    obtain ⟨a, vs, e, h, n, r⟩ := h
    exact ⟨a, vs, e, .inl h, n, r⟩
inductive RepVs (K : Frag) (α : Al) (H : Hp) : List Val → List V → Prop
  | nil : RepVs K α H [] []
  | cons {x : Val} {v : V} {xs : List Val} {vs : List V} : RepW K α H x v → RepVs K α H xs vs → RepVs K α H (x :: xs) (v :: vs)
def isNew : Val → Bool
  | .new _ => true
  | _ => false
structure EnvR (K : Frag) (α : Al) (H : Hp) (env : Env) (σ : L2.St) : Prop where
  len : env.length = σ.length
  get : ∀ (i : Nat) (v : Val), env[i]? = some (some v) → isNew v = false ∧ ∃ u, σ[i]? = some (some u) ∧ RepW K α H v u
/-- from one heap to a later one -/
structure Ext (α : Al) (H : Hp) (α' : Al) (H' : Hp) : Prop where
  pre : ∃ β, α'.c = α.c ++ β
  pp : α'.p = α.p
  fresh : ∀ a, a ∈ α'.c → a ∉ α.c → H a = none
  prt : ∀ a u, α.p a → a ∉ α.c → H a = some u → H' a = some u
  oth : ∀ a u, α.out a → H a = some u → H' a = some u ∨ ∃ vs o, u = .lst vs ∧ H' a = some (.frz o (.lst vs))
  stab : Stab H H'
theorem Ext.refl (α : Al) (H : Hp) : Ext α H α H := ⟨⟨[], by simp⟩, rfl, fun _ h n => absurd h n, fun _ _ _ _ h => h, fun _ _ _ h => .inl h, Stab.refl H⟩
theorem Ext.has1 {α β : Al} {H H1 : Hp} (a : Ext α H β H1) {c : Addr} {u : HO} (n : c ∉ α.c) (h : H c = some u) : H1 c = some u ∨ ∃ vs o, u = .lst vs ∧ H1 c = some (.frz o (.lst vs)) := by
  by_cases p : α.p c
  · exact .inl (a.prt c u p n h)
  · exact a.oth c u ⟨n, p⟩ h
/-- an address that stands is no new cell's -/
theorem Ext.notc {α β : Al} {H H1 : Hp} (a : Ext α H β H1) {c : Addr} {u : HO} (hn : c ∉ α.c) (h : H c = some u) : c ∉ β.c := fun hx => by
  have := a.fresh c hx hn
  rw [h] at this
  cases this
theorem Ext.out {α β : Al} {H H1 : Hp} (a : Ext α H β H1) {c : Addr} {u : HO} (hn : α.out c) (h : H c = some u) : β.out c := ⟨a.notc hn.1 h, by rw [a.pp]; exact hn.2⟩
theorem Ext.trans {α β γ : Al} {H H1 H2 : Hp} (a : Ext α H β H1) (b : Ext β H1 γ H2) : Ext α H γ H2 := by
  obtain ⟨x, ex⟩ := a.pre
  obtain ⟨y, ey⟩ := b.pre
  refine ⟨⟨x ++ y, by rw [ey, ex, List.append_assoc]⟩, b.pp.trans a.pp, fun c hc hn => ?_, fun c u hp hn h => ?_, fun c u hn h => ?_, a.stab.trans b.stab⟩
  · by_cases hx : c ∈ β.c
    · exact a.fresh c hx hn
    · cases q : H c with
      | none => rfl
      | some u =>
        have := b.fresh c hc hx
        rcases a.has1 hn q with z | ⟨vs, o, _, z⟩ <;> rw [z] at this <;> cases this
  · exact b.prt c u (by rw [a.pp]; exact hp) (a.notc hn h) (a.prt c u hp hn h)
  · rcases a.oth c u hn h with h1 | ⟨vs, o, e, h1⟩
    · exact b.oth c u (a.out hn h) h1
    · exact .inr ⟨vs, o, e, b.stab.frz _ _ _ h1⟩
section
variable {K : Frag} {α α' : Al} {H H' : Hp} {st : Store} {env : Env} {σ : L2.St}
theorem RepW.mono {v : Val} {u : V} (x : Ext α H α' H') (h : RepW K α H v u) : RepW K α' H' v u := by
  cases v with
  | d d => exact RepD.mono x.stab h
  | ref i =>
    obtain ⟨a, e, r⟩ := h
    obtain ⟨β, ex⟩ := x.pre
    refine ⟨a, ?_, r⟩
    have hl : i < α.c.length := by
      rcases Nat.lt_or_ge i α.c.length with q | q
      · exact q
      · rw [List.getElem?_eq_none q] at e; cases e
    rw [ex, List.getElem?_append_left hl]
    exact e
  | new ds =>
    obtain ⟨a, vs, e, h, n, r⟩ := h
    have rd : Rd H' a (.lst vs) := by
      rcases h with h | ⟨o, h⟩
      · rcases x.oth a _ n h with z | ⟨ws, o, e, z⟩
        · exact .inl z
        · cases e; exact .inr ⟨o, z⟩
      · exact .inr ⟨o, x.stab.frz _ _ _ h⟩
    have hn : α'.out a := by
      rcases h with h | ⟨o, h⟩ <;> exact x.out n h
    exact ⟨a, vs, e, rd, hn, RepDs.mono x.stab r⟩
theorem RepVs.mono (x : Ext α H α' H') : ∀ {vs : List Val} {us : List V}, RepVs K α H vs us → RepVs K α' H' vs us
  | _, _, .nil => .nil
  | _, _, .cons h r => .cons (h.mono x) (RepVs.mono x r)
theorem RepVs.length : ∀ {vs : List Val} {us : List V}, RepVs K α H vs us → vs.length = us.length
  | _, _, .nil => rfl
  | _, _, .cons _ r => congrArg (· + 1) r.length
theorem RepVs.get : ∀ {vs : List Val} {us : List V} {i : Nat} {v : Val}, RepVs K α H vs us → vs[i]? = some v → ∃ u, us[i]? = some u ∧ RepW K α H v u
  | _, _, 0, _, .cons h _, e => ⟨_, rfl, by cases e; exact h⟩
  | _, _, i + 1, _, .cons _ r, e => by
    obtain ⟨v, h1, h2⟩ := RepVs.get (i := i) r (by simpa using e)
    exact ⟨v, by simpa using h1, h2⟩
  | _, _, _, _, .nil, e => by simp at e
theorem EnvR.mono (x : Ext α H α' H') (h : EnvR K α H env σ) : EnvR K α' H' env σ :=
  ⟨h.len, fun i v e => let ⟨n, u, h1, h2⟩ := h.get i v e; ⟨n, u, h1, h2.mono x⟩⟩
theorem EnvR.set {v : Val} {u : V} (h : EnvR K α H env σ) (n : isNew v = false) (r : RepW K α H v u) (i : Nat) : EnvR K α H (env.set i (some v)) (σ.set i (some u)) := by
  refine ⟨by rw [List.length_set, List.length_set]; exact h.len, fun j w e => ?_⟩
  by_cases hj : i = j
  · subst hj
    have hl : i < env.length := by
      rcases Nat.lt_or_ge i env.length with q | q
      · exact q
      · rw [List.getElem?_eq_none (by rw [List.length_set]; exact q)] at e; cases e
    rw [List.getElem?_set_self hl] at e
    cases e
    exact ⟨n, u, List.getElem?_set_self (by rw [← h.len]; exact hl), r⟩
  · rw [List.getElem?_set_ne hj] at e
    obtain ⟨n', u', h1, h2⟩ := h.get j w e
    exact ⟨n', u', by rw [List.getElem?_set_ne hj]; exact h1, h2⟩
/-- fewer names known -/
theorem EnvR.sub {env' : Env} (h : EnvR K α H env σ) (hl : env'.length = env.length) (hs : ∀ (i : Nat) (v : Val), env'[i]? = some (some v) → env[i]? = some (some v)) : EnvR K α H env' σ :=
  ⟨hl.trans h.len, fun i v e => h.get i v (hs i v e)⟩
theorem Rel.at (r : Rel K α H st) {i : Nat} {c : Cell} (h : st[i]? = some c) : ∃ a, α.c[i]? = some a ∧ RepC K H a c := by
  have hl : i < st.length := by
    rcases Nat.lt_or_ge i st.length with q | q
    · exact q
    · rw [List.getElem?_eq_none q] at h; cases h
  have hl' : i < α.c.length := by rw [r.len]; exact hl
  exact ⟨α.c[i], List.getElem?_eq_getElem hl', r.cell i c _ h (List.getElem?_eq_getElem hl')⟩
theorem RepC.mono {a : Addr} {c : Cell} (s : Stab H H') (e : H' a = H a) (h : RepC K H a c) : RepC K H' a c := by
  cases c with
  | lst ds =>
    obtain ⟨vs, h, r⟩ := h
    exact ⟨vs, by rw [e]; exact h, r.mono s⟩
  | flst ds =>
    obtain ⟨o, vs, h, r⟩ := h
    exact ⟨o, vs, by rw [e]; exact h, r.mono s⟩
theorem RepC.items {a : Addr} {c : Cell} (h : RepC K H a c) : ∃ vs, SqL K H a vs ∧ RepDs K H c.items vs := by
  cases c with
  | lst ds =>
    obtain ⟨vs, h, r⟩ := h
    exact ⟨vs, .inl (.inl h), r⟩
  | flst ds =>
    obtain ⟨o, vs, h, r⟩ := h
    exact ⟨vs, .inl (.inr ⟨o, h⟩), r⟩
theorem nodup_get {l : List Addr} (n : l.Nodup) {i j : Nat} {a : Addr} (h1 : l[i]? = some a) (h2 : l[j]? = some a) : i = j := by
  induction l generalizing i j with
  | nil => simp at h1
  | cons x xs ih =>
    obtain ⟨n1, n2⟩ := List.nodup_cons.mp n
    cases i with
    | zero =>
      cases j with
      | zero => rfl
      | succ j =>
        simp at h1 h2
        subst h1
        exact absurd (List.mem_of_getElem? h2) n1
    | succ i =>
      cases j with
      | zero =>
        simp at h1 h2
        subst h2
        exact absurd (List.mem_of_getElem? h1) n1
      | succ j =>
        simp at h1 h2
        rw [ih n2 h1 h2]
/-- a cell is changed (a list at a) -/
theorem Rel.upd (r : Rel K α H st) {i : Nat} {a : Addr} {c : Cell} {o : HO} (ha : α.c[i]? = some a) (s : Stab H (upd H a o)) (hc : RepC K (upd H a o) a c) : Rel K α (upd H a o) (st.set i c) := by
  refine ⟨by rw [List.length_set]; exact r.len, r.nd, fun j d b h1 h2 => ?_, fun b hb => ⟨?_, (r.prot b hb).2⟩⟩
  rotate_left
  · by_cases e : b = a
    · rw [e, upd_same]; exact fun z => by cases z
    · rw [upd_ne e]; exact (r.prot b hb).1
  by_cases hj : i = j
  · subst hj
    rw [ha] at h2
    cases h2
    have hl : i < st.length := by
      rcases Nat.lt_or_ge i st.length with q | q
      · exact q
      · rw [List.getElem?_eq_none (by rw [List.length_set]; exact q)] at h1; cases h1
    rw [List.getElem?_set_self hl] at h1
    cases h1
    exact hc
  · rw [List.getElem?_set_ne hj] at h1
    have hb : b ≠ a := fun e => by subst e; exact hj (nodup_get r.nd ha h2)
    exact (r.cell j d b h1 h2).mono s (upd_ne hb)
theorem stab_upd {a : Addr} {vs : List V} {o : HO} (h : H a = some (.lst vs)) : Stab H (upd H a o) := by
  refine ⟨fun b us e => ?_, fun b p u e => ?_⟩
  · rw [upd_ne (fun z => by subst z; rw [h] at e; cases e)]; exact e
  · rw [upd_ne (fun z => by subst z; rw [h] at e; cases e)]; exact e
theorem stab_new {a : Addr} {o : HO} (h : H a = none) : Stab H (upd H a o) := by
  refine ⟨fun b us e => ?_, fun b p u e => ?_⟩
  · rw [upd_ne (ne_of_none e h)]; exact e
  · rw [upd_ne (ne_of_none e h)]; exact e
theorem ext_new {a : Addr} {o : HO} (h : H a = none) : Ext α H α (upd H a o) :=
  ⟨⟨[], by simp⟩, rfl, fun _ h n => absurd h n, fun b u _ _ e => by rw [upd_ne (ne_of_none e h)]; exact e, fun b u _ e => .inl (by rw [upd_ne (ne_of_none e h)]; exact e), stab_new h⟩
theorem ext_cell {a : Addr} {vs : List V} {o : HO} (ha : a ∈ α.c) (h : H a = some (.lst vs)) : Ext α H α (upd H a o) :=
  ⟨⟨[], by simp⟩, rfl, fun _ h n => absurd h n, fun b u _ n e => by rw [upd_ne (fun z => n (by rw [z]; exact ha))]; exact e, fun b u n e => .inl (by rw [upd_ne (fun z => n.1 (by rw [z]; exact ha))]; exact e), stab_upd h⟩
/-- a new list is shut -/
theorem ext_other {a : Addr} {vs : List V} {o : Obj} (n : α.out a) (h : H a = some (.lst vs)) : Ext α H α (upd H a (.frz o (.lst vs))) :=
  ⟨⟨[], by simp⟩, rfl, fun _ h n => absurd h n, fun b u hp _ e => by rw [upd_ne (fun z => n.2 (by rw [← z]; exact hp))]; exact e, fun b u n e => by
    by_cases hb : b = a
    · subst hb
      rw [h] at e
      cases e
      exact .inr ⟨vs, o, rfl, upd_same⟩
    · exact .inl (by rw [upd_ne hb]; exact e), stab_upd h⟩
theorem upd_some {a b : Addr} {o : HO} (h : H b ≠ none) : L2.upd H a o b ≠ none := by
  by_cases e : b = a
  · rw [e, upd_same]; exact fun z => by cases z
  · rw [upd_ne e]; exact h
theorem Rel.ext_new (r : Rel K α H st) {a : Addr} {o : HO} (h : H a = none) : Rel K α (L2.upd H a o) st := by
  refine ⟨r.len, r.nd, fun j d b h1 h2 => (r.cell j d b h1 h2).mono (stab_new h) ?_, fun b hb => ⟨upd_some (r.prot b hb).1, (r.prot b hb).2⟩⟩
  refine upd_ne fun e => ?_
  subst e
  have := r.cell j d b h1 h2
  cases d with
  | lst ds => obtain ⟨vs, e, _⟩ := this; rw [h] at e; cases e
  | flst ds => obtain ⟨o, vs, e, _⟩ := this; rw [h] at e; cases e
theorem Rel.has (r : Rel K α H st) {a : Addr} (hm : a ∈ α.c) : H a ≠ none := fun h => by
  obtain ⟨j, hj⟩ := List.getElem?_of_mem hm
  have hl : j < st.length := by
    rw [← r.len]
    rcases Nat.lt_or_ge j α.c.length with q | q
    · exact q
    · rw [List.getElem?_eq_none q] at hj; cases hj
  have := r.cell j _ a (List.getElem?_eq_getElem hl) hj
  cases c : st[j] with
  | lst ds => rw [c] at this; obtain ⟨vs, e, _⟩ := this; rw [h] at e; cases e
  | flst ds => rw [c] at this; obtain ⟨o, vs, e, _⟩ := this; rw [h] at e; cases e
theorem Rel.notIn (r : Rel K α H st) {a : Addr} (h : H a = none) : α.out a := ⟨fun hm => r.has hm h, fun hp => (r.prot a hp).1 h⟩
/-- some other address, that is no cell, is changed -/
theorem Rel.other (r : Rel K α H st) {a : Addr} {o : HO} (n : α.out a) (s : Stab H (L2.upd H a o)) : Rel K α (L2.upd H a o) st :=
  ⟨r.len, r.nd, fun j d b h1 h2 => (r.cell j d b h1 h2).mono s (upd_ne fun e => n.1 (by rw [← e]; exact List.mem_of_getElem? h2)), fun b hb => ⟨upd_some (r.prot b hb).1, (r.prot b hb).2⟩⟩
/-- a new cell -/
theorem Rel.push (r : Rel K α H st) {a : Addr} {c : Cell} (n : α.out a) (hc : RepC K H a c) : Rel K (α.push a) H (st ++ [c]) := by
  refine ⟨by show (α.c ++ [a]).length = _; rw [List.length_append, List.length_append, r.len]; rfl, ?_, fun j d b h1 h2 => ?_, fun b hb => ⟨(r.prot b hb).1, fun hm => ?_⟩⟩
  · show (α.c ++ [a]).Nodup
    rw [List.nodup_append]
    refine ⟨r.nd, List.nodup_cons.mpr ⟨by simp, List.nodup_nil⟩, fun x hx y hy e => ?_⟩
    have : y = a := by simpa using hy
    subst this
    subst e
    exact n.1 hx
  · have h2 : (α.c ++ [a])[j]? = some b := h2
    by_cases hj : j < st.length
    · rw [List.getElem?_append_left hj] at h1
      rw [List.getElem?_append_left (by rw [r.len]; exact hj)] at h2
      exact r.cell j d b h1 h2
    · have hj' : st.length ≤ j := by omega
      rw [List.getElem?_append_right hj'] at h1
      rw [List.getElem?_append_right (by rw [r.len]; exact hj'), r.len] at h2
      cases q : j - st.length with
      | zero =>
        rw [q] at h1 h2
        simp at h1 h2
        subst h1 h2
        exact hc
      | succ k =>
        rw [q] at h1
        simp at h1
  · have hm : b ∈ α.c ++ [a] := hm
    rcases List.mem_append.mp hm with q | q
    · exact (r.prot b hb).2 q
    · have : b = a := by simpa using q
      subst this
      exact n.2 hb
theorem Rel.take (r : Rel K α H st) (n : Nat) : Rel K (α.take n) H (st.take n) := by
  refine ⟨by show (α.c.take n).length = _; rw [List.length_take, List.length_take, r.len], r.nd.sublist (List.take_sublist n α.c), fun j d b h1 h2 => ?_, fun b hb => ⟨(r.prot b hb).1, fun hm => (r.prot b hb).2 (List.mem_of_mem_take hm)⟩⟩
  have h2 : (α.c.take n)[j]? = some b := h2
  rw [List.getElem?_take] at h1 h2
  split at h1
  · rename_i hj
    rw [if_pos hj] at h2
    exact r.cell j d b h1 h2
  · cases h1
/-- other things are kept safe -/
theorem Rel.keep (r : Rel K α H st) {p : Addr → Prop} (h : ∀ a, p a → H a ≠ none ∧ a ∉ α.c) : Rel K ⟨α.c, p⟩ H st := ⟨r.len, r.nd, r.cell, h⟩
theorem EnvR.keep (h : EnvR K α H env σ) (p : Addr → Prop) : EnvR K ⟨α.c, p⟩ H env σ := by
  refine ⟨h.len, fun i v e => ?_⟩
  obtain ⟨n, u, h1, h2⟩ := h.get i v e
  refine ⟨n, u, h1, ?_⟩
  cases v with
  | d d => exact h2
  | ref i => exact h2
  | new ds => cases n
end
end Pv

/-! The judgements, and the operators' soundness. -/
namespace Pv
open PySem PySem.Spec PyProof.Rows L2

/-! ### the weakest readings -/
section
variable (X : Cx)
def SE (e : Expr) : TE := fun σ H Q => ∃ t, PE X e t ∧ t σ H Q
def SA (es : List Expr) : TA := fun σ H Q => ∃ t, PA X es t ∧ t σ H Q
def ST (e : Expr) : TT := fun σ H Q => ∃ t, PT X e t ∧ t σ H Q
def SW (e : Expr) : TT := fun σ H Q => ∃ t, PW X e t ∧ t σ H Q
def SC (es : List Expr) : TT := fun σ H Q => ∃ t, PTs X es t ∧ t σ H Q
def SS (s : Stmt) : TS := fun D σ H => ∃ t, PS X s t ∧ t D σ H
def SSs (s : List Stmt) : TS := fun D σ H => ∃ t, PSs X s t ∧ t D σ H
def SG (e : Expr) : TG := fun v σ H Q => ∃ t, PG X e t ∧ t v σ H Q
def SGs (es : List Expr) : TGs := fun v σ H Q => ∃ t, PGs X es t ∧ t v σ H Q
def SI (tg e : Expr) : TI := fun σ H R => ∃ t, PI X tg e t ∧ t σ H R
end
section
variable {X : Cx}
theorem pe_SE {e : Expr} : PE X e (SE X e) := ⟨fun pins s σ H Q I ⟨_, p, h⟩ => p.run pins s σ H Q I h⟩
theorem pa_SA {es : List Expr} : PA X es (SA X es) := ⟨fun pos pins s σ H Q I ⟨_, p, h⟩ => p.run pos pins s σ H Q I h⟩
theorem pt_ST {e : Expr} : PT X e (ST X e) := ⟨fun pins s σ H Q I ⟨_, p, h⟩ => p.run pins s σ H Q I h⟩
theorem pw_SW {e : Expr} : PW X e (SW X e) := ⟨fun wh pins s σ H Q I ⟨_, p, h⟩ => p.run wh pins s σ H Q I h⟩
theorem pts_SC {es : List Expr} : PTs X es (SC X es) := ⟨fun pins s σ H Q I ⟨_, p, h⟩ => p.run pins s σ H Q I h⟩
theorem ps_SS {s : Stmt} : PS X s (SS X s) := ⟨fun pins st σ H D I ⟨_, p, h⟩ => p.run pins st σ H D I h⟩
theorem pss_SSs {s : List Stmt} : PSs X s (SSs X s) := ⟨fun pins st σ H D I ⟨_, p, h⟩ => p.run pins st σ H D I h⟩
theorem pg_SG {e : Expr} : PG X e (SG X e) := ⟨fun pins s σ H v u Q I r ⟨_, p, h⟩ => p.run pins s σ H v u Q I r h⟩
theorem pgs_SGs {es : List Expr} : PGs X es (SGs X es) := ⟨fun pins s σ H vs us Q I r ⟨_, p, h⟩ => p.run pins s σ H vs us Q I r h⟩
theorem pi_SI {tg e : Expr} : PI X tg e (SI X tg e) := ⟨fun pins s σ H R I ⟨_, p, h⟩ => p.run pins s σ H R I h⟩
end

/-! ### what is wanted of a result -/
def PostR {α : Type} (K : Frag) (mg : Str → Option Value) (al : Al) (H : Hp) (Ex : Value → Hp → Prop) (P : α → Store → Hp → Prop) : R α → Prop
  | .ok v s => ∀ H', Rel K al H' s → Ext al H al H' → P v s H'
  | .exc c s => ∀ H' C, Rel K al H' s → Ext al H al H' → mg (Str.ofString c) = some C → Ex C H'
  | .err => False
section
variable {α β : Type} {K : Frag} {mg : Str → Option Value} {al : Al} {H H1 : Hp} {Ex : Value → Hp → Prop}
theorem PostR.bind {P : β → Store → Hp → Prop} {r : R α} {f : α → Store → R β} (h : PostR K mg al H Ex P (r.bind f)) : PostR K mg al H Ex (fun v s H1 => PostR K mg al H1 Ex P (f v s)) r := by
  cases r with
  | ok v s =>
    intro H1 r1 x1
    have h : PostR K mg al H Ex P (f v s) := h
    show PostR K mg al H1 Ex P (f v s)
    cases e : f v s with
    | ok w s2 => rw [e] at h; exact fun H2 r2 x2 => h H2 r2 (x1.trans x2)
    | exc c s2 => rw [e] at h; exact fun H2 C r2 x2 m => h H2 C r2 (x1.trans x2) m
    | err => rw [e] at h; exact h
  | exc c s => exact h
  | err => exact h
theorem PostR.imp {P P' : α → Store → Hp → Prop} {r : R α} (h : PostR K mg al H Ex P r) (f : ∀ v s H', Rel K al H' s → Ext al H al H' → P v s H' → P' v s H') : PostR K mg al H Ex P' r := by
  cases r with
  | ok v s => exact fun H' r x => f v s H' r x (h H' r x)
  | exc c s => exact h
  | err => exact h
theorem PostR.ext {P : α → Store → Hp → Prop} {r : R α} (x1 : Ext al H al H1) (h : PostR K mg al H Ex P r) : PostR K mg al H1 Ex P r := by
  cases r with
  | ok v s => exact fun H2 r2 x2 => h H2 r2 (x1.trans x2)
  | exc c s => exact fun H2 C r2 x2 m => h H2 C r2 (x1.trans x2) m
  | err => exact h
end

/-! ### the context -/
def bltNames : List Str := ["len", "tuple", "list", "sorted", "max", "min", "sum", "abs", "int", "ord", "str", "any", "all", "isinstance", "bool", "range", "enumerate", "zip", "set", "dict"]
/-- a body's (or a block's) context stands -/
structure Good (N : List Str) (sc : Scope) (k : Nat) (X : Cx) : Prop where
  n : X.N = N
  nd : N.Nodup
  calm : X.calm = true
  room : Room k X.A
  vis : ∀ x, vis sc x = true → Vis X.env.scope x
  loc : ∀ x, locl sc x = true → Loc X.env.scope x ∧ (X.fn x = true ∨ X.env.scope.names.lookup x = some .local)
  lcl : ∀ x, sc.names.lookup x = some .local → X.env.scope.names.lookup x = some .local
  cel : ∀ x, sc.names.lookup x = some .cell → X.env.scope.names.lookup x = some .cell
  gl : ∀ x, gl sc x = true → Gl X x
  fre : ∀ x, (sc.names.lookup x = some .cell ∨ sc.names.lookup x = some .free) → X.env.scope.names.lookup x = some .cell ∨ X.env.scope.names.lookup x = some .free
  knd : X.env.scope.kind = .function
/-- a def's promise: the core's call -/
def spOf (K : Frag) (mg : Str → Option Value) (call : String → List Val → Store → R Val) (f : String) : Sp := fun vs H Q E =>
  ∃ (al : Al) (args : List Val) (st : Store), Rel K al H st ∧ RepVs K al H args vs ∧ (∀ a ∈ args, isNew a = false) ∧
    PostR K mg al H (fun C H' => E C none H') (fun v _ H' => ∀ u, RepV K al H' v u → Q u H') (call f args st)
/-- the class that a name stands for -/
inductive ClsV (mg : Str → Option Value) (x : Str) : V → Value → Prop
  | own (C : Addr) : mg x = some (.ref C) → ClsV mg x (.ref C) (.ref C)
  | blt (T : String) : mg x = none → bootBuiltins x = some (.type T) → x ≠ "__name__" → ClsV mg x (.ty T) (.type T)
/-- what the program's top has left -/
structure Tab (cx : Cxt) (k : Nat) (P : Program) (w : World) (K : Frag) (mg : Str → Option Value) (base : Heap) : Prop where
  fn : ∀ f, cx.has f = true → ∃ fa fd ps, mg (Str.ofString f) = some (.ref fa) ∧ PySem.W.keepIn K (.ref fa) = true ∧ Binds K fd ps [] ∧ FnOk P w K mg base (L2.CX P w) k fa fd ps (spOf K mg cx.call f)
  glob : ∀ g d, cx.glob g = some d → ∃ v u, mg (Str.ofString g) = some u ∧ RelV v u ∧ ∀ H, RepD K H d v
  blt : ∀ n ∈ bltNames, mg n = none
  isx : ∀ c, cx.isx c = true → ∃ C, mg (Str.ofString c) = some (.ref C) ∧ PySem.W.excIn K C [.type "ValueError", .type "Exception", .type "BaseException", .type "object"] "ValueError.__new__" = true ∧ PySem.W.keepIn K (.ref C) = true ∧ PySem.W.subIn K (.ref C) (.type "BaseException") = some true ∧ PySem.W.typeIn K (.ref C) = some (.type "type")
  sub : ∀ c t b, cx.sub c t = some b → ∃ C v u, mg (Str.ofString c) = some (.ref C) ∧ ExcC K C ∧ ClsV mg (Str.ofString t) v u ∧ PySem.W.kitOne K (.ref C) u = some b
  hnd : ∀ c t b, cx.hnd c t = some b → ∃ C D, mg (Str.ofString c) = some (.ref C) ∧ mg (Str.ofString t) = some (.ref D) ∧ PySem.W.exmOne K (.ref C) (.ref D) = some b
  knd : ∀ f cs, cx.knd f = some cs → ∃ (d : Kd) (fa : Addr) (fd : FuncData) (qual : Str) (st : Stmt), cs = d.cs ∧ mg (Str.ofString f) = some (.ref fa) ∧ Fun K (Str.ofString f) qual st fa fd ∧ chkKd d st = true ∧ Binds K fd [Str.ofString d.p] []

section
variable {N : List Str} {sc : Scope} {k : Nat} {X : Cx}
theorem plain1 {x : Str} (h : plainName x = true) : (x == ("__debug__" : Str)) = false ∧ (x == ("__classdict__" : Str)) = false ∧ x ≠ "__name__" := by
  unfold plainName at h
  simp only [Bool.and_eq_true, Bool.not_eq_true'] at h
  exact ⟨h.1.1, h.1.2, fun e => by have := h.2; rw [e] at this; simp at this⟩
theorem Good.var (g : Good N sc k X) {i : Nat} {x : Str} {p : Pos} (h : isVar N sc i x = true) : PE X (.Name x p) (tVar i) := by
  unfold isVar at h
  simp only [Bool.and_eq_true, decide_eq_true_eq] at h
  obtain ⟨h1, h2, _⟩ := plain1 h.2
  exact pe_var (by rw [g.n]; exact h.1.1) (g.vis x h.1.2) h1 h2
end

/-! ### values from values -/
section
variable {K : Frag} {al : Al} {H : Hp} {st : Store}
/-- a list, as it is read -/
theorem lst_sq (r : Rel K al H st) {v : Val} {u : V} {xs : List D} (h : RepW K al H v u) (e : lstOf v st = some xs) : ∃ a vs, u = .ref a ∧ SqL K H a vs ∧ RepDs K H xs vs := by
  cases v with
  | d d =>
    cases d with
    | lst ys =>
      cases e
      cases h with
      | lst h1 h2 => exact ⟨_, _, rfl, h1.sq, h2⟩
    | _ => cases e
  | ref i =>
    unfold lstOf at e
    cases q : st[i]? with
    | none => simp only [q] at e; cases e
    | some c =>
      simp only [q] at e
      cases e
      obtain ⟨a, ha, rfl⟩ := h
      obtain ⟨vs, h1, h2⟩ := (r.cell i c a q ha).items
      exact ⟨a, vs, rfl, h1, h2⟩
  | new ys =>
    cases e
    obtain ⟨a, vs, rfl, h1, _, h2⟩ := h
    exact ⟨a, vs, rfl, .inl h1, h2⟩
theorem seq_sq (r : Rel K al H st) {v : Val} {u : V} {xs : List D} (h : RepW K al H v u) (e : seqOf v st = some xs) : ∃ a vs, u = .ref a ∧ (SqL K H a vs ∨ SqT K H a vs) ∧ RepDs K H xs vs := by
  by_cases c : ∃ ys, v = .d (.tup ys)
  · obtain ⟨ys, rfl⟩ := c
    cases e
    cases h with
    | tup h1 h2 => exact ⟨_, _, rfl, .inr h1, h2⟩
  · have e' : lstOf v st = some xs := by
      rw [← e]
      unfold seqOf
      split
      · rename_i zs
        exact absurd ⟨zs, rfl⟩ c
      · rfl
    obtain ⟨a, vs, h1, h2, h3⟩ := lst_sq r h e'
    exact ⟨a, vs, h1, .inl h2, h3⟩
theorem peek_dp (r : Rel K al H st) {v : Val} {u : V} {d : D} (h : RepW K al H v u) (e : peek v st = some d) : Dp K H u (toPy d) := by
  cases v with
  | d d' => cases e; exact RepD.dp h
  | ref i =>
    unfold peek at e
    cases q : st[i]? with
    | none => simp only [q] at e; cases e
    | some c =>
      simp only [q] at e
      cases e
      obtain ⟨a, ha, rfl⟩ := h
      obtain ⟨vs, h1, h2⟩ := (r.cell i c a q ha).items
      exact .lst h1 h2.dp
  | new ys =>
    cases e
    obtain ⟨a, vs, rfl, h1, _, h2⟩ := h
    exact .lst (.inl h1) h2.dp
/-- a scalar -/
theorem peek_flat {v : Val} {u : V} {d : D} (h : RepW K al H v u) (e : peek v st = some d) (f : flatD d = true) : v = .d d := by
  cases v with
  | d d' => cases e; rfl
  | ref i =>
    unfold peek at e
    cases q : st[i]? with
    | none => simp only [q] at e; cases e
    | some c => simp only [q] at e; cases e; cases f
  | new ys => cases e; cases f
theorem scal_flat {a b : D} (h : scalD a b = true) : flatD a = true ∧ flatD b = true := by
  cases a <;> cases b <;> first | exact ⟨rfl, rfl⟩ | cases h
theorem scal_rep {a b : D} {u w : V} (h : scalD a b = true) (ra : RepD K H a u) (rb : RepD K H b w) : scal u w = true ∧ decide (u = w) = decide (a = b) := by
  have inj : ∀ x y : Tx, txt x = txt y → x = y := fun x y e => by
    have e : x.toArray = y.toArray := congrArg Str.cps e
    simpa using e
  cases ra <;> cases rb <;> first
    | (simp [scalD] at h; done)
    | (refine ⟨rfl, ?_⟩; simp; done)
    | (refine ⟨rfl, ?_⟩
       rename_i x y
       by_cases e : x = y
       · subst e; simp
       · have e' : ¬ txt x = txt y := fun q => e (inj _ _ q)
         simp [e, e'])
/-- the shutting of a cell: the model's heap stands, the abstract one says that it is shut -/
theorem shut_ok {X : Cx} {pins : List (Addr × Obj)} {σ : L2.St} {H : Hp} {s : Shared} {a : Addr} {vs : List V} (I : Inv X pins σ H s) (h : H a = some (.lst vs)) :
    ∃ o, Inv X pins σ (upd H a (.frz o (.lst vs))) s := by
  obtain ⟨hz, its, n, r, e⟩ := (show ObjOk X.prog X.w H s.heap a (.lst vs) from I.hok a _ h)
  refine ⟨{ cls := .type "list", data := .seq its.toArray n }, ?_⟩
  have ne : ∀ b u, H b = some u → (∀ ys, u ≠ .lst ys) → b ≠ a := fun b u q n z => by subst z; rw [h] at q; exact n vs (Option.some.inj q).symm
  have hok : HOk X.prog X.w (upd H a (.frz { cls := .type "list", data := .seq its.toArray n } (.lst vs))) s.heap := fun b u q => by
    by_cases hb : b = a
    · subst hb
      rw [upd_same] at q
      cases q
      exact ⟨e, hz, its, n, r, e⟩
    · rw [upd_ne hb] at q
      refine (I.hok b u q).stay (fun _ _ _ z => z) (fun c z => ?_) (fun c xs z => ?_)
      · rw [upd_ne (ne c _ z (fun ys w => by cases w))]; exact z
      · rw [upd_ne (ne c _ z (fun ys w => by cases w))]; exact z
  have un : Un X.fs [] H (upd H a (.frz { cls := .type "list", data := .seq its.toArray n } (.lst vs))) s.heap s.heap := by
    refine ⟨fun b o q _ _ _ => q, fun b o q _ _ _ => ⟨o.slots, q⟩, fun b o q n _ => ?_, fun b o q _ => ⟨o, q⟩, fun b xs q => ?_, fun b o u q => ?_, fun b ps q => ⟨#[], ?_⟩⟩
    · rw [upd_ne (fun z => by subst z; rw [h] at n; cases n)]; exact n
    · rw [upd_ne (ne b _ q (fun ys w => by cases w))]; exact q
    · rw [upd_ne (ne b _ q (fun ys w => by cases w))]; exact q
    · rw [upd_ne (ne b _ q (fun ys w => by cases w)), q]; simp
  exact I.un (t' := s.toks) un hok
end
end Pv

/-! Operators, comparisons, subscripts, built-ins, methods: by the values. -/
namespace Pv
open PySem PySem.Spec PyProof.Rows L2 TL

section
variable (X : Cx)
def SO (f : Value → Value → Sem Value) : R2 := fun x y H Q => ∃ r, OpR X f r ∧ r x y H Q
def SX : R2 := fun x y H Q => ∃ r, IxR X r ∧ r x y H Q
def SCl (f : Value) : List V → Hp → VK → Prop := fun xs H Q => ∃ r, CallR X f r ∧ r xs H Q
end
section
variable {X : Cx}
theorem op_SO {f : Value → Value → Sem Value} : OpR X f (SO X f) := fun pins s σ H x y v u Q I rx ry ⟨_, h, q⟩ => h pins s σ H x y v u Q I rx ry q
theorem ix_SX : IxR X (SX X) := fun value slice pins s σ H x y v u Q I rx ry ⟨_, h, q⟩ hs => h value slice pins s σ H x y v u Q I rx ry q hs
theorem cl_SC {f : Value} : CallR X f (SCl X f) := fun pins s σ H xs us Q I r ⟨_, h, q⟩ => h pins s σ H xs us Q I r q

theorem op_catL : OpR X (binaryOp .Add) (fun x y H Q => ∃ l b xs zs, x = .ref l ∧ y = .ref b ∧ SqL X.K H l xs ∧ SqL X.K H b zs ∧ xs.length + zs.length ≤ sizeLine ∧ ∀ p, H p = none → Q (.ref p) (upd H p (.lst (xs ++ zs)))) := by
  intro pins s σ H x y v u Q I rx ry h
  obtain ⟨l, b, xs, zs, rfl, rfl, hH, hB, hz, q⟩ := h
  cases rx
  cases ry
  obtain ⟨vs, r, pl, _⟩ := I.list hH
  obtain ⟨ws, r2, pb, _⟩ := I.list hB
  obtain ⟨⟨cls, dd, data, sl⟩, ho, hc, n, hd⟩ := pl.isList
  obtain ⟨⟨cls2, dd2, data2, sl2⟩, ho2, hc2, n2, hd2⟩ := pb.isList
  simp only at hc hd hc2 hd2
  subst hc hd hc2 hd2
  have e : vs.toArray ++ ws.toArray = (vs ++ ws).toArray := by simp
  have l1 := r.length
  have l2 := r2.length
  refine concat_meets ⟨_, ho, rfl⟩ ⟨_, ho2, rfl⟩ noFill_list_add seq_list_add PySem.F.slot_list_add PySem.F.entry_list_add (PySem.F.args_list_add_2 _ _) (list_addW l b vs.toArray ws.toArray n n2 dd dd2 sl sl2 (by simp only [List.size_toArray]; omega)) ⟨ho, ho2, ?_⟩
  rw [e]
  exact ⟨.ref _, _, I.lnew (t' := s.toks) (r.append r2) (by rw [List.length_append]; omega), rfl, q _ I.fresh⟩
theorem op_repR : OpR X (binaryOp .Mult) (fun x y H Q => ∃ l k xs, x = .ref l ∧ y = .int k ∧ Rd H l (.lst xs) ∧ -(2 ^ 63) ≤ k ∧ k < 2 ^ 63 ∧ xs.length * k.toNat ≤ sizeLine ∧
    ∀ p, H p = none → Q (.ref p) (upd H p (.lst (List.replicate k.toNat xs).flatten))) := by
  intro pins s σ H x y v u Q I rx ry h
  obtain ⟨l, k, xs, rfl, rfl, hH, h1, h2, hz, q⟩ := h
  cases rx
  obtain ⟨t, rfl⟩ := ry
  obtain ⟨z, its, n, r, e⟩ := (show ObjOk X.prog X.w H s.heap l (.lst xs) from hH.ok I.hok)
  have hl := r.length
  have hlen : its.toArray.size * k.toNat ≤ sizeLine := by rw [List.size_toArray, ← hl]; exact hz
  have hcap : ¬ its.toArray.size * k.toNat > (2 ^ 63 - 1) / 8 := by
    have : (sizeLine : Nat) ≤ (2 ^ 63 - 1) / 8 := by decide
    omega
  have hfit : ¬ (!Builtin.List.listFitsIndex k) = true := by
    rw [fitsIndex_both h1 h2]
    exact Bool.false_ne_true
  have hlong : ¬ Builtin.List.listTooLong (its.toArray.size * k.toNat) = true := by
    rw [notLongL hlen]
    exact Bool.false_ne_true
  have hnew : List.foldl (fun x1 x2 => x1 ++ x2) #[] (List.replicate (if its.toArray.isEmpty = true then 0 else k.toNat) its.toArray) = (List.replicate k.toNat its).flatten.toArray := by
    have f0 : ∀ m : Nat, List.foldl (fun x1 x2 => x1 ++ x2) #[] (List.replicate m its.toArray) = (List.replicate m its).flatten.toArray := fun m => by
      have := foldl_rep its m []
      rw [List.nil_append] at this
      exact this
    rw [f0]
    cases its with
    | nil => simp
    | cons a r' => rw [if_neg (by simp)]
  refine wpAny_binaryOp_repeat_ref (T := "list") (U := "int") (by decide) ⟨_, e, rfl⟩ (fun s' => typeIs_int s' k t) noFill_list_mul F.fills_int_mul F.slot_int_rmul repeat_list F.slot_int_index.lookup
    (call_meets F.slot_int_rmul (typeIs_int s k t) F.entry_int_rmul (F.args_int_rmul_2 _ _) (int___rmul___int_list k t l its.toArray n)
      ⟨e, rfl, ⟨_, e, rfl⟩, call_meets F.slot_list_mul ⟨_, e, rfl⟩ F.entry_list_mul (F.args_list_mul_2 _ _) (AutoListH.list___mul___list_int_3 l its.toArray n k t hfit hcap hlong) ⟨e, ?_⟩⟩)
  rw [hnew]
  exact ⟨.ref _, _, I.lnew (t' := s.toks) (r.rep k.toNat) (by rw [PyProof.Rows.lm_len_rep_flat, Nat.mul_comm]; exact hz), rfl, q _ I.fresh⟩
end

section
variable {X : Cx}
theorem rep_cps (a : Tx) : ∀ k : Nat, (List.replicate k (txt a).cps).foldl (· ++ ·) #[] = (List.replicate k a).flatten.toArray := fun k => by
  have f0 : ∀ (m : Nat) (acc : Tx), List.foldl (· ++ ·) acc.toArray (List.replicate m (txt a).cps) = (acc ++ (List.replicate m a).flatten).toArray := fun m => by
    induction m with
    | zero => intro acc; simp
    | succ m ih =>
      intro acc
      rw [List.replicate_succ, List.replicate_succ, List.foldl_cons, List.flatten_cons]
      have e : acc.toArray ++ (txt a).cps = (acc ++ a).toArray := by
        show acc.toArray ++ a.toArray = _
        simp
      rw [e, ih, List.append_assoc]
  have := f0 k []
  rw [List.nil_append] at this
  exact this
theorem rep_len (a : Tx) : ∀ k : Nat, (List.replicate k a).flatten.length = k * a.length
  | 0 => by simp
  | k + 1 => by rw [List.replicate_succ, List.flatten_cons, List.length_append, rep_len a k, Nat.succ_mul, Nat.add_comm]
theorem op_mulS : OpR X (binaryOp .Mult) (fun x y H Q => ∃ (a : Tx) (k : Int), x = .str (txt a) ∧ y = .int k ∧ a.length * k.toNat ≤ sizeLine ∧ k < 9223372036854775808 ∧ -9223372036854775808 ≤ k ∧ Q (.str (txt (List.replicate k.toNat a).flatten)) H) := by
  intro pins s σ H x y v u Q I rx ry h
  obtain ⟨a, k, rfl, rfl, h1, h2, h3, q⟩ := h
  obtain ⟨t, rfl⟩ := rx
  obtain ⟨tu, rfl⟩ := ry
  have e63 : (2 : Int) ^ 63 = 9223372036854775808 := by decide
  have ln : (txt a).length = a.length := rfl
  have sl : sizeLine = 16777216 := by rw [sizeLine_eq]
  have done : ∀ (z : Tx) (tk : Nat) (t' : Tok), z = (List.replicate k.toNat a).flatten → EP X pins σ Q (.str (txt z) t') { s with toks := tk } := fun z tk t' e => by
    subst e
    exact ⟨.str _, H, I.tok tk, ⟨t', rfl⟩, q⟩
  refine PySem.P.mul_str ?_ ?_ ?_ ?_
  · rw [decide_eq_false (by omega), decide_eq_false (by omega)]
    rfl
  · intro c1 c2 c3
    simp only [Bool.or_eq_false_iff, beq_eq_false_iff_ne, ne_eq] at c2
    have kp : 1 ≤ k.toNat := by omega
    have h5 : a.length ≤ 16777216 := Nat.le_trans (Nat.le_trans (Nat.le_of_eq (Nat.mul_one _).symm) (Nat.mul_le_mul_left _ kp)) (by rw [← sl]; exact h1)
    have h6 : a.length * k.toNat ≤ 16777216 := by rw [← sl]; exact h1
    rw [ln] at c2 c3
    have h7 : 1 ≤ a.length := by omega
    have h8 : k.toNat ≤ 16777216 := Nat.le_trans (Nat.le_trans (Nat.le_of_eq (Nat.one_mul _).symm) (Nat.mul_le_mul_right _ h7)) h6
    have h9 : ((a.length * k.toNat : Nat) : Int) ≤ 2 ^ 63 - 1 := by omega
    have h10 : (a.length : Int) ≤ (2 ^ 63 - 1) / k := by
      rw [Int.le_ediv_iff_mul_le (by omega)]
      have : ((a.length * k.toNat : Nat) : Int) = (a.length : Int) * k := by
        rw [Int.natCast_mul, Int.toNat_of_nonneg (by omega)]
      omega
    omega
  · intro c1 c2
    show decide (_ > _) = false
    rw [ln]
    exact decide_eq_false (by omega)
  · by_cases c : k < 1
    · rw [if_pos c]
      have e : k.toNat = 0 := by omega
      exact ⟨by decide, done [] _ _ (by rw [e]; rfl)⟩
    · rw [if_neg c]
      by_cases c2 : (k == 1 || (txt a).length == 0) = true
      · rw [if_pos c2]
        have e : a = (List.replicate k.toNat a).flatten := by
          simp only [Bool.or_eq_true, beq_iff_eq] at c2
          rcases c2 with c2 | c2
          · subst c2
            simp
          · rw [ln] at c2
            have : a = [] := List.eq_nil_of_length_eq_zero c2
            subst this
            simp
        exact done a s.toks t e
      · rw [if_neg c2, rep_cps]
        refine ⟨?_, done _ _ _ rfl⟩
        show (List.replicate k.toNat a).flatten.toArray.size ≤ _
        rw [List.size_toArray, rep_len, Nat.mul_comm]
        exact h1
end
theorem line_eq : line = sizeLine := by rw [sizeLine_eq]; rfl
theorem txt_len (x : Tx) : (txt x).length = x.length := by
  show x.toArray.size = x.length
  rw [List.size_toArray]
theorem txt_app (x y : Tx) : txt x ++ txt y = txt (x ++ y) := ext_tl (by rw [tl_append]; rfl)
theorem txt_tl (x : Tx) : (txt x).cps.toList = x := rfl
theorem txt1 (c : Nat) : (⟨#[c]⟩ : Str) = txt [c] := rfl

section
variable {X : Cx} {mg : Str → Option Value} {al : Al} {H : Hp} {st : Store} {Ex : Value → Hp → Prop} {Q : VK}
/-- an end that lays nothing -/
theorem fin0 {α : Type} {P : α → Store → Hp → Prop} {v : α} (r : Rel X.K al H st) (h : PostR X.K mg al H Ex P (.ok v st)) : P v st H := h H r (Ext.refl _ _)
/-- .. a new list -/
theorem finL {xs : List D} {vs : List V} (r : Rel X.K al H st) (h : PostR X.K mg al H Ex (fun v _ H' => ∀ u, RepV X.K al H' v u → Q u H') (.ok (.new xs) st)) (rd : RepDs X.K H xs vs) : ∀ p, H p = none → Q (.ref p) (upd H p (.lst vs)) := fun p hp =>
  h _ (r.ext_new hp) (ext_new hp) _ ⟨p, vs, rfl, upd_same, r.notIn hp, rd.mono (stab_new hp)⟩
/-- .. a new tuple -/
theorem finT {xs : List D} {vs : List V} (r : Rel X.K al H st) (h : PostR X.K mg al H Ex (fun v _ H' => ∀ u, RepV X.K al H' v u → Q u H') (.ok (.d (.tup xs)) st)) (rd : RepDs X.K H xs vs) : ∀ p, H p = none → Q (.ref p) (upd H p (.tup vs)) := fun p hp =>
  h _ (r.ext_new hp) (ext_new hp) _ (RepD.tup (.inl (.inl upd_same)) (rd.mono (stab_new hp)))

theorem okMul_ok {i j : Int} (h : okMul i j = true) : CMul i j ∨ CMulW i j := by
  unfold okMul at h
  simp only [Bool.or_eq_true, Bool.and_eq_true, decide_eq_true_eq] at h
  unfold CMul CMulW
  rcases h with (h | h) | h
  · exact .inl (.inl ⟨by omega, by omega⟩)
  · exact .inl (.inr ⟨by omega, by omega⟩)
  · exact .inr h
def CShl (i j : Int) : Prop := 0 ≤ j ∧ j ≤ 1000000 ∧ i.natAbs.log2 < 1000000
theorem op_shlW : OpR X (binaryOp .LShift) (rI CShl fun i j => .int (i * 2 ^ j.toNat)) := opI fun i j _ _ _ _ _ hc q => by
  obtain ⟨h1, h2, h3⟩ := hc
  have b : Builtin.Int.intBits i ≤ i.natAbs.log2 + 1 := by
    unfold Builtin.Int.intBits
    split <;> omega
  have e : (2 : Int) ^ 27 = 134217728 := by decide
  exact lshift_int h1 (by rw [e]; omega) q
theorem okShl_ok {i j : Int} (h : okShl i j = true) : CShl i j := by
  unfold okShl at h
  simp only [Bool.and_eq_true, decide_eq_true_eq] at h
  exact ⟨h.1.1, h.1.2, h.2⟩
theorem okDiv_ok {i j : Int} (h : okDiv j = true) : CDivW i j := by
  unfold okDiv at h
  simp only [Bool.and_eq_true, decide_eq_true_eq] at h
  exact h
theorem okPow_ok {i j : Int} (h : okPow i j = true) : CPow i j := by
  unfold okPow at h
  simp only [Bool.and_eq_true, decide_eq_true_eq] at h
  exact ⟨h.1.1.1, h.1.1.2, by omega⟩
theorem binI_ok {o : Bop} {p : Operator} (hp : isBop o p = true) {i j k : Int} (e : binI o i j = some k) (q : Q (.int k) H) : SO X (binaryOp p) (.int i) (.int j) H Q := by
  cases o <;> cases p <;> first
    | (cases hp; done)
    | skip
  all_goals (simp only [binI] at e)
  · cases e; exact ⟨_, op_add, _, _, rfl, rfl, q⟩
  · cases e; exact ⟨_, op_sub, _, _, rfl, rfl, q⟩
  · split at e
    · rename_i c; cases e; rcases okMul_ok c with c | c
      · exact ⟨_, op_mul, _, _, rfl, rfl, c, q⟩
      · exact ⟨_, op_mulW, _, _, rfl, rfl, c, q⟩
    · cases e
  · split at e
    · rename_i c; cases e; exact ⟨_, op_fdivW, _, _, rfl, rfl, okDiv_ok c, q⟩
    · cases e
  · split at e
    · rename_i c; cases e; exact ⟨_, op_mod, _, _, rfl, rfl, c, q⟩
    · cases e
  · split at e
    · rename_i c; cases e; exact ⟨_, op_pow, _, _, rfl, rfl, okPow_ok c, q⟩
    · cases e
  · split at e
    · rename_i c; cases e; exact ⟨_, op_shlW, _, _, rfl, rfl, okShl_ok c, q⟩
    · cases e
  · split at e
    · rename_i c; cases e; exact ⟨_, op_shr, _, _, rfl, rfl, c, q⟩
    · cases e
  · cases e; exact ⟨_, op_and, _, _, rfl, rfl, q⟩
  · cases e; exact ⟨_, op_or, _, _, rfl, rfl, q⟩
  · cases e; exact ⟨_, op_xor, _, _, rfl, rfl, q⟩
theorem bin_ok {o : Bop} {p : Operator} (hp : isBop o p = true) (r : Rel X.K al H st) {x y : Val} {u w : V} (rx : RepW X.K al H x u) (ry : RepW X.K al H y w)
    (h : PostR X.K mg al H Ex (fun v _ H' => ∀ u, RepV X.K al H' v u → Q u H') (binV o x y st)) : SO X (binaryOp p) u w H Q := by
  unfold binV at h
  split at h
  · rename_i i j
    cases rx
    cases ry
    split at h
    · rename_i k e
      exact binI_ok hp e (fin0 r h _ (.int k))
    · exact h.elim
  · rename_i a b
    cases rx
    cases ry
    split at h
    · split at h
      · rename_i c
        cases p <;> first | (cases hp; done) | skip
        have q := fin0 r h _ (.str _)
        rw [← txt_app] at q
        exact ⟨_, op_add_str, _, _, rfl, rfl, by rw [txt_len, txt_len, ← line_eq]; exact c, q⟩
      · exact h.elim
    · exact h.elim
  · rename_i a b
    cases rx with
    | tup a1 a2 =>
      cases ry with
      | tup b1 b2 =>
        split at h
        · split at h
          · rename_i c
            cases p <;> first | (cases hp; done) | skip
            have la := a2.length
            have lb := b2.length
            refine ⟨_, op_catA, _, _, _, _, rfl, rfl, a1, b1, by rw [← la, ← lb, ← line_eq]; exact c, fun e => ?_, fun _ e => ?_, fun _ _ => finT r h (a2.append b2)⟩
            · subst e
              cases a2
              exact fin0 r h _ (.tup b1 b2)
            · subst e
              cases b2
              have q := fin0 r h
              rw [List.append_nil] at q
              exact q _ (.tup a1 a2)
          · exact h.elim
        · exact h.elim
  · split at h
    · split at h
      · rename_i a b ea eb
        split at h
        · rename_i c
          obtain ⟨_, va, rfl, h1, d1⟩ := lst_sq r rx ea
          obtain ⟨_, vb, rfl, h2, d2⟩ := lst_sq r ry eb
          cases p <;> first | (cases hp; done) | skip
          refine ⟨_, op_catL, _, _, _, _, rfl, rfl, h1, h2, by rw [← d1.length, ← d2.length, ← line_eq]; exact c, finL r h (d1.append d2)⟩
        · exact h.elim
      · exact h.elim
    · split at h
      · split at h
        · rename_i c
          obtain ⟨a, vs, rfl, ha, _, rd⟩ := rx
          cases ry
          cases p <;> first | (cases hp; done) | skip
          obtain ⟨c1, c2, c3⟩ := c
          exact ⟨_, op_repR, _, _, _, rfl, rfl, ha, c3, c2, by rw [← rd.length, ← line_eq]; exact c1, finL r h (rd.rep _)⟩
        · exact h.elim
      · split at h
        · rename_i c
          cases rx
          cases ry
          cases p <;> first | (cases hp; done) | skip
          obtain ⟨c1, c2, c3⟩ := c
          exact ⟨_, op_mulS, _, _, rfl, rfl, by rw [← line_eq]; exact c1, c2, c3, fin0 r h _ (.str _)⟩
        · exact h.elim
      · exact h.elim
    · exact h.elim
end
end Pv

/-! Comparisons, subscripts, slices, built-ins, methods: by the values. -/
namespace Pv
open PySem PySem.Spec PyProof.Rows L2 TL

theorem ltCps_eq : ∀ x y : Tx, ltCps x y = ltT x y
  | [], [] => by simp [ltCps, ltT]
  | [], _ :: _ => by simp [ltCps, ltT]
  | _ :: _, [] => by simp [ltCps, ltT]
  | a :: r, b :: t => by
    unfold ltCps
    rw [ltCps_eq r t]
    unfold ltT
    by_cases h : a < b
    · have : a :: r < b :: t := List.cons_lt_cons_iff.mpr (.inl h)
      simp [h, this]
    · by_cases e : a = b
      · subst e
        have q : (a :: r < a :: t) ↔ r < t := by rw [List.cons_lt_cons_iff]; simp
        simp [q]
      · have : ¬ a :: r < b :: t := fun q => by
          rcases List.cons_lt_cons_iff.mp q with z | z
          · exact h z
          · exact e z.1
        simp [h, e, this]
theorem rising_pw : ∀ (l : List Tx) (p : Tx), risingS (txt p) (l.map txt) = true → (p :: l).Pairwise (leG ltT)
  | [], p, _ => List.pairwise_singleton _ _
  | x :: r, p, h => by
    rw [List.map_cons] at h
    unfold risingS at h
    simp only [Bool.and_eq_true, Bool.not_eq_true'] at h
    have h1 : leG ltT p x := by
      have q := h.1
      rw [txt_tl, txt_tl, ltCps_eq] at q
      exact q
    have h2 := rising_pw r x h.2
    refine List.pairwise_cons.mpr ⟨fun z hz => ?_, h2⟩
    rcases List.mem_cons.mp hz with e | e
    · rw [e]; exact h1
    · exact ltT_tr _ _ _ h1 ((List.pairwise_cons.mp h2).1 z e)
theorem txt_inj {x y : Tx} (e : txt x = txt y) : x = y := by
  have e : x.toArray = y.toArray := congrArg Str.cps e
  simpa using e
theorem map_txt_tl : ∀ l : List Str, (l.map tl).map txt = l
  | [] => rfl
  | x :: xs => by rw [List.map_cons, List.map_cons, map_txt_tl xs]; rfl
theorem perm_tl {l : List Str} {m : List Tx} (h : l.Perm (m.map txt)) : (l.map tl).Perm m := by
  have := h.map tl
  rw [List.map_map] at this
  have e : (tl ∘ txt) = (id : Tx → Tx) := rfl
  rw [e, List.map_id] at this
  exact this
theorem sortedS_eq {l : List Str} {m : List Tx} (p : l.Perm (m.map txt)) (h : sortedS l = true) : l = (sortT m).map txt := by
  have p' := perm_tl p
  have w : (l.map tl).Pairwise (leG ltT) := by
    cases l with
    | nil => exact .nil
    | cons x r =>
      refine rising_pw (r.map tl) (tl x) ?_
      rw [map_txt_tl]
      exact h
  rw [← sortT_uniq p' w, map_txt_tl]

section
variable {X : Cx} {mg : Str → Option Value} {al : Al} {H : Hp} {st : Store} {Ex : Value → Hp → Prop} {Q : VK}

theorem flat_rep {d : D} {v : V} (r : RepD X.K H d v) (f : flatD d = true) : flatV v = true := by
  cases r <;> first | rfl | cases f
theorem eqF_rep {a b : D} {u w : V} (ra : RepD X.K H a u) (rb : RepD X.K H b w) (fa : flatD a = true) (fb : flatD b = true) : eqV u w = eqF a b := by
  cases ra <;> cases rb <;> first
    | (cases fa; done)
    | (cases fb; done)
    | rfl
    | (rename_i x y
       show (txt x == txt y) = (x == y)
       by_cases e : x = y
       · subst e; simp
       · have e' : ¬ txt x = txt y := fun q => e (txt_inj q)
         rw [beq_eq_false_iff_ne.mpr e, beq_eq_false_iff_ne.mpr e'])
theorem flats_rep : ∀ {ds : List D} {vs : List V}, RepDs X.K H ds vs → ds.all flatD = true → vs.all flatV = true
  | _, _, .nil, _ => rfl
  | _, _, .cons h r, f => by
    rw [List.all_cons, Bool.and_eq_true] at f
    rw [List.all_cons, flat_rep h f.1, flats_rep r f.2]
    rfl
theorem inD_rep {x : D} {u : V} (rx : RepD X.K H x u) (fx : flatD x = true) : ∀ {ds : List D} {vs : List V}, RepDs X.K H ds vs → ds.all flatD = true → inV u vs = inD x ds
  | _, _, .nil, _ => rfl
  | _, _, .cons h r, f => by
    rw [List.all_cons, Bool.and_eq_true] at f
    show (eqV _ u || inV u _) = (eqF _ x || inD x _)
    rw [eqF_rep h rx f.1 fx, inD_rep rx fx r f.2]
theorem mem_ok (r : Rel X.K al H st) {x y : Val} {u w : V} (rx : RepW X.K al H x u) (ry : RepW X.K al H y w) {k : Bool} (e : memV x y st = some k) (neg : Bool) (q : Q (.bl (if neg then !k else k)) H) : SO X (compareOp (if neg then .NotIn else .In)) u w H Q := by
  unfold memV at e
  split at e
  · rename_i c z
    cases e
    cases rx
    cases ry
    cases neg with
    | false => exact ⟨_, op_in_sign, c, txt z, rfl, rfl, q⟩
    | true => exact ⟨_, op_notIn_sign, c, txt z, rfl, rfl, q⟩
  · rename_i y' x' _
    split at e
    · rename_i xs es
      split at e
      · rename_i c
        simp only [Bool.and_eq_true] at c
        cases e
        obtain ⟨a, vs, rfl, hs, rd⟩ := seq_sq r ry es
        have rx : RepD X.K H x' u := rx
        have q' := q
        rw [← inD_rep rx c.1 rd c.2] at q'
        cases neg with
        | false => exact ⟨_, op_in_seq, a, vs, rfl, hs, flat_rep rx c.1, flats_rep rd c.2, q'⟩
        | true => exact ⟨_, op_notIn_seq, a, vs, rfl, hs, flat_rep rx c.1, flats_rep rd c.2, q'⟩
      · cases e
    · cases e
  · cases e
theorem non_iff {x : Val} {u : V} (rx : RepW X.K al H x u) : decide (u = .non) = (match x with | .d .non => true | _ => false) := by
  cases x with
  | d d =>
    cases d with
    | non => cases rx; rfl
    | _ => cases rx; rfl
  | ref i => obtain ⟨a, _, rfl⟩ := rx; rfl
  | new xs => obtain ⟨a, vs, rfl, _⟩ := rx; rfl
theorem cmp_ok {o : Cop} {p : CmpOp} (hp : isCop o p = true) (hu : X.A.units + 64 < cLine) (r : Rel X.K al H st) {x y : Val} {u w : V} (rx : RepW X.K al H x u) (ry : RepW X.K al H y w) {k : Bool} (e : cmpV o x y st = some k)
    (q : Q (.bl k) H) : SO X (compareOp p) u w H Q := by
  cases o <;> cases p <;> first
    | (cases hp; done)
    | skip
  all_goals (simp only [cmpV] at e)
  · split at e
    · rename_i a b ea eb
      split at e
      · rename_i c
        cases e
        obtain ⟨fa, fb⟩ := scal_flat c
        have e1 := peek_flat rx ea fa
        have e2 := peek_flat ry eb fb
        subst e1 e2
        obtain ⟨s1, s2⟩ := scal_rep c rx ry
        exact ⟨_, op_eq, s1, by rw [s2]; exact q⟩
      · split at e
        · rename_i c
          simp only [Bool.and_eq_true] at c
          cases e
          exact ⟨_, op_eqD hu, _, _, peek_dp r rx ea, peek_dp r ry eb, c.1, c.2, q⟩
        · cases e
    · cases e
  · split at e
    · rename_i a b ea eb
      split at e
      · rename_i c
        cases e
        obtain ⟨fa, fb⟩ := scal_flat c
        have e1 := peek_flat rx ea fa
        have e2 := peek_flat ry eb fb
        subst e1 e2
        obtain ⟨s1, s2⟩ := scal_rep c rx ry
        exact ⟨_, op_ne, s1, by rw [s2]; exact q⟩
      · split at e
        · rename_i c
          simp only [Bool.and_eq_true] at c
          cases e
          exact ⟨_, op_neD hu, _, _, peek_dp r rx ea, peek_dp r ry eb, c.1, c.2, q⟩
        · cases e
    · cases e
  · split at e
    · cases e; cases rx; cases ry; exact ⟨_, op_lt, _, _, rfl, rfl, q⟩
    · cases e; cases rx; cases ry; exact ⟨_, op_lt_str, _, _, rfl, rfl, q⟩
    · cases e
  · split at e
    · cases e; cases rx; cases ry; exact ⟨_, op_le, _, _, rfl, rfl, q⟩
    · cases e
  · split at e
    · cases e; cases rx; cases ry; exact ⟨_, op_gt, _, _, rfl, rfl, q⟩
    · cases e
  · split at e
    · cases e; cases rx; cases ry; exact ⟨_, op_ge, _, _, rfl, rfl, q⟩
    · cases e
  · have en := non_iff rx
    split at e
    · cases e; cases ry; exact ⟨_, op_isN, rfl, by rw [en]; exact q⟩
    · rename_i hx
      cases e
      cases ry
      refine ⟨_, op_isN, rfl, ?_⟩
      rw [en]
      split
      · exact (hx rfl).elim
      · exact q
    · cases e
  · have en := non_iff rx
    split at e
    · cases e; cases ry; exact ⟨_, op_notN, rfl, by rw [en]; exact q⟩
    · rename_i hx
      cases e
      cases ry
      refine ⟨_, op_notN, rfl, ?_⟩
      rw [en]
      split
      · exact (hx rfl).elim
      · exact q
    · cases e
  · exact mem_ok r rx ry e false q
  · cases em : memV x y st with
    | none => rw [em] at e; cases e
    | some b =>
      rw [em] at e
      cases e
      exact mem_ok r rx ry em true q
/-- truth of a value -/
theorem tru_val {v : Val} {u : V} (rv : RepW X.K al H v u) {k : Bool} (e : truV v st = some k) : TruV X.K u H k := by
  unfold truV at e
  split at e
  · cases e; cases rv; rfl
  · cases e; cases rv; rfl
  · cases e
theorem atI_map {α β : Type} {xs : List α} {ys : List β} (h : xs.length = ys.length) {i : Int} {d : α} (e : atI xs i = some d) (f : ∀ j : Nat, xs[j]? = some d → ∃ v : β, ys[j]? = some v) : ∃ (j : Nat) (v : β), xs[j]? = some d ∧ ys[j]? = some v ∧ atI ys i = some v := by
  unfold atI at e
  cases q : ixN xs.length i with
  | none => rw [q] at e; cases e
  | some j =>
    rw [q] at e
    have e : xs[j]? = some d := e
    obtain ⟨v, hv⟩ := f j e
    refine ⟨j, v, e, hv, ?_⟩
    unfold atI
    rw [← h, q]
    exact hv
theorem ixv_ok (r : Rel X.K al H st) {x y : Val} {u w : V} (rx : RepW X.K al H x u) (ry : RepW X.K al H y w)
    (h : PostR X.K mg al H Ex (fun v _ H' => ∀ u, RepV X.K al H' v u → Q u H') (ixV x y st)) : SX X u w H Q := by
  unfold ixV at h
  split at h
  · rename_i i
    cases ry
    split at h
    · rename_i z
      cases rx
      split at h
      · rename_i c
        split at h
        · rename_i d e
          exact ⟨_, ix_str, _, _, d, rfl, rfl, by rw [txt_len, ← line_eq]; exact c, e, fin0 r h _ (.str [d])⟩
        · exact h.elim
      · exact h.elim
    · split at h
      · rename_i xs es
        split at h
        · rename_i d e
          obtain ⟨a, vs, rfl, hs, rd⟩ := seq_sq r rx es
          obtain ⟨j, v, h1, h2, h3⟩ := atI_map rd.length e fun j hj => let ⟨v, hv, _⟩ := rd.get hj; ⟨v, hv⟩
          obtain ⟨v', h4, h5⟩ := rd.get h1
          rw [h2] at h4
          cases h4
          have q := fin0 r h _ h5
          rcases hs with hs | hs
          · exact ⟨_, ix_list, a, vs, _, v, rfl, rfl, hs, h3, q⟩
          · exact ⟨_, ix_tup, a, vs, _, v, rfl, rfl, hs, h3, q⟩
        · exact h.elim
      · exact h.elim
  · exact h.elim
end
end Pv

/-! sorted(text). -/
namespace Pv
open PySem PySem.Spec PyProof.Rows L2

theorem obj_there {P : Program} {w : World} {H : Hp} {h : Heap} {a : Addr} {o : HO} (x : ObjOk P w H h a o) : ∃ ob, h.get? a = some ob := by
  cases o with
  | lst xs => obtain ⟨_, _, _, _, e⟩ := x; exact ⟨_, e⟩
  | tup xs => obtain ⟨_, _, _, o, e, _⟩ := x; exact ⟨_, e⟩
  | dK kvs => obtain ⟨_, _, _, _, o, _, _, e, _⟩ := x; exact ⟨_, e⟩
  | dT kvs => obtain ⟨_, _, _, _, o, _, _, e, _⟩ := x; exact ⟨_, e⟩
  | set S n => obtain ⟨o, _, _, _, e, _⟩ := x; exact ⟨_, e⟩
  | ins C dx fs => obtain ⟨_, _, _, e, _⟩ := x; exact ⟨_, e⟩
  | own y => exact x
  | xd fs => obtain ⟨_, ⟨_, _, _, e, _⟩, _⟩ := x; exact ⟨_, e⟩
  | rng lo hi => obtain ⟨_, _, _, e⟩ := x; exact ⟨_, e⟩
  | frz ob u => obtain ⟨e, _⟩ := x; exact ⟨_, e⟩
  | tbl ps => exact ⟨_, (show h.get? a = some _ from x)⟩
  | met f y => exact ⟨_, (show h.get? a = some _ from x)⟩
  | ext φ => obtain ⟨_, e, _⟩ := x; exact e
theorem strs_of : ∀ (a : List Value) (z : List Nat), a.length = z.length → (∀ (j : Nat) (v : Value), a[j]? = some v → ∃ c u, z[j]? = some c ∧ v = Value.str ⟨#[c]⟩ u) → StrsAre a (z.map fun c => (⟨#[c]⟩ : PySem.Str))
  | [], [], _, _ => .nil
  | v :: a, c :: z, hs, hi => by
    obtain ⟨c', u, h1, rfl⟩ := hi 0 v rfl
    cases h1
    exact .cons _ _ (strs_of a z (by simpa using hs) fun j v e => hi (j + 1) v (by simpa using e))
theorem signs_strs {x : PySem.Str} {acc : Array Value} (h : ItemsOf (SignAt x) acc x.cps.size) : StrsAre acc.toList (x.cps.toList.map fun c => (⟨#[c]⟩ : PySem.Str)) := by
  obtain ⟨hs, hi⟩ := h
  obtain ⟨a⟩ := acc
  obtain ⟨⟨z⟩⟩ := x
  simp only [List.size_toArray] at hs
  have hi : ∀ j v, a[j]? = some v → ∃ c u, z[j]? = some c ∧ v = Value.str ⟨#[c]⟩ u := fun j v e => by
    obtain ⟨c, u, h1, h2⟩ := hi j v (by simpa using e)
    exact ⟨c, u, by simpa using h1, h2⟩
  exact strs_of a z (by simpa using hs) hi
section
variable {X : Cx}
theorem sorted_text {P : Program} {w : World} {A : Around} {E : Value → Shared → Prop} {s : Shared} {x : PySem.Str} {t : Tok} {Q : Value → Shared → Prop} (hh : A.handled = none) (h64 : x.cps.size < 64)
    (hQ : ∀ s' p (out : Array Value) (c : Nat) (ss : List PySem.Str), (∀ b o, s.heap.get? b = some o → s'.heap.get? b = some o) → s'.gens = s.gens → s'.os = s.os → s.heap.get? p = none →
      s'.heap.get? p = some (seqObj "list" out c) → StrsAre out.toList ss → ss.Perm (x.cps.toList.map fun c => (⟨#[c]⟩ : PySem.Str)) → sortedS ss = true → Q (.ref p) s') :
    wpAny (model P w) A (call (.builtin "sorted") [.str x t]) Q E s := by
  refine Calls.call_function_entry kind_sorted plain_sorted entry_sorted (args_sorted1 _) ?_
  unfold Builtin.«sorted»
  refine wpAny_bind (m := checkCount "sorted" 1 1 _) (wpAny_pure ?_)
  refine wpAny_bind (wpAny_collect_str (A := A.in1) hh x t (fun s1 acc k1 g1 d1 o1 hi => ?_) (by rw [sizeLine_eq]; omega))
  have hS := signs_strs hi
  have hvl : acc.toList.length < 64 := by rw [Array.length_toList, hi.1]; exact h64
  refine wpAny_bind (wpAny_newList ?_ (by rw [sizeLine_eq]; omega))
  have hoL : (s1.heap.push (seqObj "list" acc.toList.toArray 0)).get? s1.heap.objs.size = some (seqObj "list" acc.toList.toArray 0) := Heap.get?_push_size _ rfl
  refine wpAny_bind (wpAny_holding (wpAny_call_entry slot_list_sort ⟨_, hoL, rfl⟩ entry_list_sort (list_sort_treeK strKind_oneLt hoL hS.keysOf (fun v₁ v₂ rest e => keyKind_strs (by rw [← e]; exact hS)) hvl fun st' hp hs => ⟨_, rfl, ?_⟩) (args_list_sort _)))
  obtain ⟨ss', a1, a2, a3⟩ := sorted_out_str hS hp hs
  obtain ⟨c, hc⟩ := sortedHeap_at (vs := acc.toList) (out := (arrOf st').map (·.2)) hoL
  have hz : s.heap.get? s1.heap.objs.size = none := by
    cases q : s.heap.get? s1.heap.objs.size with
    | none => rfl
    | some o => exact absurd (Heap.lt_size (k1 _ _ q)) (Nat.lt_irrefl _)
  refine wpAny_pure ⟨_, rfl, hQ _ s1.heap.objs.size _ c ss' (fun b u e => ?_) g1 o1 hz hc a1 a2 a3⟩
  have q := k1 b u e
  have hlt := Heap.lt_size q
  show (sortedHeap (s1.heap.push (seqObj "list" acc.toList.toArray 0)) s1.heap.objs.size acc.toList _).get? b = some u
  rw [sortedHeap_old (Nat.ne_of_lt hlt) (by rw [size_push']; exact Nat.lt_succ_of_lt hlt)]
  exact Heap.get?_push_of_some _ q
/-- sorted(text), fewer than 64 signs -/
def rSortedT : List V → Hp → VK → Prop := fun vs H Q => ∃ z : PySem.Str, vs = [V.str z] ∧ z.cps.size < 64 ∧ ∀ (ss : List PySem.Str) (p : Addr), ss.Perm (z.cps.toList.map fun c => (⟨#[c]⟩ : PySem.Str)) → sortedS ss = true → H p = none → Q (.ref p) (upd H p (.lst (ss.map V.str)))
theorem cr_sortedText (hc : X.calm = true) : CallR X (.builtin "sorted") rSortedT := by
  intro pins s σ H vs us Q I r h
  obtain ⟨z, rfl, h64, q⟩ := h
  obtain ⟨u, rfl, ru⟩ := vals1 r
  obtain ⟨t, rfl⟩ := ru
  refine sorted_text (I.ok.hd hc) h64 fun s' p out c ss k g o hp hg hi pm hs => ?_
  have hlen : (ss.map V.str).length ≤ sizeLine := by rw [List.length_map, pm.length_eq, List.length_map, Array.length_toList, sizeLine_eq]; omega
  have hn : H p = none := by
    cases e : H p with
    | none => rfl
    | some u =>
      obtain ⟨ob, e2⟩ := obj_there (I.hok p u e)
      rw [hp] at e2
      cases e2
  have J : Inv X pins σ (upd H p (.lst (ss.map V.str))) { s with heap := s'.heap, gens := s'.gens, drawn := s'.drawn, toks := s'.toks } :=
    I.call (ch := []) (Un.laidN k hp hn) (I.hok.laidN k hn ⟨hlen, out.toList, c, vals_of_strs hi, hg⟩) (by rw [g]; exact I.bare) (fun _ z => nomatch z)
  have e : s' = { s with heap := s'.heap, gens := s'.gens, drawn := s'.drawn, toks := s'.toks } := by
    cases s'
    cases s
    cases o
    rfl
  rw [e]
  exact ⟨.ref p, _, J, rfl, q ss p pm hs hn⟩
end
end Pv

/-! sep.join(text). -/
namespace Pv
open PySem PySem.Spec PyProof.Rows L2
open PySem.Builtin PySem.Builtin.Str

theorem join_tree_text (sep : PySem.Str) (t : Tok) (x : PySem.Str) (u : Tok) : Builtin.«str.join» ⟨[.str sep t, .str x u], []⟩ = (do
    let ty ← typeOf (.str x u)
    if (ty == .type "list" || ty == .type "tuple") = true then (do
      match ← seqItems? (.str x u) with
      | some xs => joinTail sep xs.toList
      | none => unsupported "internal:str.join")
    else (do
      let it ← (pyIter (.str x u)).tryCatch fun e => do
        if ← isInstance e (.type "TypeError") then rule "str.join.not-iterable"; raiseError "TypeError" "can only join an iterable" else throw e
      let items ← collect it
      joinTail sep items)) := rfl
section
variable {prog : Program} {w : World} {A : Around} {E : Value → Shared → Prop} {s : Shared}
theorem join_text {sep : PySem.Str} {t : Tok} {x : PySem.Str} {u : Tok} {Q : Value → Shared → Prop} (hh : A.handled = none) (hok : ((x.cps.toList.map fun c => (⟨#[c]⟩ : PySem.Str)).map (·.length)).sum + (x.cps.toList.map fun c => (⟨#[c]⟩ : PySem.Str)).length * sep.length ≤ 16777216)
    (hsz : x.cps.size ≤ sizeLine)
    (hQ : ∀ s' : Shared, (∀ b o, s.heap.get? b = some o → s'.heap.get? b = some o) → s'.gens = s.gens → s'.drawn = s.drawn → s'.os = s.os → ∀ t' k, Q (.str (Txt.join sep (x.cps.toList.map fun c => (⟨#[c]⟩ : PySem.Str))) t') { s' with toks := k }) :
    wpAny (model prog w) A (call (.builtin "str.join") [.str sep t, .str x u]) Q E s := by
  refine wpAny_call (codeAny_call_builtin F.slot_str_join.plain F.entry_str_join (F.slot_str_join.check _ _ _ _ _ _ _ _ (typeIs_str _ _ _) (F.args_str_join_2 _ _) ?_))
  rw [join_tree_text]
  refine wpAny_bind (wpAny_typeOf (T := "str") (v := .str x u) rfl ?_)
  show wpAny _ A.in1 ((pyIter (.str x u)).tryCatch _ >>= fun it => collect it >>= fun items => joinTail sep items) _ _ s
  refine wpAny_bind (wpAny_tryCatch (wpAny_pyIter_strU ?_))
  have hT0 : ((s.heap.push { cls := .type (strIterType x), data := .fields #[.str x u, .int 0 0] }).get? s.heap.objs.size) = some { cls := .type (strIterType x), data := .fields #[.str x u, .int 0 0] } := Heap.get?_push_size _ rfl
  cases ha : x.cps.all (· < 128)
  · have e : strIterType x = "str_iterator" := by simp [strIterType, ha]
    rw [e] at hT0 ⊢
    refine wpAny_bind (wpAny_collect_iter (T := "str_iterator") (.inr (.inl rfl)) (Walks.strWide (A := A.in1.in1) hh s.heap.objs.size x u).toS (fun i s2 st => st.typeIs) ⟨_, hT0, rfl, rfl⟩ (fun b hb => ?_) List.mem_cons_self (fun s' acc hm hacc => ?_) hsz)
    · rw [List.mem_singleton.mp hb]
      exact Heap.lt_size hT0
    · obtain ⟨l, hl, ht⟩ := strsAre_values (signs_strs hacc)
      rw [← ht] at hok hQ
      rw [hl]
      have hok' := joinOk_of hok
      unfold JoinOk at hok'
      rw [Bool.not_eq_true'] at hok'
      have g : Gives (joinTail sep (strValues l)) (joinMade sep l) := by
        have g0 := gives_joinTail sep l hok'
        cases l with
        | nil => exact g0
        | cons p r => cases r with
          | nil => exact g0
          | cons q r' => exact g0
      refine g prog w A (wants Q E) s' (post_join l ⟨joinFit_length hok', hQ s' (fun b o e => hm.heap b o (fun hb => ?_) (Heap.get?_push_of_some _ e)) hm.gens hm.drawn hm.os⟩)
      have hlt := Heap.lt_size e
      rw [List.mem_singleton.mp hb] at hlt
      exact absurd hlt (Nat.lt_irrefl _)
  · have e : strIterType x = "str_ascii_iterator" := by simp [strIterType, ha]
    rw [e] at hT0 ⊢
    refine wpAny_bind (wpAny_collect_iter (T := "str_ascii_iterator") (.inl rfl) (Walks.strAscii (A := A.in1.in1) hh s.heap.objs.size x u).toS (fun i s2 st => st.typeIs) ⟨_, hT0, rfl, rfl⟩ (fun b hb => ?_) List.mem_cons_self (fun s' acc hm hacc => ?_) hsz)
    · rw [List.mem_singleton.mp hb]
      exact Heap.lt_size hT0
    · obtain ⟨l, hl, ht⟩ := strsAre_values (signs_strs hacc)
      rw [← ht] at hok hQ
      rw [hl]
      have hok' := joinOk_of hok
      unfold JoinOk at hok'
      rw [Bool.not_eq_true'] at hok'
      have g : Gives (joinTail sep (strValues l)) (joinMade sep l) := by
        have g0 := gives_joinTail sep l hok'
        cases l with
        | nil => exact g0
        | cons p r => cases r with
          | nil => exact g0
          | cons q r' => exact g0
      refine g prog w A (wants Q E) s' (post_join l ⟨joinFit_length hok', hQ s' (fun b o e => hm.heap b o (fun hb => ?_) (Heap.get?_push_of_some _ e)) hm.gens hm.drawn hm.os⟩)
      have hlt := Heap.lt_size e
      rw [List.mem_singleton.mp hb] at hlt
      exact absurd hlt (Nat.lt_irrefl _)
end
section
variable {X : Cx}
/-- sep.join(text) -/
theorem mt_joinT (hc : X.calm = true) : MtR X "str.join" (fun x xs H Q => ∃ a z, x = .str a ∧ xs = [.str z] ∧
    ((z.cps.toList.map fun c => (⟨#[c]⟩ : PySem.Str)).map (·.length)).sum + (z.cps.toList.map fun c => (⟨#[c]⟩ : PySem.Str)).length * a.length ≤ 16777216 ∧ z.cps.size ≤ sizeLine ∧
    Q (.str (Txt.join a (z.cps.toList.map fun c => (⟨#[c]⟩ : PySem.Str)))) H) := by
  intro pins s σ H x xs v us Q I rx rs h
  obtain ⟨a, z, rfl, rfl, hz, hsz, h⟩ := h
  obtain ⟨t, rfl⟩ := rx
  obtain ⟨u, rfl, ru⟩ := vals1 rs
  obtain ⟨t2, rfl⟩ := ru
  refine join_text (I.ok.hd hc) hz hsz fun s' k g d o t' tk => ?_
  have J : Inv X pins σ H { s with heap := s'.heap, gens := s'.gens, drawn := s'.drawn, toks := tk } :=
    I.call (ch := []) (Un.kept k) (I.hok.kept k) (by rw [g]; exact I.bare) (fun _ z => nomatch z)
  have e : { s' with toks := tk } = { s with heap := s'.heap, gens := s'.gens, drawn := s'.drawn, toks := tk } := by
    cases s'
    cases s
    cases o
    rfl
  rw [e]
  exact ⟨.str _, H, J, ⟨t', rfl⟩, h⟩
end
end Pv

/-! Slices, built-ins, methods: by the values. -/
namespace Pv
open PySem PySem.Spec PyProof.Rows L2 TL

def SSl (X : Cx) : V → Option Int → Option Int → Hp → VK → Prop := fun x lo hi H Q => ∃ r, SlR X r ∧ r x lo hi H Q
theorem sl_SS {X : Cx} : SlR X (SSl X) := fun pins s σ H x v vl vu lo hi sl Q I rx hs pl pu ⟨_, h, q⟩ => h pins s σ H x v vl vu lo hi sl Q I rx hs pl pu q
def SM (X : Cx) (id : String) : V → List V → Hp → VK → Prop := fun x xs H Q => ∃ r, MtR X id r ∧ r x xs H Q
theorem mt_SM {X : Cx} {id : String} : MtR X id (SM X id) := fun pins s σ H x xs v us Q I rx rs ⟨_, h, q⟩ => h pins s σ H x xs v us Q I rx rs q
theorem cutS_txt (z : Tx) (lo hi : Option Int) : cutS (txt z) lo hi = txt (cutL z lo hi) := by
  unfold cutS cutL
  rw [txt_len]
  rfl
theorem cut_rep {K : Frag} {H : Hp} {ds : List D} {vs : List V} (r : RepDs K H ds vs) (lo hi : Option Int) : RepDs K H (cutL ds lo hi) (cutV vs lo hi) := by
  unfold cutL cutV
  rw [r.length]
  exact (r.drop _).take _

section
variable {X : Cx} {mg : Str → Option Value} {al : Al} {H : Hp} {st : Store} {Ex : Value → Hp → Prop} {Q : VK}
theorem sl_ok (r : Rel X.K al H st) {x : Val} {u : V} (rx : RepW X.K al H x u) {lo hi : Option Int}
    (h : PostR X.K mg al H Ex (fun v _ H' => ∀ u, RepV X.K al H' v u → Q u H') (sliceV x lo hi st)) : SSl X u lo hi H Q := by
  unfold sliceV at h
  split at h
  · rename_i z
    cases rx
    split at h
    · rename_i c
      refine ⟨_, sl_str, _, rfl, by rw [txt_len, ← line_eq]; exact c, ?_⟩
      rw [cutS_txt]
      exact fin0 r h _ (.str _)
    · exact h.elim
  · rename_i z
    cases rx with
    | @tup a _ vs a1 a2 =>
      refine ⟨_, sl_tupA, a, vs, rfl, a1, fun w => ?_, fun w => finT r h (cut_rep a2 lo hi)⟩
      have e : cutL z lo hi = z := by
        unfold cutL
        rw [a2.length, w.1, w.2, ← a2.length]
        simp
      rw [e] at h
      exact fin0 r h _ (.tup a1 a2)
  · split at h
    · rename_i z e
      obtain ⟨a, vs, rfl, hs, rd⟩ := lst_sq r rx e
      exact ⟨_, sl_list, a, vs, rfl, hs, finL r h (cut_rep rd lo hi)⟩
    · exact h.elim

/-! ### built-ins -/
def tyOfD : D → String
  | .non => "NoneType" | .bl _ => "bool" | .int _ => "int" | .str _ => "str" | .tup _ => "tuple" | .lst _ => "list"
theorem tyx_rep {d : D} {v : V} (r : RepD X.K H d v) : TyX X.K H v (.type (tyOfD d)) := by
  cases r with
  | non => exact .base .non
  | bl b => exact .base (.bl b)
  | int i => exact .base (.int i)
  | str x => exact .base (.str _)
  | tup h _ =>
    rcases h with (h | ⟨o, h⟩) | ⟨o, _, _, e, c, _⟩
    · exact .base (.tup h)
    · exact .fTuple h
    · exact .kTuple e c
  | lst h _ =>
    rcases h with ⟨o, h⟩ | ⟨o, _, _, e, c, _⟩
    · exact .base (.frz h)
    · exact .kList e c
def tyStr : Ty → String
  | .tup => "tuple" | .bool => "bool" | .int => "int" | .str => "str"
theorem kit_all (d : D) (t : Ty) : kitB (tyOfD d) (tyStr t) = some (tyIs t (.d d)) := by
  cases d <;> cases t <;> simp only [tyOfD, tyStr, tyIs] <;> decide +kernel
theorem isi_ok {t : Ty} {v : Val} {u : V} {b : Bool} (rv : RepW X.K al H v u) (e : isiV t v = some b) (q : Q (.bl b) H) : rIsi X.K [u, .ty (tyStr t)] H Q := by
  unfold isiV at e
  split at e
  · rename_i d
    cases e
    exact ⟨u, _, _, _, _, rfl, .ty _, tyx_rep rv, kit_ty (kit_all d t), q⟩
  · cases e
/-- a built-in's own value -/
def bltVal : Blt → Value
  | .tuple => .type "tuple" | .list => .type "list" | .int => .type "int" | .str => .type "str"
  | .len => .builtin "len" | .sorted => .builtin "sorted" | .max => .builtin "max" | .min => .builtin "min" | .sum => .builtin "sum" | .abs => .builtin "abs"
  | .ord => .builtin "ord" | .any => .builtin "any" | .all => .builtin "all" | .sset => .builtin "sorted"
theorem vs1 {v : Val} {us : List V} (h : RepVs X.K al H [v] us) : ∃ u, us = [u] ∧ RepW X.K al H v u := by
  cases h with
  | cons a b => cases b; exact ⟨_, rfl, a⟩
theorem vs2 {v w : Val} {us : List V} (h : RepVs X.K al H [v, w] us) : ∃ u1 u2, us = [u1, u2] ∧ RepW X.K al H v u1 ∧ RepW X.K al H w u2 := by
  cases h with
  | cons a b =>
    cases b with
    | cons b c => cases c; exact ⟨_, _, rfl, a, b⟩
theorem intsAll {xs : List D} {vs : List V} {ns : List Int} (rd : RepDs X.K H xs vs) (e : allM intOf xs = some ns) : vs = ns.map V.int := rd.ints e
theorem sortI_pw {ns ns' : List Int} (p : ns'.Perm ns) (w : ns'.Pairwise (· ≤ ·)) : ns' = sortI ns := by
  refine sortI_uniq p (w.imp fun {a b} h => ?_)
  unfold leG ltI
  rw [decide_eq_false_iff_not]
  omega
theorem digit_int {c : Nat} (h1 : 48 ≤ c) (h2 : c < 58) : PySem.intText? (txt [c]) = some ((c : Int) - 48) := by
  have : c = 48 ∨ c = 49 ∨ c = 50 ∨ c = 51 ∨ c = 52 ∨ c = 53 ∨ c = 54 ∨ c = 55 ∨ c = 56 ∨ c = 57 := by omega
  rcases this with rfl | rfl | rfl | rfl | rfl | rfl | rfl | rfl | rfl | rfl <;> decide +kernel
theorem digit_str {i : Int} (h1 : 0 ≤ i) (h2 : i < 10) : (toString i : Str) = txt [48 + i.toNat] := by
  have : i = 0 ∨ i = 1 ∨ i = 2 ∨ i = 3 ∨ i = 4 ∨ i = 5 ∨ i = 6 ∨ i = 7 ∨ i = 8 ∨ i = 9 := by omega
  rcases this with rfl | rfl | rfl | rfl | rfl | rfl | rfl | rfl | rfl | rfl <;> decide +kernel
theorem blt_ok (hc : X.calm = true) (r : Rel X.K al H st) {f : Blt} {vs : List Val} {us : List V} (rv : RepVs X.K al H vs us)
    (h : PostR X.K mg al H Ex (fun v _ H' => ∀ u, RepV X.K al H' v u → Q u H') (bltV f vs st)) : SCl X (bltVal f) us H Q := by
  unfold bltV at h
  split at h
  · -- len of a text
    rename_i z
    obtain ⟨u, rfl, a⟩ := vs1 rv
    cases a
    split at h
    · rename_i c
      refine ⟨_, call_len_str, _, rfl, by rw [txt_len, ← line_eq]; exact c, ?_⟩
      rw [txt_len]
      exact fin0 r h _ (.int _)
    · exact h.elim
  · -- len
    rename_i v _
    obtain ⟨u, rfl, a⟩ := vs1 rv
    split at h
    · rename_i xs e
      obtain ⟨p, ws, rfl, hs, rd⟩ := seq_sq r a e
      refine ⟨_, call_len_seq, p, ws, rfl, hs, ?_⟩
      rw [← rd.length]
      exact fin0 r h _ (.int _)
    · exact h.elim
  · rename_i xs
    obtain ⟨u, rfl, a⟩ := vs1 rv
    cases a with
    | @tup p _ ws h1 h2 => exact ⟨_, call_tuple_of, p, ws, rfl, .inr ⟨h1, fin0 r h _ (.tup h1 h2)⟩⟩
  · rename_i v _
    obtain ⟨u, rfl, a⟩ := vs1 rv
    split at h
    · rename_i xs e
      obtain ⟨p, ws, rfl, hs, rd⟩ := lst_sq r a e
      exact ⟨_, call_tuple_of, p, ws, rfl, .inl ⟨hs, finT r h rd⟩⟩
    · exact h.elim
  · rename_i v
    obtain ⟨u, rfl, a⟩ := vs1 rv
    split at h
    · rename_i xs e
      obtain ⟨p, ws, rfl, hs, rd⟩ := seq_sq r a e
      exact ⟨_, call_list_of, p, ws, rfl, hs, finL r h rd⟩
    · exact h.elim
  · rename_i z
    obtain ⟨u, rfl, a⟩ := vs1 rv
    cases a
    split at h
    · rename_i c
      refine ⟨_, cr_sortedText hc, txt z, rfl, by show z.toArray.size < 64; rw [List.size_toArray]; exact c, fun ys q pm so hq => ?_⟩
      have pm' : ys.Perm ((z.map fun c => ([c] : Tx)).map txt) := by
        rw [List.map_map]
        exact pm
      rw [sortedS_eq pm' so]
      exact finL r h (repStrs _) q hq
    · exact h.elim
  · rename_i v _
    obtain ⟨u, rfl, a⟩ := vs1 rv
    split at h
    · rename_i xs e
      obtain ⟨p, ws, rfl, hs, rd⟩ := lst_sq r a e
      split at h
      · rename_i c
        split at h
        · rename_i ts et
          have ew := rd.txts et
          subst ew
          have hl : ts.length < 64 := by
            have := rd.length
            simp only [List.length_map] at this
            omega
          refine ⟨_, cr_sortedS, p, ts.map txt, rfl, hs, by rw [List.length_map]; exact hl, fun ys q pm so hq => ?_⟩
          rw [sortedS_eq pm so]
          exact finL r h (repStrs _) q hq
        · split at h
          · rename_i ns en
            have ew := rd.ints en
            subst ew
            have hl : ns.length < 64 := by
              have := rd.length
              simp only [List.length_map] at this
              omega
            refine ⟨_, cr_sorted, p, ns, rfl, hs, hl, fun ys q pm so hq => ?_⟩
            rw [sortI_pw pm so]
            exact finL r h (repInts _) q hq
          · exact h.elim
      · exact h.elim
    · exact h.elim
  · rename_i i j
    obtain ⟨u, w, rfl, a, b⟩ := vs2 rv
    cases a
    cases b
    exact ⟨_, call_max2 hc, i, j, rfl, fin0 r h _ (.int _)⟩
  · rename_i i j
    obtain ⟨u, w, rfl, a, b⟩ := vs2 rv
    cases a
    cases b
    exact ⟨_, call_min2 hc, i, j, rfl, fin0 r h _ (.int _)⟩
  · rename_i i
    obtain ⟨u, rfl, a⟩ := vs1 rv
    cases a
    exact ⟨_, call_abs, i, rfl, fin0 r h _ (.int _)⟩
  · rename_i v
    obtain ⟨u, rfl, a⟩ := vs1 rv
    split at h
    · rename_i xs e
      obtain ⟨p, ws, rfl, hs, rd⟩ := lst_sq r a e
      split at h
      · rename_i ns en
        have ew := rd.ints en
        subst ew
        exact ⟨_, cr_sum hc, p, ns, rfl, hs, fin0 r h _ (.int _)⟩
      · exact h.elim
    · exact h.elim
  · rename_i i
    obtain ⟨u, rfl, a⟩ := vs1 rv
    cases a
    exact ⟨_, call_int1, .inl ⟨i, rfl, fin0 r h _ (.int _)⟩⟩
  · rename_i i
    obtain ⟨u, rfl, a⟩ := vs1 rv
    cases a
    exact ⟨_, call_int1, .inr ⟨i, rfl, fin0 r h _ (.int _)⟩⟩
  · rename_i c
    obtain ⟨u, rfl, a⟩ := vs1 rv
    cases a
    split at h
    · rename_i q
      refine ⟨_, call_int_str, txt [c], (c : Int) - 48, rfl, digit_int q.1 q.2, (by show 1 ≤ 640; omega), fin0 r h _ (.int _)⟩
    · exact h.elim
  · rename_i i
    obtain ⟨u, rfl, a⟩ := vs1 rv
    cases a
    split at h
    · rename_i q
      refine ⟨_, call_str_int, i, rfl, (by have : i.natAbs < 16 := by omega
                                           have := Nat.log2_lt (n := i.natAbs) (k := 4)
                                           by_cases z : i.natAbs = 0
                                           · rw [z]; decide
                                           · have := (this z).mpr (by omega); omega), ?_⟩
      rw [digit_str q.1 q.2]
      exact fin0 r h _ (.str _)
    · exact h.elim
  · rename_i c
    obtain ⟨u, rfl, a⟩ := vs1 rv
    cases a
    exact ⟨_, call_ord, txt [c], rfl, rfl, fin0 r h _ (.int _)⟩
  · rename_i v
    obtain ⟨u, rfl, a⟩ := vs1 rv
    split at h
    · rename_i xs e
      obtain ⟨p, ws, rfl, hs, rd⟩ := lst_sq r a e
      split at h
      · rename_i bs eb
        have ew := rd.bls eb
        subst ew
        exact ⟨_, cr_any hc, p, bs, rfl, hs, fin0 r h _ (.bl _)⟩
      · exact h.elim
    · exact h.elim
  · rename_i v
    obtain ⟨u, rfl, a⟩ := vs1 rv
    split at h
    · rename_i xs e
      obtain ⟨p, ws, rfl, hs, rd⟩ := lst_sq r a e
      split at h
      · rename_i bs eb
        have ew := rd.bls eb
        subst ew
        exact ⟨_, cr_all hc, p, bs, rfl, hs, fin0 r h _ (.bl _)⟩
      · exact h.elim
    · exact h.elim
  · exact h.elim

end
end Pv

/-! Shapes of checked texts; the shutting of cells; targets; walks; contexts of blocks. -/
namespace Pv
open PySem PySem.Spec PyProof.Rows L2 TL

/-! ### shapes -/
def okShape : Expr → Bool
  | .Starred .. => false
  | .Slice .. => false
  | .Set .. => false
  | _ => true
theorem chk_shape {N : List Str} {sc : Scope} : ∀ (e : E) (ex : Expr), chkE N sc e ex = true → okShape ex = true
  | .frz a, ex, h => chk_shape a ex (by unfold chkE at h; exact h)
  | .var _, ex, h => by cases ex <;> first | rfl | (unfold chkE at h; cases h)
  | .int _, ex, h => by cases ex <;> first | rfl | (unfold chkE at h; cases h)
  | .str _, ex, h => by cases ex <;> first | rfl | (unfold chkE at h; cases h)
  | .bl _, ex, h => by cases ex <;> first | rfl | (unfold chkE at h; cases h)
  | .non, ex, h => by cases ex <;> first | rfl | (unfold chkE at h; cases h)
  | .glob _, ex, h => by cases ex <;> first | rfl | (unfold chkE at h; cases h)
  | .bin _ _ _, ex, h => by cases ex <;> first | rfl | (unfold chkE at h; cases h)
  | .neg _, ex, h => by cases ex <;> first | rfl | (unfold chkE at h; cases h)
  | .inv _, ex, h => by cases ex <;> first | rfl | (unfold chkE at h; cases h)
  | .not _, ex, h => by cases ex <;> first | rfl | (unfold chkE at h; cases h)
  | .cmp _ _ _, ex, h => by cases ex <;> first | rfl | (unfold chkE at h; cases h)
  | .chain _ _ _ _ _, ex, h => by cases ex <;> first | rfl | (unfold chkE at h; cases h)
  | .and _, ex, h => by cases ex <;> first | rfl | (unfold chkE at h; cases h)
  | .or _, ex, h => by cases ex <;> first | rfl | (unfold chkE at h; cases h)
  | .ite _ _ _, ex, h => by cases ex <;> first | rfl | (unfold chkE at h; cases h)
  | .tup _, ex, h => by cases ex <;> first | rfl | (unfold chkE at h; cases h)
  | .list _, ex, h => by cases ex <;> first | rfl | (unfold chkE at h; cases h)
  | .ix _ _, ex, h => by cases ex <;> first | rfl | (unfold chkE at h; cases h)
  | .slice _ _ _, ex, h => by cases ex <;> first | rfl | (unfold chkE at h; cases h)
  | .slice0 _ _, ex, h => by cases ex <;> first | rfl | (unfold chkE at h; cases h)
  | .slice1 _ _, ex, h => by cases ex <;> first | rfl | (unfold chkE at h; cases h)
  | .rev _, ex, h => by cases ex <;> first | rfl | (unfold chkE at h; cases h)
  | .call _ _, ex, h => by cases ex <;> first | rfl | (unfold chkE at h; cases h)
  | .blt _ _, ex, h => by cases ex <;> first | rfl | (unfold chkE at h; cases h)
  | .meth _ _ _, ex, h => by cases ex <;> first | rfl | (unfold chkE at h; cases h)
  | .isi _ _, ex, h => by cases ex <;> first | rfl | (unfold chkE at h; cases h)
  | .lc _ _ _ _, ex, h => by cases ex <;> first | rfl | (unfold chkE at h; cases h)
theorem shape_star {ex : Expr} (h : okShape ex = true) (es : List Expr) (env : PySem.Env) : starEach (ex :: es) env = (false, eval ex env) :: starEach es env := by
  cases ex <;> first | rfl | cases h
theorem shape_plain {ex : Expr} (h : okShape ex = true) : PlainIx ex := by
  intro o i
  cases ex <;> first | rfl | cases h
theorem shape_mark {ex : Expr} (h : okShape ex = true) (op : CmpOp) : behindInMarks op ex = false := by
  cases ex <;> first | rfl | cases h
theorem shape_fold {ex : Expr} (h : okShape ex = true) (env : PySem.Env) (x : Value) : foldedSetIterable ex env x = pure x := by
  cases ex <;> first | rfl | cases h
theorem shape_swap {ex : Expr} (h : isLC ex = false) (hs : okShape ex = true) (t : Option Expr) (l : Nat) (env : PySem.Env) : True := trivial
theorem chks_shape {N : List Str} {sc : Scope} : ∀ (es : Es) (xs : List Expr), chkEs N sc es xs = true → ∀ x ∈ xs, okShape x = true
  | .nil, xs, h => by
    unfold chkEs at h
    split at h
    · intro x hx; cases hx
    · cases h
  | .cons e es, xs, h => by
    unfold chkEs at h
    split at h
    · simp only [Bool.and_eq_true] at h
      intro x hx
      rcases List.mem_cons.mp hx with q | q
      · rw [q]; exact chk_shape e _ h.1
      · exact chks_shape es _ h.2 x q
    · cases h
theorem shapes_plain {xs : List Expr} (h : ∀ x ∈ xs, okShape x = true) (pos : Pos) (env : PySem.Env) : (backTo pos (starEach xs env)).any (·.1) = false := by
  have e : starEach xs env = xs.map fun x => (false, eval x env) := by
    induction xs with
    | nil => rfl
    | cons x xs ih =>
      rw [shape_star (h x List.mem_cons_self), ih fun y hy => h y (List.mem_cons_of_mem _ hy)]
      rfl
  rw [e]
  cases xs with
  | nil => first | rfl | simp [backTo]
  | cons x r =>
    have : ∀ l : List Expr, (l.map fun x => (false, eval x env)).any (·.1) = false := fun l => by
      rw [List.any_map, List.any_eq_false]
      intro y _
      simp
    first
      | exact this _
      | (simp [backTo, this])

/-! ### the shutting of cells -/
/-- Q holds of the heap as it may be told -/
def Gh (X : Cx) (H : Hp) (Q : Hp → Prop) : Prop := ∀ (pins : List (Addr × Obj)) (σ : L2.St) (s : Shared), Inv X pins σ H s → ∃ H', Inv X pins σ H' s ∧ Q H'
section
variable {X : Cx} {H : Hp}
theorem Gh.here {Q : Hp → Prop} (h : Q H) : Gh X H Q := fun _ _ _ I => ⟨H, I, h⟩
theorem Gh.join {Q : Hp → Prop} (h : Gh X H fun H1 => Gh X H1 Q) : Gh X H Q := fun pins σ s I => by
  obtain ⟨H1, I1, g⟩ := h pins σ s I
  exact g pins σ s I1
theorem Gh.imp {Q Q' : Hp → Prop} (h : Gh X H Q) (f : ∀ H', Q H' → Q' H') : Gh X H Q' := fun pins σ s I => by
  obtain ⟨H1, I1, g⟩ := h pins σ s I
  exact ⟨H1, I1, f _ g⟩
theorem Gh.shut {Q : Hp → Prop} {a : Addr} {vs : List V} (h : H a = some (.lst vs)) (q : ∀ o, Q (upd H a (.frz o (.lst vs)))) : Gh X H Q := fun pins σ s I => by
  obtain ⟨o, J⟩ := shut_ok I h
  exact ⟨_, J, q o⟩
theorem SE.gh {e : Expr} {σ : L2.St} {Q : VK} (h : SE X e σ H fun v H1 => Gh X H1 fun H2 => Q v H2) : SE X e σ H Q := by
  obtain ⟨t, p, q⟩ := h
  refine ⟨fun σ' H' Q' => t σ' H' fun v H1 => Gh X H1 fun H2 => Q' v H2, ⟨fun pins s σ' H' Q' I h' => ?_⟩, q⟩
  refine thn (p.run pins s σ' H' _ I h') fun u s1 ⟨v, H1, I1, r1, g⟩ => ?_
  obtain ⟨H2, I2, q2⟩ := g pins σ' s1 I1
  exact ⟨v, H2, I2, r1, q2⟩
theorem SA.gh {es : List Expr} {σ : L2.St} {Q : List V → Hp → Prop} (h : SA X es σ H fun v H1 => Gh X H1 fun H2 => Q v H2) : SA X es σ H Q := by
  obtain ⟨t, p, q⟩ := h
  refine ⟨fun σ' H' Q' => t σ' H' fun v H1 => Gh X H1 fun H2 => Q' v H2, ⟨fun pos pins s σ' H' Q' I h' => ?_⟩, q⟩
  refine thn (p.run pos pins s σ' H' _ I h') fun u s1 ⟨v, H1, I1, r1, g⟩ => ?_
  obtain ⟨H2, I2, q2⟩ := g pins σ' s1 I1
  exact ⟨v, H2, I2, r1, q2⟩
variable {al : Al} {st st' : Store}
/-- a value made data -/
theorem toD_gh {v : Val} {u : V} {d : D} {Q : Hp → Prop} (r : Rel X.K al H st) (rv : RepW X.K al H v u) (e : toD v st = some (d, st')) (q : ∀ H', Rel X.K al H' st' → Ext al H al H' → RepD X.K H' d u → Q H') : Gh X H Q := by
  cases v with
  | d d' =>
    cases e
    exact .here (q H r (Ext.refl _ _) rv)
  | new xs =>
    cases e
    obtain ⟨a, vs, rfl, ha | ⟨o, ha⟩, hn, rd⟩ := rv
    · exact .shut ha fun o => q _ (r.other hn (stab_upd ha)) (ext_other hn ha) (.lst (.inl ⟨o, upd_same⟩) (rd.mono (stab_upd ha)))
    · exact .here (q H r (Ext.refl _ _) (.lst (.inl ⟨o, ha⟩) rd))
  | ref i =>
    obtain ⟨a, ha, rfl⟩ := rv
    unfold toD at e
    split at e
    · rename_i v' j q1
      cases q1
    · rename_i v' j q1
      cases q1
    · rename_i v' j q1
      cases q1
      split at e
      · rename_i xs hx
        cases e
        obtain ⟨vs, h1, h2⟩ := r.cell i _ a hx ha
        exact .shut h1 fun o => q _ (r.upd ha (stab_upd h1) ⟨o, vs, upd_same, h2.mono (stab_upd h1)⟩) (ext_cell (List.mem_of_getElem? ha) h1) (.lst (.inl ⟨o, upd_same⟩) (h2.mono (stab_upd h1)))
      · rename_i xs hx
        cases e
        obtain ⟨o, vs, h1, h2⟩ := r.cell i _ a hx ha
        exact .here (q H r (Ext.refl _ _) (.lst (.inl ⟨o, h1⟩) h2))
      · cases e
/-- values made data, one after another -/
theorem toDs_gh : ∀ {vs : List Val} {us : List V} {ds : List D} {st st' : Store} {H : Hp} {Q : Hp → Prop}, Rel X.K al H st → RepVs X.K al H vs us → toDs vs st = some (ds, st') →
    (∀ H', Rel X.K al H' st' → Ext al H al H' → RepDs X.K H' ds us → Q H') → Gh X H Q
  | [], _, _, _, _, H, _, r, .nil, e, q => by
    cases e
    exact .here (q H r (Ext.refl _ _) .nil)
  | v :: vs, _, ds, st, st', H, Q, r, .cons h t, e, q => by
    unfold toDs at e
    split at e
    · cases e
    · rename_i d s1 e1
      split at e
      · cases e
      · rename_i ds2 s2 e2
        cases e
        refine .join (toD_gh r h e1 fun H1 r1 x1 rd => ?_)
        refine toDs_gh r1 (RepVs.mono x1 t) e2 fun H2 r2 x2 rds => ?_
        exact q H2 r2 (x1.trans x2) (.cons (rd.mono x2.stab) rds)
/-- what a call hands on: new lists are shut -/
theorem args_gh : ∀ {vs : List Val} {us : List V} {st : Store} {H : Hp} {Q : Hp → Prop}, Rel X.K al H st → RepVs X.K al H vs us →
    (∀ H', Rel X.K al H' st → Ext al H al H' → RepVs X.K al H' (vs.map argV) us → Q H') → Gh X H Q
  | [], _, _, H, _, r, .nil, q => .here (q H r (Ext.refl _ _) .nil)
  | v :: vs, _, st, H, Q, r, .cons h t, q => by
    have e : ∃ d st', (v = .d d ∨ (∃ i, v = .ref i) ∨ ∃ xs, v = .new xs ∧ d = .lst xs ∧ toD v st = some (d, st') ∧ st' = st) := by
      cases v with
      | d d => exact ⟨d, st, .inl rfl⟩
      | ref i => exact ⟨.non, st, .inr (.inl ⟨i, rfl⟩)⟩
      | new xs => exact ⟨_, st, .inr (.inr ⟨xs, rfl, rfl, rfl, rfl⟩)⟩
    obtain ⟨d, st', rfl | ⟨i, rfl⟩ | ⟨xs, rfl, rfl, e1, rfl⟩⟩ := e
    · exact args_gh r t fun H1 r1 x1 rs => q H1 r1 x1 (.cons (RepW.mono x1 h) rs)
    · exact args_gh r t fun H1 r1 x1 rs => q H1 r1 x1 (.cons (RepW.mono x1 h) rs)
    · refine .join (toD_gh r h e1 fun H1 r1 x1 rd => ?_)
      exact args_gh r1 (RepVs.mono x1 t) fun H2 r2 x2 rs => q H2 r2 (x1.trans x2) (.cons (RepD.mono x2.stab rd) rs)
theorem argV_new (vs : List Val) : ∀ a ∈ vs.map argV, isNew a = false := by
  intro a ha
  obtain ⟨v, _, rfl⟩ := List.mem_map.mp ha
  cases v <;> rfl
end

/-! ### targets -/
section
variable {N : List Str} {sc : Scope} {k : Nat} {X : Cx} {al : Al} {H : Hp}
theorem wipe_set {σ : L2.St} {v : Option V} : ∀ {is : List Nat} {i : Nat}, i ∈ is → wipe (σ.set i v) is = wipe σ is
  | j :: is, i, h => by
    unfold wipe
    by_cases e : i = j
    · subst e
      by_cases hm : i ∈ is
      · rw [wipe_set hm]
      · have comm : ∀ (l : List Nat), i ∉ l → wipe (σ.set i v) l = (wipe σ l).set i v := by
          intro l hl
          induction l with
          | nil => rfl
          | cons a l ih =>
            unfold wipe
            rw [ih (fun z => hl (List.mem_cons_of_mem _ z)), List.set_comm _ _ (fun z => hl (by rw [z]; exact List.mem_cons_self))]
        rw [comm is hm, List.set_set]
    · have hm : i ∈ is := by
        rcases List.mem_cons.mp h with q | q
        · exact absurd q e
        · exact q
      rw [wipe_set hm]
def slotsLen : Tgs → Nat
  | .nil => 0
  | .cons _ ts => slotsLen ts + 1
def SndG (N : List Str) (t : Tg) : Prop := ∀ ⦃sc : Scope⦄ ⦃k : Nat⦄ ⦃X : Cx⦄ ⦃al : Al⦄ ⦃H : Hp⦄ ⦃ex : Expr⦄ ⦃d : D⦄ ⦃v : V⦄ ⦃env env1 : Env⦄ ⦃σ : L2.St⦄ ⦃Q : L2.St → Hp → Prop⦄, Good N sc k X → chkG N sc t ex = true →
  EnvR X.K al H env σ → RepD X.K H d v → bindT t d env = some env1 → (∀ σ1, EnvR X.K al H env1 σ1 → (∀ is, (∀ i ∈ slotsT t, i ∈ is) → wipe σ1 is = wipe σ is) → Q σ1 H) → SG X ex v σ H Q
def SndGs (N : List Str) (t : Tgs) : Prop := ∀ ⦃sc : Scope⦄ ⦃k : Nat⦄ ⦃X : Cx⦄ ⦃al : Al⦄ ⦃H : Hp⦄ ⦃exs : List Expr⦄ ⦃ds : List D⦄ ⦃vs : List V⦄ ⦃env env1 : Env⦄ ⦃σ : L2.St⦄ ⦃Q : L2.St → Hp → Prop⦄, Good N sc k X → chkGs N sc t exs = true →
  EnvR X.K al H env σ → RepDs X.K H ds vs → bindTs t ds env = some env1 → (∀ σ1, EnvR X.K al H env1 σ1 → (∀ is, (∀ i ∈ slotsTs t, i ∈ is) → wipe σ1 is = wipe σ is) → Q σ1 H) → SGs X exs vs σ H Q
theorem chkGs_len : ∀ (t : Tgs) (exs : List Expr), chkGs N sc t exs = true → exs.length = (slotsLen t)
  | .nil, [], _ => rfl
  | .cons t ts, [], h => by unfold chkGs at h; cases h
  | .nil, _ :: _, h => by unfold chkGs at h; cases h
  | .cons t ts, x :: xs, h => by
    unfold chkGs at h
    simp only [Bool.and_eq_true] at h
    exact congrArg (· + 1) (chkGs_len ts xs h.2)
theorem bindTs_len : ∀ (t : Tgs) (ds : List D) (env env1 : Env), bindTs t ds env = some env1 → ds.length = slotsLen t
  | .nil, [], _, _, _ => rfl
  | .cons t ts, [], _, _, h => by unfold bindTs at h; cases h
  | .nil, _ :: _, _, _, h => by unfold bindTs at h; cases h
  | .cons t ts, x :: xs, env, env1, h => by
    unfold bindTs at h
    split at h
    · exact congrArg (· + 1) (bindTs_len ts xs _ _ h)
    · cases h
theorem chkGs_star : ∀ {t : Tgs} {exs : List Expr} (env : PySem.Env), chkGs N sc t exs = true → (assignEach exs env).map (·.2) = exs.map (fun e => assign e env) ∧ (assignEach exs env).findIdx? (·.1) = none ∧ (assignEach exs env).length = exs.length
  | .nil, [], _, _ => ⟨rfl, rfl, rfl⟩
  | .cons t ts, [], _, h => by unfold chkGs at h; cases h
  | .nil, _ :: _, _, h => by unfold chkGs at h; cases h
  | .cons t ts, x :: xs, env, h => by
    unfold chkGs at h
    simp only [Bool.and_eq_true] at h
    obtain ⟨h1, h2, h3⟩ := chkGs_star env h.2
    have e : assignEach (x :: xs) env = (false, assign x env) :: assignEach xs env := by
      cases t <;> cases x <;> first | rfl | (have := h.1; unfold chkG at this; cases this)
    refine ⟨by rw [e, List.map_cons, h1]; rfl, ?_, by rw [e, List.length_cons, h3]; rfl⟩
    rw [e, List.findIdx?_cons]
    simp [h2]
mutual
theorem snd_G : ∀ t : Tg, SndG N t
  | .name i => by
    intro sc k X al H ex d v env env1 σ Q g hc hE hd hb q
    unfold chkG at hc
    split at hc
    · rename_i j x p heq
      cases heq
      unfold isSet at hc
      simp only [Bool.and_eq_true, decide_eq_true_eq] at hc
      cases hb
      obtain ⟨l1, l2⟩ := g.loc x hc.1.2
      refine ⟨_, pg_name (by rw [g.n]; exact g.nd) (by rw [g.n]; exact hc.1.1) l1 l2, ?_⟩
      refine q _ (hE.set (v := .d d) rfl hd i) fun is his => wipe_set (his i ?_)
      unfold slotsT
      simp
    · rename_i heq; cases heq
    · cases hc
  | .tup ts => by
    intro sc k X al H ex d v env env1 σ Q g hc hE hd hb q
    unfold chkG at hc
    split at hc
    · rename_i heq; cases heq
    · rename_i ts' xs kk pp heq
      cases heq
      unfold bindT at hb
      split at hb
      · rename_i dxs
        cases hd with
        | @tup a _ vs h1 h2 =>
          obtain ⟨s1, s2, s3⟩ := chkGs_star X.env hc
          refine ⟨_, pg_tup g.calm pgs_SGs (hn := s3) (hst := s2), a, vs, rfl, h1, ?_, ?_⟩
          · have l1 := bindTs_len ts dxs env env1 hb
            have l2 := chkGs_len ts xs hc
            have l3 := h2.length
            omega
          · refine snd_Gs ts g hc hE h2 hb fun σ1 e1 w1 => q σ1 e1 fun is his => w1 is fun i hi => his i ?_
            unfold slotsT
            exact hi
      · cases hb
    · cases hc
theorem snd_Gs : ∀ t : Tgs, SndGs N t
  | .nil => by
    intro sc k X al H exs ds vs env env1 σ Q g hc hE hd hb q
    cases exs with
    | nil =>
      cases ds with
      | nil =>
        cases hd
        cases hb
        exact ⟨_, pgs_nil, rfl, q _ hE fun _ _ => rfl⟩
      | cons _ _ => unfold bindTs at hb; cases hb
    | cons _ _ => unfold chkGs at hc; cases hc
  | .cons t ts => by
    intro sc k X al H exs ds vs env env1 σ Q g hc hE hd hb q
    cases exs with
    | nil => unfold chkGs at hc; cases hc
    | cons x xs =>
      cases ds with
      | nil => unfold bindTs at hb; cases hb
      | cons d ds =>
        cases hd with
        | cons hd1 hd2 =>
          unfold bindTs at hb
          split at hb
          · rename_i e1 hb1
            obtain ⟨s1, _, _⟩ := chkGs_star X.env hc
            unfold chkGs at hc
            simp only [Bool.and_eq_true] at hc
            obtain ⟨s2, _, _⟩ := chkGs_star X.env hc.2
            refine ⟨_, pgs_cons (pg_SG (e := x)) (pgs_SGs (es := xs)) (hs := by rw [s1, s2]; rfl), _, _, rfl, ?_⟩
            refine snd_G t g hc.1 hE hd1 hb1 fun σ1 e1 w1 => ?_
            refine snd_Gs ts g hc.2 e1 hd2 hb fun σ2 e2 w2 => q σ2 e2 fun is his => ?_
            rw [w2 is fun i hi => his i (by unfold slotsTs; exact List.mem_append_right _ hi), w1 is fun i hi => his i (by unfold slotsTs; exact List.mem_append_left _ hi)]
          · cases hb
end
end

/-! ### blocks of comprehensions -/
theorem look_fwd {sc : Scope} : ∀ {names : List (Str × NameKind)} {x : Str} {k : NameKind}, names.lookup x = some k →
    ∃ k', (names.map fun (n, k) => if (k == NameKind.free && sc.kind == .function && sc.names.lookup n == some .cell) then (n, NameKind.cell) else (n, k)).lookup x = some k' ∧ (k' = k ∨ (k = .free ∧ k' = .cell))
  | [], _, _, h => by simp at h
  | (n, k₀) :: r, x, k, h => by
    have ih := @look_fwd sc r x k
    show ∃ k', List.lookup x ((if (k₀ == NameKind.free && sc.kind == .function && sc.names.lookup n == some .cell) = true then (n, NameKind.cell) else (n, k₀)) :: (r.map _)) = some k' ∧ _
    cases hx : x == n with
    | true =>
      simp only [List.lookup_cons, hx] at h
      obtain rfl : k₀ = k := Option.some.inj h
      by_cases hc : (k₀ == NameKind.free && sc.kind == .function && sc.names.lookup n == some .cell) = true
      · rw [if_pos hc]
        simp only [List.lookup_cons, hx]
        simp only [Bool.and_eq_true, beq_iff_eq] at hc
        exact ⟨_, rfl, .inr ⟨hc.1.1, rfl⟩⟩
      · rw [if_neg hc]
        simp only [List.lookup_cons, hx]
        exact ⟨_, rfl, .inl rfl⟩
    | false =>
      simp only [List.lookup_cons, hx] at h
      have : List.lookup x ((if (k₀ == NameKind.free && sc.kind == .function && sc.names.lookup n == some .cell) = true then (n, NameKind.cell) else (n, k₀)) :: (r.map fun (n, k) => if (k == NameKind.free && sc.kind == .function && sc.names.lookup n == some .cell) then (n, NameKind.cell) else (n, k)))
          = List.lookup x (r.map fun (n, k) => if (k == NameKind.free && sc.kind == .function && sc.names.lookup n == some .cell) then (n, NameKind.cell) else (n, k)) := by
        split <;> simp only [List.lookup_cons, hx]
      rw [this]
      exact ih h
section
variable {N : List Str} {sc : Scope} {k : Nat} {X : Cx}
theorem Good.blk (g : Good N sc k X) (scope : Scope) (hk : scope.kind = .function) (s : Shared) (H : Hp) (C : Addr) (cl : List (Str × Addr)) (fp : List Addr) : Good N scope k (X.blk s H scope (compEnvC scope cl C X.env) fp) := by
  have fwd : ∀ {x : Str} {kd : NameKind}, scope.names.lookup x = some kd → ∃ k', (compEnvC scope cl C X.env).scope.names.lookup x = some k' ∧ (k' = kd ∨ (kd = .free ∧ k' = .cell)) := fun {x kd} h => look_fwd (sc := X.env.scope) h
  refine ⟨g.n, g.nd, g.calm, g.room, fun x h => ?_, fun x h => ?_, fun x h => ?_, fun x h => ?_, fun x h => ?_, fun x h => ?_, hk⟩
  · unfold Pv.vis at h
    split at h
    · rename_i e
      obtain ⟨k', h1, rfl | ⟨h2, _⟩⟩ := fwd e
      · exact .inl h1
      · cases h2
    · rename_i e
      obtain ⟨k', h1, rfl | ⟨h2, _⟩⟩ := fwd e
      · exact .inr (.inl h1)
      · cases h2
    · rename_i e
      obtain ⟨k', h1, rfl | ⟨_, rfl⟩⟩ := fwd e
      · exact .inr (.inr h1)
      · exact .inr (.inl h1)
    · cases h
  · unfold Pv.locl at h
    split at h
    · rename_i e
      obtain ⟨k', h1, rfl | ⟨h2, _⟩⟩ := fwd e
      · exact ⟨.inl h1, .inr h1⟩
      · cases h2
    · rename_i e
      obtain ⟨k', h1, rfl | ⟨h2, _⟩⟩ := fwd e
      · exact ⟨.inr h1, .inl (by show (scope.names.lookup x == some .cell) = true; rw [e]; rfl)⟩
      · cases h2
    · cases h
  · obtain ⟨k', h1, rfl | ⟨h2, _⟩⟩ := fwd h
    · exact h1
    · cases h2
  · obtain ⟨k', h1, rfl | ⟨h2, _⟩⟩ := fwd h
    · exact h1
    · cases h2
  · unfold Pv.gl at h
    split at h
    · rename_i e
      obtain ⟨k', h1, rfl | ⟨h2, _⟩⟩ := fwd e
      · exact h1
      · cases h2
    · cases h
  · rcases h with h | h
    · obtain ⟨k', h1, rfl | ⟨h2, _⟩⟩ := fwd h
      · exact .inl h1
      · cases h2
    · obtain ⟨k', h1, rfl | ⟨_, rfl⟩⟩ := fwd h
      · exact .inr h1
      · exact .inl h1
theorem Good.blkOk (g : Good N sc k X) {scope : Scope} {own : List (Str × Nat)} (h : L2.blkC N sc scope own = true) : BlkOk X.N X.env.scope scope own := by
  have b := blkOk_by h
  refine ⟨b.kind, b.uniq, by rw [g.n]; exact b.ix, fun y hy e => g.fre _ (b.free y hy e), by rw [g.n]; exact b.own⟩
end

/-! ### what is walked -/
/-- J walks the items of w -/
def Wk (K : Frag) (al : Al) (H0 : Hp) (w : Walk) (J : L2.It) : Prop :=
  ∀ (al' : Al) H st, Ext al H0 ⟨al'.c, al.p⟩ H → Rel K al' H st → w.ok st = true →
    (∀ (i : Nat) (d : D), w.items[i]? = some d → J.go i H ∧ ∀ x H', J.yld i H x H' → Rel K al' H' st ∧ Ext al' H al' H' ∧ RepD K H' d x) ∧ ∀ i, w.items.length ≤ i → J.stop i H
theorem pi_any {X : Cx} {tg e : Expr} {te : TE} (he : PE X e te) : PI X tg e (fun σ H R => te σ H fun x H1 =>
    (∃ a, x = .ref a ∧ (∃ xs, SqL X.K H1 a xs) ∧ R (Itl X.K a) H1) ∨ (∃ a, x = .ref a ∧ (∃ xs, SqT X.K H1 a xs) ∧ R (Itt X.K a) H1) ∨ (∃ z, x = .str z ∧ R (Its z) H1)) := by
  refine ⟨fun pins s σ H R I h => ?_⟩
  refine thn (he.run pins s σ H _ I h) fun v s1 ⟨x, H1, I1, r1, q1⟩ => ?_
  rcases q1 with ⟨a, e, ⟨xs, hq⟩, q⟩ | ⟨a, e, ⟨xs, hq⟩, q⟩ | ⟨z, e, q⟩
  · subst e
    cases r1
    obtain ⟨its, rv, p, hz⟩ := I1.list hq
    refine wpAny_pyIter_list p.isList ?_
    refine ⟨s1.heap.objs.size, [s1.heap.objs.size], _, _, H1, rfl, I1.kept (t' := s1.toks) fun b o e => Heap.get?_push_of_some _ e, turn_list a _, ⟨_, Heap.get?_push_size _ rfl, rfl, rfl⟩, fun b hb => ?_, q⟩
    have e : b = s1.heap.objs.size := by simpa using hb
    subst e
    exact I1.fpOk (Nat.le_refl _) (I1.hok.fresh (Nat.le_refl _))
  · subst e
    cases r1
    obtain ⟨its, rv, p, hz⟩ := I1.tuple hq
    refine wpAny_pyIter_tuple (show s1.heap.IsTuple a its.toArray from p) ?_
    refine ⟨s1.heap.objs.size, [s1.heap.objs.size], _, _, H1, rfl, I1.kept (t' := s1.toks) fun b o e => Heap.get?_push_of_some _ e, turn_tuple a _, ⟨_, Heap.get?_push_size _ rfl, rfl, rfl⟩, fun b hb => ?_, q⟩
    have e : b = s1.heap.objs.size := by simpa using hb
    subst e
    exact I1.fpOk (Nat.le_refl _) (I1.hok.fresh (Nat.le_refl _))
  · subst e
    obtain ⟨t, rfl⟩ := r1
    cases ha : z.cps.all (· < 128)
    · exact wpAny_pyIter_wide ha (pi_one (tk := s1.toks) I1 _ (turn_str _ z t "str_iterator" (.inr rfl)) ⟨_, Heap.get?_push_size _ rfl, rfl, rfl⟩ q)
    · exact wpAny_pyIter_ascii ha (pi_one (tk := s1.toks) I1 _ (turn_str _ z t "str_ascii_iterator" (.inl rfl)) ⟨_, Heap.get?_push_size _ rfl, rfl, rfl⟩ q)
section
variable {K : Frag} {al : Al} {H : Hp}
/-- a list that stands -/
theorem wk_list {a : Addr} {xs : List D} {g : Option (Nat × List D)} (h : ∀ (al' : Al) H' st, Ext al H ⟨al'.c, al.p⟩ H' → Rel K al' H' st → Walk.ok ⟨xs, g⟩ st = true → ∃ vs, SqL K H' a vs ∧ RepDs K H' xs vs)
    (inj : ∀ H' vs ws, SqL K H' a vs → SqL K H' a ws → True) : Wk K al H ⟨xs, g⟩ (Itl K a) := by
  intro al' H' st x r ok
  obtain ⟨vs, hs, rd⟩ := h al' H' st x r ok
  refine ⟨fun i d hd => ?_, fun i hi => ⟨vs, hs, by rw [← rd.length]; exact hi⟩⟩
  obtain ⟨v, hv, rv⟩ := rd.get hd
  refine ⟨⟨vs, v, hs, hv⟩, fun y H2 hy => ?_⟩
  obtain ⟨e, hy⟩ := hy
  subst e
  have e2 := hy vs hs
  rw [hv] at e2
  cases e2
  exact ⟨r, Ext.refl _ _, rv⟩
theorem wk_tup {a : Addr} {xs : List D} {g : Option (Nat × List D)} (h : ∀ (al' : Al) H' st, Ext al H ⟨al'.c, al.p⟩ H' → Rel K al' H' st → Walk.ok ⟨xs, g⟩ st = true → ∃ vs, SqT K H' a vs ∧ RepDs K H' xs vs) : Wk K al H ⟨xs, g⟩ (Itt K a) := by
  intro al' H' st x r ok
  obtain ⟨vs, hs, rd⟩ := h al' H' st x r ok
  refine ⟨fun i d hd => ?_, fun i hi => ⟨vs, hs, by rw [← rd.length]; exact hi⟩⟩
  obtain ⟨v, hv, rv⟩ := rd.get hd
  refine ⟨⟨vs, v, hs, hv⟩, fun y H2 hy => ?_⟩
  obtain ⟨e, hy⟩ := hy
  subst e
  have e2 := hy vs hs
  rw [hv] at e2
  cases e2
  exact ⟨r, Ext.refl _ _, rv⟩
theorem wk_str {z : Tx} : Wk K al H ⟨z.map fun c => D.str [c], none⟩ (Its (txt z)) := by
  intro al' H' st x r ok
  refine ⟨fun i d hd => ?_, fun i hi => ?_⟩
  · rw [List.getElem?_map] at hd
    cases q : z[i]? with
    | none => rw [q] at hd; cases hd
    | some c =>
      rw [q] at hd
      cases hd
      refine ⟨?_, fun y H2 hy => ?_⟩
      · show i < z.toArray.size
        rw [List.size_toArray]
        rcases Nat.lt_or_ge i z.length with w | w
        · exact w
        · rw [List.getElem?_eq_none w] at q; cases q
      · obtain ⟨e, c', hc', e2⟩ := hy
        subst e e2
        have hc' : z.toArray[i]? = some c' := hc'
        rw [List.getElem?_toArray, q] at hc'
        cases hc'
        exact ⟨r, Ext.refl _ _, .str [c]⟩
  · show z.toArray.size ≤ i
    rw [List.size_toArray]
    rw [List.length_map] at hi
    exact hi
theorem wk_rng {lo : Int} {n : Nat} : Wk K al H ⟨rangeL lo n, none⟩ (Itr lo n) := by
  intro al' H' st x r ok
  unfold rangeL
  refine ⟨fun i d hd => ?_, fun i hi => (by simpa using hi : n ≤ i)⟩
  rw [List.getElem?_map] at hd
  cases q : (List.range n)[i]? with
  | none => rw [q] at hd; cases hd
  | some c =>
    rw [q] at hd
    cases hd
    obtain ⟨h1, h2⟩ := List.getElem?_eq_some_iff.mp q
    have hl : i < n := by simpa using h1
    have hc : c = i := by rw [← h2]; simp
    subst hc
    refine ⟨hl, fun y H2 hy => ?_⟩
    obtain ⟨e, e2⟩ := hy
    subst e e2
    exact ⟨r, Ext.refl _ _, .int _⟩
theorem wk_rngD {lo c : Int} {n : Nat} : Wk K al H ⟨rangeD lo c n, none⟩ (Itc lo c n) := by
  intro al' H' st x r ok
  unfold rangeD
  refine ⟨fun i d hd => ?_, fun i hi => (by simpa using hi : n ≤ i)⟩
  rw [List.getElem?_map] at hd
  cases q : (List.range n)[i]? with
  | none => rw [q] at hd; cases hd
  | some m =>
    rw [q] at hd
    cases hd
    obtain ⟨h1, h2⟩ := List.getElem?_eq_some_iff.mp q
    have hl : i < n := by simpa using h1
    have hc : m = i := by rw [← h2]; simp
    subst hc
    refine ⟨hl, fun y H2 hy => ?_⟩
    obtain ⟨e, e2⟩ := hy
    subst e e2
    exact ⟨r, Ext.refl _ _, .int _⟩
/-- what a value's walk is -/
theorem walk_ok {X : Cx} {mg : Str → Option Value} {st : Store} {Ex : Value → Hp → Prop} {R : L2.It → Hp → Prop} {v : Val} {u : V} (r : Rel X.K al H st) (rv : RepV X.K al H v u)
    (h : PostR X.K mg al H Ex (fun w st' H' => ∀ J, Wk X.K al H' w J → R J H') (walkV v st)) :
    (∃ a, u = .ref a ∧ (∃ xs, SqL X.K H a xs) ∧ R (Itl X.K a) H) ∨ (∃ a, u = .ref a ∧ (∃ xs, SqT X.K H a xs) ∧ R (Itt X.K a) H) ∨ (∃ z, u = .str z ∧ R (Its z) H) := by
  unfold walkV at h
  split at h
  · rename_i z
    cases rv
    exact .inr (.inr ⟨_, rfl, fin0 r h _ wk_str⟩)
  · rename_i xs
    cases rv with
    | @tup a _ vs h1 h2 => exact .inr (.inl ⟨a, rfl, ⟨vs, h1⟩, fin0 r h _ (wk_tup fun al' H' st' x _ _ => ⟨vs, x.stab.sqT h1, h2.mono x.stab⟩)⟩)
  · rename_i xs
    cases rv with
    | @lst a _ vs h1 h2 => exact .inl ⟨a, rfl, ⟨vs, h1.sq⟩, fin0 r h _ (wk_list (fun al' H' st' x _ _ => ⟨vs, (x.stab.fzL h1).sq, h2.mono x.stab⟩) fun _ _ _ _ _ => trivial)⟩
  · rename_i xs
    obtain ⟨a, vs, rfl, ha, hn, rd⟩ := rv
    refine .inl ⟨a, rfl, ⟨vs, .inl (.inl ha)⟩, fin0 r h _ (wk_list (fun al' H' st' x _ _ => ⟨vs, ?_, rd.mono x.stab⟩) fun _ _ _ _ _ => trivial)⟩
    rcases x.oth a _ hn ha with z | ⟨ws, o, e, z⟩
    · exact .inl (.inl z)
    · cases e; exact .inl (.inr ⟨o, z⟩)
  · rename_i i
    obtain ⟨a, ha, rfl⟩ := rv
    split at h
    · rename_i c hc
      obtain ⟨vs, hs, rd⟩ := (r.cell i c a hc ha).items
      refine .inl ⟨a, rfl, ⟨vs, hs⟩, fin0 r h _ (wk_list (fun al' H' st' x r' ok => ?_) fun _ _ _ _ _ => trivial)⟩
      unfold Walk.ok at ok
      simp only at ok
      split at ok
      · rename_i c' hc'
        have e : c'.items = c.items := of_decide_eq_true ok
        obtain ⟨β, ex⟩ := x.pre
        have hl : i < al.c.length := by
          rcases Nat.lt_or_ge i al.c.length with q | q
          · exact q
          · rw [List.getElem?_eq_none q] at ha; cases ha
        obtain ⟨vs', hs', rd'⟩ := (r'.cell i c' a hc' (by rw [ex, List.getElem?_append_left hl]; exact ha)).items
        exact ⟨vs', hs', by rw [← e]; exact rd'⟩
      · cases ok
    · exact h.elim
  · exact h.elim
end
end Pv

/-! Expressions: the evaluator's answers are the model's. -/
namespace Pv
open PySem PySem.Spec PyProof.Rows L2 TL

abbrev PostE (X : Cx) (al : Al) (H : Hp) (σ : L2.St) (W : WX) (Q : VK) : R Val → Prop :=
  PostR X.K X.mg al H (fun C H' => W C none σ H') (fun v _ H' => ∀ u, RepV X.K al H' v u → Q u H')
abbrev PostB (X : Cx) (al : Al) (H : Hp) (σ : L2.St) (W : WX) (Q : Bool → Hp → Prop) : R Bool → Prop :=
  PostR X.K X.mg al H (fun C H' => W C none σ H') (fun v _ H' => Q v H')
abbrev PostA (X : Cx) (al : Al) (H : Hp) (σ : L2.St) (W : WX) (Q : List V → Hp → Prop) : R (List Val) → Prop :=
  PostR X.K X.mg al H (fun C H' => W C none σ H') (fun v _ H' => ∀ us, RepVs X.K al H' v us → Q us H')
abbrev PostI (X : Cx) (al : Al) (H : Hp) (σ : L2.St) (W : WX) (R' : L2.It → Hp → Prop) : R Walk → Prop :=
  PostR X.K X.mg al H (fun C H' => W C none σ H') (fun w _ H' => ∀ J, Wk X.K al H' w J → R' J H')

section
variable {cx : Cxt} {N : List Str}
def SndE (cx : Cxt) (N : List Str) (e : E) : Prop := ∀ ⦃X : Cx⦄ ⦃k : Nat⦄ ⦃sc : Scope⦄ ⦃ex : Expr⦄ ⦃al : Al⦄ ⦃H : Hp⦄ ⦃σ : L2.St⦄ ⦃env : Env⦄ ⦃st : Store⦄ ⦃W : WX⦄ ⦃Q : VK⦄,
  Good N sc k X → Tab cx k X.prog X.w X.K X.mg X.base → chkE N sc e ex = true → Rel X.K al H st → EnvR X.K al H env σ → Takes X W → PostE X al H σ W Q (evE cx e env st) → SE X ex σ H Q
def SndEs (cx : Cxt) (N : List Str) (es : Es) : Prop := ∀ ⦃X : Cx⦄ ⦃k : Nat⦄ ⦃sc : Scope⦄ ⦃exs : List Expr⦄ ⦃al : Al⦄ ⦃H : Hp⦄ ⦃σ : L2.St⦄ ⦃env : Env⦄ ⦃st : Store⦄ ⦃W : WX⦄ ⦃Q : List V → Hp → Prop⦄,
  Good N sc k X → Tab cx k X.prog X.w X.K X.mg X.base → chkEs N sc es exs = true → Rel X.K al H st → EnvR X.K al H env σ → Takes X W → PostA X al H σ W Q (evEs cx es env st) → SA X exs σ H Q
def SndAnd (cx : Cxt) (N : List Str) (es : Es) : Prop := ∀ ⦃X : Cx⦄ ⦃k : Nat⦄ ⦃sc : Scope⦄ ⦃exs : List Expr⦄ ⦃pos : Pos⦄ ⦃al : Al⦄ ⦃H : Hp⦄ ⦃σ : L2.St⦄ ⦃env : Env⦄ ⦃st : Store⦄ ⦃W : WX⦄ ⦃Q : VK⦄,
  Good N sc k X → Tab cx k X.prog X.w X.K X.mg X.base → chkEs N sc es exs = true → Rel X.K al H st → EnvR X.K al H env σ → Takes X W → PostE X al H σ W Q (evAnd cx es env st) → SE X (.BoolOp .And exs pos) σ H Q
def SndOr (cx : Cxt) (N : List Str) (es : Es) : Prop := ∀ ⦃X : Cx⦄ ⦃k : Nat⦄ ⦃sc : Scope⦄ ⦃exs : List Expr⦄ ⦃pos : Pos⦄ ⦃al : Al⦄ ⦃H : Hp⦄ ⦃σ : L2.St⦄ ⦃env : Env⦄ ⦃st : Store⦄ ⦃W : WX⦄ ⦃Q : VK⦄,
  Good N sc k X → Tab cx k X.prog X.w X.K X.mg X.base → chkEs N sc es exs = true → Rel X.K al H st → EnvR X.K al H env σ → Takes X W → PostE X al H σ W Q (evOr cx es env st) → SE X (.BoolOp .Or exs pos) σ H Q
def SndT (cx : Cxt) (N : List Str) (e : E) : Prop := ∀ ⦃X : Cx⦄ ⦃k : Nat⦄ ⦃sc : Scope⦄ ⦃ex : Expr⦄ ⦃al : Al⦄ ⦃H : Hp⦄ ⦃σ : L2.St⦄ ⦃env : Env⦄ ⦃st : Store⦄ ⦃W : WX⦄ ⦃Q : Bool → Hp → Prop⦄,
  Good N sc k X → Tab cx k X.prog X.w X.K X.mg X.base → chkE N sc e ex = true → Rel X.K al H st → EnvR X.K al H env σ → Takes X W → PostB X al H σ W Q (evT cx e env st) → ST X ex σ H Q
def SndTA (cx : Cxt) (N : List Str) (es : Es) : Prop := ∀ ⦃X : Cx⦄ ⦃k : Nat⦄ ⦃sc : Scope⦄ ⦃exs : List Expr⦄ ⦃pos : Pos⦄ ⦃al : Al⦄ ⦃H : Hp⦄ ⦃σ : L2.St⦄ ⦃env : Env⦄ ⦃st : Store⦄ ⦃W : WX⦄ ⦃Q : Bool → Hp → Prop⦄,
  Good N sc k X → Tab cx k X.prog X.w X.K X.mg X.base → chkEs N sc es exs = true → exs ≠ [] → Rel X.K al H st → EnvR X.K al H env σ → Takes X W → PostB X al H σ W Q (evTA cx es env st) → SW X (.BoolOp .And exs pos) σ H Q
def SndTO (cx : Cxt) (N : List Str) (es : Es) : Prop := ∀ ⦃X : Cx⦄ ⦃k : Nat⦄ ⦃sc : Scope⦄ ⦃exs : List Expr⦄ ⦃pos : Pos⦄ ⦃al : Al⦄ ⦃H : Hp⦄ ⦃σ : L2.St⦄ ⦃env : Env⦄ ⦃st : Store⦄ ⦃W : WX⦄ ⦃Q : Bool → Hp → Prop⦄,
  Good N sc k X → Tab cx k X.prog X.w X.K X.mg X.base → chkEs N sc es exs = true → exs ≠ [] → Rel X.K al H st → EnvR X.K al H env σ → Takes X W → PostB X al H σ W Q (evTO cx es env st) → SW X (.BoolOp .Or exs pos) σ H Q
def SndC (cx : Cxt) (N : List Str) (es : Es) : Prop := ∀ ⦃X : Cx⦄ ⦃k : Nat⦄ ⦃sc : Scope⦄ ⦃exs : List Expr⦄ ⦃al : Al⦄ ⦃H : Hp⦄ ⦃σ : L2.St⦄ ⦃env : Env⦄ ⦃st : Store⦄ ⦃W : WX⦄ ⦃Q : Bool → Hp → Prop⦄,
  Good N sc k X → Tab cx k X.prog X.w X.K X.mg X.base → chkEs N sc es exs = true → Rel X.K al H st → EnvR X.K al H env σ → Takes X W → PostB X al H σ W Q (evC cx es env st) → SC X exs σ H Q
def SndI (cx : Cxt) (N : List Str) (it : It) : Prop := ∀ ⦃X : Cx⦄ ⦃k : Nat⦄ ⦃sc : Scope⦄ ⦃tg ex : Expr⦄ ⦃al : Al⦄ ⦃H : Hp⦄ ⦃σ : L2.St⦄ ⦃env : Env⦄ ⦃st : Store⦄ ⦃W : WX⦄ ⦃R' : L2.It → Hp → Prop⦄,
  Good N sc k X → Tab cx k X.prog X.w X.K X.mg X.base → chkI N sc it ex = true → Rel X.K al H st → EnvR X.K al H env σ → Takes X W → PostI X al H σ W R' (evI cx it env st) → SI X tg ex σ H R'

theorem evEs_len : ∀ (es : Es) (env : Env) (st : Store) (vs : List Val) (st' : Store) (sc : Scope) (exs : List Expr), chkEs N sc es exs = true → evEs cx es env st = .ok vs st' → vs.length = exs.length
  | .nil, env, st, vs, st', sc, exs, hc, h => by
    unfold chkEs at hc
    split at hc
    · unfold evEs at h; cases h; rfl
    · cases hc
  | .cons e es, env, st, vs, st', sc, exs, hc, h => by
    unfold chkEs at hc
    split at hc
    · simp only [Bool.and_eq_true] at hc
      unfold evEs at h
      cases q : evE cx e env st with
      | ok v s1 =>
        rw [q] at h
        cases q2 : evEs cx es env s1 with
        | ok vs2 s2 =>
          have h : R.bind (evEs cx es env s1) (fun vs s2 => R.ok (v :: vs) s2) = .ok vs st' := h
          rw [q2] at h
          cases h
          exact congrArg (· + 1) (evEs_len es env s1 vs2 _ sc _ hc.2 q2)
        | exc c s2 =>
          have h : R.bind (evEs cx es env s1) (fun vs s2 => R.ok (v :: vs) s2) = .ok vs st' := h
          rw [q2] at h; cases h
        | err =>
          have h : R.bind (evEs cx es env s1) (fun vs s2 => R.ok (v :: vs) s2) = .ok vs st' := h
          rw [q2] at h; cases h
      | exc c s1 => rw [q] at h; cases h
      | err => rw [q] at h; cases h
    · cases hc
/-- f() -/
theorem pe_callS0 {X : Cx} {CX : CXT} {k : Nat} {f : Addr} {fd : FuncData} {ps : List Str} {sp : Sp} {E : L2.St → XK} {x : Str} {p pos : Pos} (F : FnOk X.prog X.w X.K X.mg X.base CX k f fd ps sp) (hr : Room k X.A) (hg : Gl X x) (hm : X.mg x = some (.ref f)) (hk : PySem.W.keepIn X.K (.ref f) = true) (hb : Binds X.K fd ps []) (hx : ∀ σ, PassesAt CX X σ (E σ))
    (hdb : (x == ("__debug__" : Str)) = false) : PE X (.Call (.Name x p) [] [] pos) (tCallS sp E tNil) := by
  refine ⟨fun pins s σ H Q I h => ?_⟩
  refine wpAny_Call_Name_kw (ld_glob I hg hm ?_ hdb)
  exact PySem.W.callWith_K0 I.kIn hk (run_fnS (us := []) F hr hb (hx σ) I .nil h)
theorem Good.units {k : Nat} {sc : Scope} {X : Cx} (g : Good N sc k X) : X.A.units + 64 < cLine := g.room.units
theorem isBlt_ok {k : Nat} {sc : Scope} {X : Cx} {n x : Str} (g : Good N sc k X) (T : Tab cx k X.prog X.w X.K X.mg X.base) (hn : n ∈ bltNames) (h : isBlt sc n x = true) : x = n ∧ Gl X x ∧ X.mg x = none ∧ x ≠ "__name__" ∧ (x == ("__debug__" : Str)) = false := by
  unfold isBlt at h
  simp only [Bool.and_eq_true, decide_eq_true_eq] at h
  obtain ⟨⟨rfl, h2⟩, h3⟩ := h
  obtain ⟨p1, _, p3⟩ := plain1 h3
  exact ⟨rfl, g.gl _ h2, T.blt _ hn, p3, p1⟩
theorem bltVal_boot (f : Blt) : bootBuiltins (bltName f) = some (bltVal f) := by cases f <;> decide +kernel
theorem bltName_mem (f : Blt) : bltName f ∈ bltNames := by cases f <;> decide +kernel
/-- a call of a built-in, a function or a class -/
theorem pe_blt {X : Cx} {x : Str} {p pos : Pos} {e : Expr} {es : List Expr} {t : TA} {v : Value} {r : List V → Hp → VK → Prop} (hv : (∃ id, v = .builtin id) ∨ ∃ T, v = .type T) (hc : CallR X v r) (hg : Gl X x) (hm : X.mg x = none) (hb : bootBuiltins x = some v) (ha : PA X (e :: es) t) (hn : x ≠ "__name__")
    (hdb : (x == ("__debug__" : Str)) = false) (hs : ∀ y ∈ e :: es, okShape y = true) : PE X (.Call (.Name x p) (e :: es) [] pos) (tCB r t) := by
  have h1 := shape_star (hs e List.mem_cons_self) es X.env
  have h2 := shapes_plain (fun y hy => hs y (List.mem_cons_of_mem _ hy)) pos X.env
  rcases hv with ⟨id, rfl⟩ | ⟨T, rfl⟩
  · exact pe_callB hc hg hm hb ha hn hdb h1 h2
  · exact pe_callTy hc hg hm hb ha hn hdb h1 h2
theorem bltVal_kind (f : Blt) : (∃ id, bltVal f = .builtin id) ∨ ∃ T, bltVal f = .type T := by
  cases f <;> first | exact .inl ⟨_, rfl⟩ | exact .inr ⟨_, rfl⟩
theorem isLm_append : isLm .append = true := rfl
end
end Pv

/-! Expressions, one construct after another. -/
namespace Pv
open PySem PySem.Spec PyProof.Rows L2 TL

section
variable {cx : Cxt} {N : List Str}
theorem strong {K : Frag} {al : Al} {H : Hp} {v : Val} {u : V} (n : isNew v = false) (h : RepW K al H v u) : RepV K al H v u := by
  cases v with
  | d d => exact h
  | ref i => exact h
  | new xs => cases n
theorem c_var (i : Nat) : SndE cx N (.var i) := by
  intro X k sc ex al H σ env st W Q g T hc r hE tk h
  unfold chkE at hc
  split at hc
  · rename_i x p
    rw [evE] at h
    split at h
    · rename_i v e
      obtain ⟨n, u, h1, h2⟩ := hE.get i v e
      exact ⟨_, g.var hc, u, h1, fin0 r h _ (strong n h2)⟩
    · exact h.elim
  · cases hc
theorem c_int (i : Int) : SndE cx N (.int i) := by
  intro X k sc ex al H σ env st W Q g T hc r hE tk h
  unfold chkE at hc
  split at hc
  · have e := of_decide_eq_true hc
    subst e
    rw [evE] at h
    exact ⟨_, pe_int, fin0 r h _ (.int _)⟩
  · cases hc
theorem c_str (x : Tx) : SndE cx N (.str x) := by
  intro X k sc ex al H σ env st W Q g T hc r hE tk h
  unfold chkE at hc
  split at hc
  · have e := of_decide_eq_true hc
    subst e
    rw [evE] at h
    exact ⟨_, pe_str, fin0 r h _ (.str _)⟩
  · cases hc
theorem c_bl (b : Bool) : SndE cx N (.bl b) := by
  intro X k sc ex al H σ env st W Q g T hc r hE tk h
  unfold chkE at hc
  split at hc
  · have e := beq_iff_eq.mp hc
    subst e
    rw [evE] at h
    exact ⟨_, pe_bl, fin0 r h _ (.bl _)⟩
  · cases hc
theorem c_non : SndE cx N .non := by
  intro X k sc ex al H σ env st W Q g T hc r hE tk h
  unfold chkE at hc
  split at hc
  · rw [evE] at h
    exact ⟨_, pe_non, fin0 r h _ .non⟩
  · cases hc
theorem c_glob (gn : String) : SndE cx N (.glob gn) := by
  intro X k sc ex al H σ env st W Q g T hc r hE tk h
  unfold chkE at hc
  split at hc
  · simp only [Bool.and_eq_true, decide_eq_true_eq] at hc
    obtain ⟨⟨rfl, h2⟩, h3⟩ := hc
    rw [evE] at h
    split at h
    · rename_i d e
      obtain ⟨v, u, m1, m2, m3⟩ := T.glob gn d e
      exact ⟨_, pe_glob (g.gl _ h2) m1 m2 (plain1 h3).1, fin0 r h _ (m3 H)⟩
    · exact h.elim
  · cases hc
theorem c_bin (o : Bop) {a b : E} (ia : SndE cx N a) (ib : SndE cx N b) : SndE cx N (.bin o a b) := by
  intro X k sc ex al H σ env st W Q g T hc r hE tk h
  unfold chkE at hc
  split at hc
  · simp only [Bool.and_eq_true] at hc
    obtain ⟨⟨hp, ha⟩, hb⟩ := hc
    rw [evE] at h
    refine ⟨_, pe_op op_SO pe_SE pe_SE, ?_⟩
    refine ia g T ha r hE tk (PostR.imp (PostR.bind h) fun x s1 H1 r1 x1 q u ru => ?_)
    refine ib g T hb r1 (hE.mono x1) tk (PostR.imp (PostR.bind q) fun y s2 H2 r2 x2 q2 w rw' => ?_)
    exact bin_ok hp r2 (ru.weak.mono x2) rw'.weak q2
  · cases hc
theorem c_neg {a : E} (ia : SndE cx N a) : SndE cx N (.neg a) := by
  intro X k sc ex al H σ env st W Q g T hc r hE tk h
  unfold chkE at hc
  split at hc
  · rw [evE] at h
    refine ⟨_, pe_un un_neg pe_SE, ?_⟩
    refine ia g T hc r hE tk (PostR.imp (PostR.bind h) fun x s1 H1 r1 x1 q u ru => ?_)
    split at q
    · cases ru
      exact ⟨_, rfl, fin0 r1 q _ (.int _)⟩
    · exact q.elim
  · cases hc
theorem c_inv {a : E} (ia : SndE cx N a) : SndE cx N (.inv a) := by
  intro X k sc ex al H σ env st W Q g T hc r hE tk h
  unfold chkE at hc
  split at hc
  · rw [evE] at h
    refine ⟨_, pe_un un_inv pe_SE, ?_⟩
    refine ia g T hc r hE tk (PostR.imp (PostR.bind h) fun x s1 H1 r1 x1 q u ru => ?_)
    split at q
    · cases ru
      exact ⟨_, rfl, fin0 r1 q _ (.int _)⟩
    · exact q.elim
  · cases hc
theorem c_not {a : E} (ia : SndE cx N a) : SndE cx N (.not a) := by
  intro X k sc ex al H σ env st W Q g T hc r hE tk h
  unfold chkE at hc
  split at hc
  · rw [evE] at h
    refine ⟨_, pe_not pe_SE, ?_⟩
    refine ia g T hc r hE tk (PostR.imp (PostR.bind h) fun x s1 H1 r1 x1 q u ru => ?_)
    split at q
    · cases ru
      exact ⟨_, rfl, fin0 r1 q _ (.bl _)⟩
    · exact q.elim
  · cases hc
theorem c_cmp (o : Cop) {a b : E} (ia : SndE cx N a) (ib : SndE cx N b) : SndE cx N (.cmp o a b) := by
  intro X k sc ex al H σ env st W Q g T hc r hE tk h
  unfold chkE at hc
  split at hc
  · simp only [Bool.and_eq_true] at hc
    obtain ⟨⟨hp, ha⟩, hb⟩ := hc
    rw [evE] at h
    refine ⟨_, pe_cmpR op_SO pe_SE pe_SE (shape_mark (chk_shape b _ hb) _), ?_⟩
    refine ia g T ha r hE tk (PostR.imp (PostR.bind h) fun x s1 H1 r1 x1 q u ru => ?_)
    refine ib g T hb r1 (hE.mono x1) tk (PostR.imp (PostR.bind q) fun y s2 H2 r2 x2 q2 w rw' => ?_)
    split at q2
    · rename_i kk e
      exact cmp_ok hp g.units r2 (ru.weak.mono x2) rw'.weak e (fin0 r2 q2 _ (.bl _))
    · exact q2.elim
  · cases hc
theorem t_cmp (o : Cop) {a b : E} (ia : SndE cx N a) (ib : SndE cx N b) : SndT cx N (.cmp o a b) := by
  intro X k sc ex al H σ env st W Q g T hc r hE tk h
  unfold chkE at hc
  split at hc
  · simp only [Bool.and_eq_true] at hc
    obtain ⟨⟨hp, ha⟩, hb⟩ := hc
    rw [evT] at h
    refine ⟨_, pt_cmpR op_SO pe_SE pe_SE (shape_mark (chk_shape b _ hb) _), ?_⟩
    refine ia g T ha r hE tk (PostR.imp (PostR.bind h) fun x s1 H1 r1 x1 q u ru => ?_)
    refine ib g T hb r1 (hE.mono x1) tk (PostR.imp (PostR.bind q) fun y s2 H2 r2 x2 q2 w rw' => ?_)
    split at q2
    · rename_i kk e
      exact cmp_ok hp g.units r2 (ru.weak.mono x2) rw'.weak e ⟨_, rfl, fin0 r2 q2⟩
    · exact q2.elim
  · cases hc
theorem c_chain (o1 o2 : Cop) {a b c : E} (ia : SndE cx N a) (ib : SndE cx N b) (ic : SndE cx N c) : SndE cx N (.chain o1 o2 a b c) := by
  intro X k sc ex al H σ env st W Q g T hc r hE tk h
  unfold chkE at hc
  split at hc
  · simp only [Bool.and_eq_true] at hc
    obtain ⟨⟨⟨⟨hp, hp2⟩, ha⟩, hb⟩, hcc⟩ := hc
    rw [evE] at h
    refine ⟨_, pe_chain op_SO op_SO pe_SE pe_SE pe_SE (shape_mark (chk_shape c _ hcc) _), ?_⟩
    refine ia g T ha r hE tk (PostR.imp (PostR.bind h) fun x s1 H1 r1 x1 q u ru => ?_)
    refine ib g T hb r1 (hE.mono x1) tk (PostR.imp (PostR.bind q) fun y s2 H2 r2 x2 q2 w rw' => ?_)
    split at q2
    · rename_i e
      refine cmp_ok hp g.units r2 (ru.weak.mono x2) rw'.weak e ⟨true, rfl, ?_⟩
      rw [if_pos rfl]
      refine ic g T hcc r2 (hE.mono (x1.trans x2)) tk (PostR.imp (PostR.bind q2) fun z s3 H3 r3 x3 q3 w3 rw3 => ?_)
      split at q3
      · rename_i kk e3
        exact cmp_ok hp2 g.units r3 (rw'.weak.mono x3) rw3.weak e3 (fin0 r3 q3 _ (.bl _))
      · exact q3.elim
    · rename_i e
      refine cmp_ok hp g.units r2 (ru.weak.mono x2) rw'.weak e ⟨false, rfl, ?_⟩
      rw [if_neg Bool.false_ne_true]
      exact fin0 r2 q2 _ (.bl _)
    · exact q2.elim
  · cases hc
theorem t_chain (o1 o2 : Cop) {a b c : E} (ia : SndE cx N a) (ib : SndE cx N b) (ic : SndE cx N c) : SndT cx N (.chain o1 o2 a b c) := by
  intro X k sc ex al H σ env st W Q g T hc r hE tk h
  unfold chkE at hc
  split at hc
  · simp only [Bool.and_eq_true] at hc
    obtain ⟨⟨⟨⟨hp, hp2⟩, ha⟩, hb⟩, hcc⟩ := hc
    rw [evT] at h
    refine ⟨_, pt_chain op_SO op_SO pe_SE pe_SE pe_SE (shape_mark (chk_shape c _ hcc) _), ?_⟩
    refine ia g T ha r hE tk (PostR.imp (PostR.bind h) fun x s1 H1 r1 x1 q u ru => ?_)
    refine ib g T hb r1 (hE.mono x1) tk (PostR.imp (PostR.bind q) fun y s2 H2 r2 x2 q2 w rw' => ?_)
    split at q2
    · rename_i e
      refine cmp_ok hp g.units r2 (ru.weak.mono x2) rw'.weak e ⟨true, rfl, ?_⟩
      rw [if_pos rfl]
      refine ic g T hcc r2 (hE.mono (x1.trans x2)) tk (PostR.imp (PostR.bind q2) fun z s3 H3 r3 x3 q3 w3 rw3 => ?_)
      split at q3
      · rename_i kk e3
        exact cmp_ok hp2 g.units r3 (rw'.weak.mono x3) rw3.weak e3 ⟨_, rfl, fin0 r3 q3⟩
      · exact q3.elim
    · rename_i e
      refine cmp_ok hp g.units r2 (ru.weak.mono x2) rw'.weak e ⟨false, rfl, ?_⟩
      rw [if_neg Bool.false_ne_true]
      exact ⟨_, rfl, fin0 r2 q2⟩
    · exact q2.elim
  · cases hc
theorem c_ite {t a b : E} (it : SndT cx N t) (ia : SndE cx N a) (ib : SndE cx N b) : SndE cx N (.ite t a b) := by
  intro X k sc ex al H σ env st W Q g T hc r hE tk h
  unfold chkE at hc
  split at hc
  · simp only [Bool.and_eq_true] at hc
    obtain ⟨⟨ht, ha⟩, hb⟩ := hc
    rw [evE] at h
    refine ⟨_, pe_ifExp pt_ST pe_SE pe_SE, ?_⟩
    refine it g T ht r hE tk (PostR.imp (PostR.bind h) fun x s1 H1 r1 x1 q => ?_)
    cases x with
    | true =>
      rw [if_pos rfl] at q ⊢
      exact ia g T ha r1 (hE.mono x1) tk q
    | false =>
      rw [if_neg Bool.false_ne_true] at q ⊢
      exact ib g T hb r1 (hE.mono x1) tk q
  · cases hc
theorem c_tup {es : Es} (ie : SndEs cx N es) : SndE cx N (.tup es) := by
  intro X k sc ex al H σ env st W Q g T hc r hE tk h
  unfold chkE at hc
  split at hc
  · rw [evE] at h
    refine ⟨_, pe_tup pa_SA, ?_⟩
    refine SA.gh (ie g T hc r hE tk (PostR.imp (PostR.bind h) fun vs s1 H1 r1 x1 q us ru => ?_))
    split at q
    · rename_i ds s2 e
      refine toDs_gh r1 ru e fun H2 r2 x2 rd => ?_
      split at q
      · rename_i hl
        exact ⟨by rw [← rd.length, ← line_eq]; exact hl, finT r2 (PostR.ext x2 q) rd⟩
      · exact q.elim
    · exact q.elim
  · cases hc
theorem c_list {es : Es} (ie : SndEs cx N es) : SndE cx N (.list es) := by
  intro X k sc ex al H σ env st W Q g T hc r hE tk h
  unfold chkE at hc
  split at hc
  · rw [evE] at h
    refine ⟨_, pe_lst pa_SA, ?_⟩
    refine SA.gh (ie g T hc r hE tk (PostR.imp (PostR.bind h) fun vs s1 H1 r1 x1 q us ru => ?_))
    split at q
    · rename_i ds s2 e
      refine toDs_gh r1 ru e fun H2 r2 x2 rd => ?_
      split at q
      · rename_i hl
        exact ⟨by rw [← rd.length, ← line_eq]; exact hl, finL r2 (PostR.ext x2 q) rd⟩
      · exact q.elim
    · exact q.elim
  · cases hc
theorem c_ix {a i : E} (ia : SndE cx N a) (ib : SndE cx N i) : SndE cx N (.ix a i) := by
  intro X k sc ex al H σ env st W Q g T hc r hE tk h
  unfold chkE at hc
  split at hc
  · simp only [Bool.and_eq_true] at hc
    obtain ⟨ha, hb⟩ := hc
    rw [evE] at h
    refine ⟨_, pe_ix ix_SX pe_SE pe_SE (shape_plain (chk_shape i _ hb)), ?_⟩
    refine ia g T ha r hE tk (PostR.imp (PostR.bind h) fun x s1 H1 r1 x1 q u ru => ?_)
    refine ib g T hb r1 (hE.mono x1) tk (PostR.imp (PostR.bind q) fun y s2 H2 r2 x2 q2 w rw' => ?_)
    exact ixv_ok r2 (ru.weak.mono x2) rw'.weak q2
  · cases hc
theorem c_slice {a lo hi : E} (ia : SndE cx N a) (il : SndE cx N lo) (ih : SndE cx N hi) : SndE cx N (.slice a lo hi) := by
  intro X k sc ex al H σ env st W Q g T hc r hE tk h
  unfold chkE at hc
  split at hc
  · simp only [Bool.and_eq_true] at hc
    obtain ⟨⟨ha, hb⟩, hcc⟩ := hc
    rw [evE] at h
    refine ⟨_, pe_slice sl_SS pe_SE (po_some pe_SE) (po_some pe_SE), ?_⟩
    refine ia g T ha r hE tk (PostR.imp (PostR.bind h) fun x s1 H1 r1 x1 q u ru => ?_)
    refine il g T hb r1 (hE.mono x1) tk (PostR.imp (PostR.bind q) fun y s2 H2 r2 x2 q2 w rw' => ?_)
    split at q2
    · cases rw'
      refine ⟨_, rfl, ?_⟩
      refine ih g T hcc r2 (hE.mono (x1.trans x2)) tk (PostR.imp (PostR.bind q2) fun y s3 H3 r3 x3 q3 w3 rw3 => ?_)
      split at q3
      · cases rw3
        exact ⟨_, rfl, sl_ok r3 (ru.weak.mono (x2.trans x3)) q3⟩
      · exact q3.elim
    · exact q2.elim
  · cases hc
theorem c_slice0 {a hi : E} (ia : SndE cx N a) (ih : SndE cx N hi) : SndE cx N (.slice0 a hi) := by
  intro X k sc ex al H σ env st W Q g T hc r hE tk h
  unfold chkE at hc
  split at hc
  · simp only [Bool.and_eq_true] at hc
    obtain ⟨ha, hb⟩ := hc
    rw [evE] at h
    refine ⟨_, pe_slice sl_SS pe_SE po_none (po_some pe_SE), ?_⟩
    refine ia g T ha r hE tk (PostR.imp (PostR.bind h) fun x s1 H1 r1 x1 q u ru => ?_)
    refine ih g T hb r1 (hE.mono x1) tk (PostR.imp (PostR.bind q) fun y s2 H2 r2 x2 q2 w rw' => ?_)
    split at q2
    · cases rw'
      exact ⟨_, rfl, sl_ok r2 (ru.weak.mono x2) q2⟩
    · exact q2.elim
  · cases hc
theorem c_slice1 {a lo : E} (ia : SndE cx N a) (il : SndE cx N lo) : SndE cx N (.slice1 a lo) := by
  intro X k sc ex al H σ env st W Q g T hc r hE tk h
  unfold chkE at hc
  split at hc
  · simp only [Bool.and_eq_true] at hc
    obtain ⟨ha, hb⟩ := hc
    rw [evE] at h
    refine ⟨_, pe_slice sl_SS pe_SE (po_some pe_SE) po_none, ?_⟩
    refine ia g T ha r hE tk (PostR.imp (PostR.bind h) fun x s1 H1 r1 x1 q u ru => ?_)
    refine il g T hb r1 (hE.mono x1) tk (PostR.imp (PostR.bind q) fun y s2 H2 r2 x2 q2 w rw' => ?_)
    split at q2
    · cases rw'
      exact ⟨_, rfl, sl_ok r2 (ru.weak.mono x2) q2⟩
    · exact q2.elim
  · cases hc
theorem isMinus1_ok {m : Expr} (h : isMinus1 m = true) : ∃ kk p1 p2, m = .UnaryOp .USub (.Constant (.int 1) kk p1) p2 := by
  unfold isMinus1 at h
  split at h
  · have e := of_decide_eq_true h
    subst e
    exact ⟨_, _, _, rfl⟩
  · cases h
def revS (z : Str) : Str := ⟨z.cps.toList.reverse.toArray⟩
theorem revS_pick (z : Str) : ((Builtin.Str.strSliceIndices none none (-1) z.length).filterMap (z.cps[·]?)) = z.cps.toList.reverse := by
  have e : Builtin.Str.strSliceIndices none none (-1) z.length = sliceRange ((z.length : Int) - 1) (-1) (-1) := rfl
  rw [e, PySem.W.krv_sliceRange, PySem.W.krv_range, List.filterMap_reverse]
  exact congrArg List.reverse (PySem.W.krv_all z.cps)
/-- [::-1] of a list or of a text -/
def tRevA (K : PySem.W.Frag) (te : TE) : TE := fun σ H Q => te σ H fun x H1 => (∃ a xs, x = .ref a ∧ SqL K H1 a xs ∧ ∀ p, H1 p = none → Q (.ref p) (upd H1 p (.lst xs.reverse))) ∨ (∃ z, x = .str z ∧ z.length ≤ sizeLine ∧ Q (.str (revS z)) H1)
theorem pe_revA {X : Cx} {e : Expr} {te : TE} {k : Nat} {p1 p2 p3 pos : Pos} (he : PE X e te) : PE X (.Subscript e (.Slice none none (some (.UnaryOp .USub (.Constant (.int 1) k p1) p2)) p3) pos) (tRevA X.K te) := by
  refine ⟨fun pins s σ H Q I h => ?_⟩
  refine Subscript_ (thn (he.run pins s σ H _ I h) fun v s1 ⟨x, H1, I1, r1, q1⟩ => ?_)
  have hst : PO X (some (.UnaryOp .USub (.Constant (.int 1) k p1) p2)) (tPart (tUn (rU fun i => .int (-i)) (tC (.int 1)))) := po_some (pe_un un_neg pe_int)
  refine wpAny_Slice (thn (po_none.run pins s1 σ H1 (fun o H2 => o = none ∧ H2 = H1) I1 ⟨rfl, rfl⟩) fun vl s2 ⟨l, H2, I2, pl, el, e2⟩ => ?_)
  subst el e2
  refine thn (po_none.run pins s2 σ H2 (fun o H3 => o = none ∧ H3 = H2) I2 ⟨rfl, rfl⟩) fun vu s3 ⟨u, H3, I3, pu, eu, e3⟩ => ?_
  subst eu e3
  refine thn (hst.run pins s3 σ H3 (fun o H4 => o = some (-1) ∧ H4 = H3) I3 ⟨1, rfl, -1, rfl, rfl, rfl⟩) fun vs s4 ⟨o, H4, I4, ps, eo, e4⟩ => ?_
  subst eo e4
  have I5 : Inv X pins σ H4 { s4 with heap := s4.heap.push { cls := .type "slice", data := .fields #[vl, vu, vs] } } := I4.kept (t' := s4.toks) fun b ob q => Heap.get?_push_of_some _ q
  rcases q1 with ⟨a, xs, ex, hx, q⟩ | ⟨z, ez, hz, q⟩
  · subst ex
    cases r1
    obtain ⟨its, r, ht, hz⟩ := I5.list hx
    have hlen := r.length
    show wpAny (model X.prog X.w) X.A (subscriptTail e (.Slice none none (some (.UnaryOp .USub (.Constant (.int 1) k p1) p2)) p3) (.ref a) (.ref s4.heap.objs.size)) (EP X pins σ Q) X.xe { s4 with heap := s4.heap.push { cls := .type "slice", data := .fields #[vl, vu, vs] } }
    refine tail_any (ops := [.ref a, .ref s4.heap.objs.size]) ht.isList.typeIs (PySem.slot_list_getitem.lookup) ?_ (by with_unfolding_all rfl)
    refine wpAny_getItem_list_slice ht.isList (Heap.IsSliceOf.new _ vl vu vs) pl pu ps (by decide) ?_ (by rw [List.size_toArray]; omega)
    rw [PySem.W.krv_pick]
    refine ⟨.ref _, _, I5.laid (t' := s4.toks) (o := .lst xs.reverse) (fun b ob q => Heap.get?_push_of_some _ q) (Nat.le_refl _) ?_, rfl, q _ (I5.hok.fresh (Nat.le_refl _))⟩
    exact ⟨by rw [List.length_reverse]; exact hz, _, 0, r.reverse, Heap.get?_push_size _ rfl⟩
  · subst ez
    obtain ⟨t, rfl⟩ := r1
    obtain ⟨l', rfl, el⟩ := IsPart.raw pl
    obtain ⟨u', rfl, eu⟩ := IsPart.raw pu
    obtain ⟨w', rfl, ew⟩ := IsPart.raw ps
    show wpAny (model X.prog X.w) X.A (subscriptTail e (.Slice none none (some (.UnaryOp .USub (.Constant (.int 1) k p1) p2)) p3) (.str z t) (.ref s4.heap.objs.size)) (EP X pins σ Q) X.xe _
    refine tail_any (ops := [.str z t, .ref s4.heap.objs.size]) (typeIs_str _ _ _) (F.slot_str_getitem.lookup) ?_ (by with_unfolding_all rfl)
    refine wpAny_getItem_str_slice (l := l') (u := u') (st := w') ⟨_, Heap.get?_push_size _ rfl, rfl, rfl⟩ (by rw [ew]; rfl) ?_
    have hp : slicePicked z l' u' w' = Builtin.Str.strSliceIndices none none (-1) z.length := by
      unfold slicePicked
      rw [el, eu, ew]
      rfl
    unfold sliceMade
    rw [if_neg (by rw [ew]; simp), hp, revS_pick]
    refine ⟨?_, .str (revS z), H4, I5.tok _, ⟨_, rfl⟩, q⟩
    show (z.cps.toList.reverse.toArray).size ≤ sizeLine
    rw [List.size_toArray, List.length_reverse, Array.length_toList]
    exact hz
theorem c_rev {a : E} (ia : SndE cx N a) : SndE cx N (.rev a) := by
  intro X k sc ex al H σ env st W Q g T hc r hE tk h
  unfold chkE at hc
  split at hc
  · simp only [Bool.and_eq_true] at hc
    obtain ⟨hm, ha⟩ := hc
    obtain ⟨kk, p1, p2, rfl⟩ := isMinus1_ok hm
    rw [evE] at h
    refine ⟨_, pe_revA pe_SE, ?_⟩
    refine ia g T ha r hE tk (PostR.imp (PostR.bind h) fun x s1 H1 r1 x1 q u ru => ?_)
    unfold revV at q
    split at q
    · rename_i z
      cases ru
      split at q
      · rename_i hl
        refine .inr ⟨_, rfl, by rw [txt_len, ← line_eq]; exact hl, ?_⟩
        exact fin0 r1 q _ (.str _)
      · exact q.elim
    · exact q.elim
    · split at q
      · rename_i z e
        obtain ⟨p, vs, rfl, hs, rd⟩ := lst_sq r1 ru.weak e
        exact .inl ⟨p, vs, rfl, hs, finL r1 q rd.reverse⟩
      · exact q.elim
  · cases hc
theorem c_frz {a : E} (ia : SndE cx N a) : SndE cx N (.frz a) := by
  intro X k sc ex al H σ env st W Q g T hc r hE tk h
  unfold chkE at hc
  rw [evE] at h
  refine SE.gh (ia g T hc r hE tk (PostR.imp (PostR.bind h) fun x s1 H1 r1 x1 q u ru => ?_))
  split at q
  · rename_i d s2 e
    exact toD_gh r1 ru.weak e fun H2 r2 x2 rd => q H2 r2 x2 _ rd
  · exact q.elim
end
end Pv

/-! Calls, methods, and, or, tests, comprehensions; the theorem of expressions. -/
namespace Pv
open PySem PySem.Spec PyProof.Rows L2 TL

section
variable {cx : Cxt} {N : List Str}
/-- the reading of a call: the arguments, then the promise -/
theorem call_reads {es : Es} (ie : SndEs cx N es) {X : Cx} {k : Nat} {sc : Scope} {exs : List Expr} {al : Al} {H : Hp} {σ : L2.St} {env : Env} {st : Store} {W : WX} {Q : VK} {f : String}
    (g : Good N sc k X) (T : Tab cx k X.prog X.w X.K X.mg X.base) (hc : chkEs N sc es exs = true) (r : Rel X.K al H st) (hE : EnvR X.K al H env σ) (tk : Takes X W)
    (h : PostE X al H σ W Q ((evEs cx es env st).bind fun vs s1 => cx.call f (vs.map argV) s1)) : tCallS (spOf X.K X.mg cx.call f) (WE W) (SA X exs) σ H Q := by
  refine SA.gh (ie g T hc r hE tk (PostR.imp (PostR.bind h) fun vs s1 H1 r1 x1 q us ru => ?_))
  exact args_gh r1 ru fun H2 r2 x2 rs => ⟨al, vs.map argV, s1, r2, rs, argV_new vs, PostR.ext x2 q⟩
theorem c_call (f : String) {es : Es} (ie : SndEs cx N es) : SndE cx N (.call f es) := by
  intro X k sc ex al H σ env st W Q g T hc r hE tk h
  unfold chkE at hc
  split at hc
  · rename_i x p xs pos
    simp only [Bool.and_eq_true, decide_eq_true_eq] at hc
    obtain ⟨⟨⟨rfl, h2⟩, h3⟩, h4⟩ := hc
    rw [evE] at h
    split at h
    · rename_i hh
      obtain ⟨fa, fd, ps, m1, m2, m3, F⟩ := T.fn f hh
      have rd := call_reads ie g T h4 r hE tk h
      have sh := chks_shape es xs h4
      cases xs with
      | nil =>
        refine ⟨_, pe_callS0 (p := p) (pos := pos) F g.room (g.gl _ h2) m1 m2 m3 (E := WE W) (fun σ => passAt tk σ) (plain1 h3).1, ?_⟩
        have : SA X [] = SA X [] := rfl
        obtain ⟨t, pt, q⟩ := rd
        cases es with
        | nil =>
          rw [evEs] at h
          refine ⟨al, [], st, r, .nil, by simp, ?_⟩
          exact h
        | cons e es => unfold chkEs at h4; cases h4
      | cons x xs =>
        exact ⟨_, pe_callS (p := p) (pos := pos) F g.room (g.gl _ h2) m1 m2 m3 (fun σ => passAt tk σ) pa_SA (plain1 h3).1 (shape_star (sh x List.mem_cons_self) xs X.env)
          (shapes_plain (fun y hy => sh y (List.mem_cons_of_mem _ hy)) pos X.env), rd⟩
    · exact h.elim
  · cases hc
theorem c_blt (f : Blt) {es : Es} (ie : SndEs cx N es) : SndE cx N (.blt f es) := by
  intro X k sc ex al H σ env st W Q g T hc r hE tk h
  unfold chkE at hc
  split at hc
  · rename_i x p xs pos
    simp only [Bool.and_eq_true] at hc
    obtain ⟨h1, h2⟩ := hc
    obtain ⟨rfl, b1, b2, b3, b4⟩ := isBlt_ok g T (bltName_mem f) h1
    rw [evE] at h
    have sh := chks_shape es xs h2
    cases xs with
    | nil =>
      exfalso
      cases es with
      | nil =>
        rw [evEs] at h
        have h : PostE X al H σ W Q (bltV f [] st) := h
        unfold bltV at h
        cases f <;> exact h.elim
      | cons e es => unfold chkEs at h2; cases h2
    | cons x xs =>
      refine ⟨_, pe_blt (bltVal_kind f) cl_SC b1 b2 (bltVal_boot f) pa_SA b3 b4 sh, ?_⟩
      refine ie g T h2 r hE tk (PostR.imp (PostR.bind h) fun vs s1 H1 r1 x1 q us ru => ?_)
      exact blt_ok g.calm r1 ru q
  · cases hc
theorem isi_reads (t : Ty) {a : E} (ia : SndE cx N a) {X : Cx} {k : Nat} {sc : Scope} {ex : Expr} {al : Al} {H : Hp} {σ : L2.St} {env : Env} {st : Store} {W : WX} {Q : VK}
    (g : Good N sc k X) (T : Tab cx k X.prog X.w X.K X.mg X.base) (hc : chkE N sc (.isi t a) ex = true) (r : Rel X.K al H st) (hE : EnvR X.K al H env σ) (tk : Takes X W)
    (h : PostR X.K X.mg al H (fun C H' => W C none σ H') (fun v _ H' => ∀ u b, RepV X.K al H' v u → isiV t v = some b → Q (.bl b) H') (evE cx a env st)) (h2 : ∀ v s1, evE cx a env st = .ok v s1 → isiV t v ≠ none) : SE X ex σ H Q := by
  unfold chkE at hc
  split at hc
  · rename_i x p y z pz pos
    simp only [Bool.and_eq_true] at hc
    obtain ⟨⟨h1, h5⟩, h6⟩ := hc
    obtain ⟨rfl, b1, b2, b3, b4⟩ := isBlt_ok g T (by decide +kernel) h1
    have hn : tyName t ∈ bltNames := by cases t <;> decide +kernel
    obtain ⟨rfl, d1, d2, d3, d4⟩ := isBlt_ok g T hn h5
    have sh := chk_shape a y h6
    have pz : PE X (.Name (tyName t) pz) (tC (.ty (tyStr t))) := pe_bltn (u := .type (tyStr t)) d1 d2 (by cases t <;> decide +kernel) rfl d3 d4
    refine ⟨_, pe_callB call_isi b1 b2 (by decide +kernel) (pa_cons pe_SE (pa_cons pz pa_nil) (shape_star sh _ _)) b3 b4 (shape_star sh _ _) (by first | rfl | simp [backTo, starEach]), ?_⟩
    refine ia g T h6 r hE tk ?_
    cases e : evE cx a env st with
    | ok v s1 =>
      rw [e] at h
      intro H1 r1 x1 u ru
      cases q : isiV t v with
      | none => exact absurd q (h2 v s1 e)
      | some b => exact isi_ok ru.weak q (h H1 r1 x1 u b ru q)
    | exc c s1 => rw [e] at h; exact h
    | err => rw [e] at h; exact h
  · cases hc
theorem c_isi (t : Ty) {a : E} (ia : SndE cx N a) : SndE cx N (.isi t a) := by
  intro X k sc ex al H σ env st W Q g T hc r hE tk h
  rw [evE] at h
  refine isi_reads t ia g T hc r hE tk (PostR.imp (PostR.bind h) fun v s1 H1 r1 x1 q u b ru e => ?_) fun v s1 e n => ?_
  · rw [e] at q
    exact fin0 r1 q _ (.bl _)
  · rw [e] at h
    have h : PostE X al H σ W Q (match isiV t v with | some b => .ok (.d (.bl b)) s1 | none => .err) := h
    rw [n] at h
    exact h.elim
theorem t_isi (t : Ty) {a : E} (ia : SndE cx N a) : SndT cx N (.isi t a) := by
  intro X k sc ex al H σ env st W Q g T hc r hE tk h
  rw [evT] at h
  have hx : ∀ whole, isTrue ex X.env whole = (do let v ← whole; standAt ex.pos; holding [v] (truthy v)) := by
    unfold chkE at hc
    split at hc
    · intro _; rfl
    · cases hc
  refine ⟨_, pt_val pe_SE hx, ?_⟩
  refine isi_reads t ia g T hc r hE tk (PostR.imp (PostR.bind h) fun v s1 H1 r1 x1 q u b ru e => ?_) fun v s1 e n => ?_
  · rw [e] at q
    exact ⟨_, rfl, fin0 r1 q⟩
  · rw [e] at h
    have h : PostB X al H σ W Q (match isiV t v with | some b => .ok b s1 | none => .err) := h
    rw [n] at h
    exact h.elim
/-! ### methods -/
def mtVal : Mt → String
  | .append => "list.append" | .pop => "list.pop" | .join => "str.join" | .replace => "str.replace" | .split => "str.split" | .count => "str.count" | .find => "str.find"
  | .insert => "list.insert" | .extend => "list.extend" | .index => "list.index"
theorem base_ok {x : Expr} {n : Str} (h : notCall0 x = true) (env : PySem.Env) : attributeBase x n env (eval x env) = eval x env := by
  unfold attributeBase
  split
  · cases h
  · rfl
theorem few_ok {xs : List Expr} (h : ∀ x ∈ xs, okShape x = true) (hl : xs.length < 20) (pos : Pos) (env : PySem.Env) : ((backTo pos (starEach xs env)).all (fun x => !x.1) && (backToKw pos (keywordEach [] env)).all (fun x => x.1.isSome)
      && decide (xs.length + ([] : List Keyword).length + (if ([] : List Keyword).isEmpty then 0 else 1) < 30)) = true := by
  have e : starEach xs env = xs.map fun x => (false, eval x env) := by
    clear hl
    induction xs with
    | nil => rfl
    | cons x xs ih =>
      rw [shape_star (h x List.mem_cons_self), ih fun y hy => h y (List.mem_cons_of_mem _ hy)]
      rfl
  have h1 : (backTo pos (starEach xs env)).all (fun x => !x.1) = true := by
    rw [e]
    cases xs with
    | nil => first | rfl | simp [backTo]
    | cons x r => simp [backTo, List.all_map, Function.comp_def]
  rw [h1]
  simp [backToKw, keywordEach]
  omega

section
variable {X : Cx} {mg : Str → Option Value} {al : Al} {H : Hp} {st : Store} {Ex : Value → Hp → Prop} {Q : VK}
theorem joinT_eq (sep : Tx) : ∀ ts : List Tx, joinT sep ts = TL.joinL sep ts
  | [] => rfl
  | [x] => rfl
  | x :: y :: r => by
    show x ++ sep ++ joinT sep (y :: r) = TL.joinL sep (x :: y :: r)
    rw [joinT_eq sep (y :: r)]
    simp [TL.joinL]
theorem join_txt (sep : Tx) (ts : List Tx) : Txt.join (txt sep) (ts.map txt) = txt (joinT sep ts) := by
  refine ext_tl ?_
  rw [join_eq, tl_join, List.map_map]
  have e : (tl ∘ txt) = (id : Tx → Tx) := rfl
  rw [e, List.map_id, joinT_eq]
  rfl
theorem splitC_ne (c : Nat) : ∀ z : Tx, splitC c z ≠ []
  | [] => fun h => by cases h
  | x :: xs => by
    rw [splitC]
    split
    · exact fun h => by cases h
    · split <;> exact fun h => by cases h
theorem splitC_free (c : Nat) : ∀ p : Tx, c ∉ p → splitC c p = [p]
  | [], _ => rfl
  | x :: xs, h => by
    have hx : ¬ x = c := fun e => h (by rw [e]; exact List.mem_cons_self)
    rw [splitC, if_neg hx, splitC_free c xs fun q => h (List.mem_cons_of_mem _ q)]
theorem splitC_app (c : Nat) (r : Tx) : ∀ p : Tx, c ∉ p → splitC c (p ++ c :: r) = p :: splitC c r
  | [], _ => by
    show splitC c (c :: r) = _
    rw [splitC, if_pos rfl]
  | x :: xs, h => by
    have hx : ¬ x = c := fun e => h (by rw [e]; exact List.mem_cons_self)
    show splitC c (x :: (xs ++ c :: r)) = _
    rw [splitC, if_neg hx, splitC_app c r xs fun q => h (List.mem_cons_of_mem _ q)]
/-- pieces put together come apart again -/
theorem splitC_join (c : Nat) : ∀ ts : List Tx, ts ≠ [] → (∀ p ∈ ts, c ∉ p) → splitC c (joinT [c] ts) = ts
  | [], h, _ => absurd rfl h
  | [x], _, h => splitC_free c x (h x List.mem_cons_self)
  | x :: y :: r, _, h => by
    show splitC c (x ++ [c] ++ joinT [c] (y :: r)) = _
    rw [List.append_assoc]
    show splitC c (x ++ c :: joinT [c] (y :: r)) = _
    rw [splitC_app c _ x (h x List.mem_cons_self), splitC_join c (y :: r) (by simp) fun p hp => h p (List.mem_cons_of_mem _ hp)]
theorem split_txt (z : Tx) (c : Nat) : Txt.split (txt z) (txt [c]) = (splitC c z).map txt := by
  have hj : PySem.Str.join (txt [c]) (Txt.split (txt z) (txt [c])) = txt z := PySem.StrLaws.join_split (txt z) (txt [c])
  have hf : ∀ p ∈ Txt.split (txt z) (txt [c]), c ∉ p.cps.toList := PySem.StrLaws.split_free (txt z) c
  have hp := PyProof.Rows.split_pos (txt z) (txt [c])
  generalize Txt.split (txt z) (txt [c]) = P at hj hf hp
  have e1 : joinT [c] (P.map tl) = z := by
    have := congrArg tl hj
    rw [tl_join, ← joinT_eq] at this
    exact this
  have e2 := splitC_join c (P.map tl) (by intro q; have := congrArg List.length q; simp at this; subst this; simp at hp) (fun p hp => by
    obtain ⟨q, hq, rfl⟩ := List.mem_map.mp hp
    exact hf q hq)
  rw [e1] at e2
  rw [e2, List.map_map]
  have : ∀ p : Str, (txt ∘ tl) p = p := fun p => by
    show txt (tl p) = p
    refine ext_tl ?_
    rfl
  rw [show (txt ∘ tl) = id from funext this, List.map_id]
open PySem.StrLaws Builtin.Str in
theorem at_mem {z : Tx} {c i : Nat} (h : PySem.StrLaws.At (txt z) (txt [c]) (txt z).length i) : z[i]? = some c := (PySem.StrLaws.subAt_one (txt z) c i).mp h
theorem at_of {z : Tx} {c i : Nat} (h : z[i]? = some c) : PySem.StrLaws.At (txt z) (txt [c]) (txt z).length i := (PySem.StrLaws.subAt_one (txt z) c i).mpr h
theorem idx_first : ∀ {z : Tx} {c i : Nat}, z[i]? = some c → (∀ k, k < i → z[k]? ≠ some c) → z.idxOf c = i
  | [], _, _, h, _ => by simp at h
  | x :: xs, c, 0, h, _ => by
    simp at h
    subst h
    simp
  | x :: xs, c, i + 1, h, hn => by
    have h0 : ¬ x = c := fun e => hn 0 (by omega) (by simp [e])
    have := idx_first (z := xs) (c := c) (i := i) (by simpa using h) fun k hk => by
      have := hn (k + 1) (by omega)
      simpa using this
    rw [List.idxOf_cons, this, beq_false_of_ne h0]
    rfl
theorem find_txt (z : Tx) (c : Nat) : Txt.find (txt z) (txt [c]) = findC c z := by
  unfold Txt.find findC
  rcases PySem.StrLaws.occ_head (txt z) (txt [c]) 1 (Nat.le_refl 1) with ⟨h0, hn⟩ | ⟨i, r, h0, hi, hn⟩
  · rw [h0, if_neg]
    intro hm
    obtain ⟨j, hj⟩ := List.getElem?_of_mem hm
    exact hn j (at_of hj)
  · rw [h0, if_pos (List.mem_of_getElem? (at_mem hi))]
    rw [idx_first (at_mem hi) fun k hk e => hn k hk (at_of e)]
theorem count_txt (z : Tx) (c : Nat) : Txt.count (txt z) (txt [c]) = (((splitC c z).length - 1 : Nat) : Int) := by
  have e : (splitC c z).length = (Builtin.Str.occurrences (txt z) (txt [c]) 0 (txt z).length ((txt z).length + 1)).length + 1 := by
    have s := congrArg List.length (split_txt z c)
    rw [List.length_map] at s
    rw [← s]
    unfold Txt.split
    split
    · rename_i hc
      rcases PySem.StrLaws.occ_head (txt z) (txt [c]) ((txt z).length + 1) (by omega) with ⟨h0, hn⟩ | ⟨i, r, h0, hi, hn⟩
      · rw [h0]; rfl
      · exfalso
        have hm := List.mem_of_getElem? (at_mem hi)
        rw [Bool.or_eq_true, decide_eq_true_eq, decide_eq_true_eq] at hc
        rcases hc with q | q
        · have : (txt [c]).length = 1 := rfl
          have hl : (txt z).length = z.length := txt_len z
          have := List.length_pos_of_mem hm
          omega
        · exact PySem.StrLaws.kind_free (txt z) c q hm
    · split
      · rename_i he
        rw [List.isEmpty_iff.mp he]
        rfl
      · rw [PyProof.Rows.len_partsBetween]
  unfold Txt.count
  rw [e]
  rfl
/-- a method without arguments -/
theorem mth0_ok {m : Mt} (r : Rel X.K al H st) {x : Val} {u : V} (rx : RepW X.K al H x u)
    (h : PostR X.K mg al H Ex (fun v _ H' => ∀ u, RepV X.K al H' v u → Q u H') (methV m x [] st)) : SM X (mtVal m) u [] H Q := by
  unfold methV at h
  split at h
  · (first | contradiction | (rename_i e; exact nomatch e) | (rename_i e _; exact nomatch e))
  · rename_i i _
    obtain ⟨p, hp, rfl⟩ := rx
    split at h
    · rename_i xs hx
      split at h
      · rename_i d e
        obtain ⟨vs, hH, rds⟩ := r.cell i _ p hx hp
        obtain ⟨v, hv, rv⟩ := rds.last e
        refine ⟨_, mt_pop, p, vs, v, rfl, rfl, hH, hv, ?_⟩
        exact h _ (r.upd hp (stab_upd hH) ⟨_, upd_same, rds.dropLast.mono (stab_upd hH)⟩) (ext_cell (List.mem_of_getElem? hp) hH) _ (rv.mono (stab_upd hH))
      · exact h.elim
    · exact h.elim
  · (first | contradiction | (rename_i e; exact nomatch e) | (rename_i e _; exact nomatch e))
  · (first | contradiction | (rename_i e; exact nomatch e) | (rename_i e _; exact nomatch e))
  · (first | contradiction | (rename_i e; exact nomatch e) | (rename_i e _; exact nomatch e))
  · (first | contradiction | (rename_i e; exact nomatch e) | (rename_i e _; exact nomatch e))
  · (first | contradiction | (rename_i e; exact nomatch e) | (rename_i e _; exact nomatch e))
  · (first | contradiction | (rename_i e; exact nomatch e) | (rename_i e _; exact nomatch e))
  · (first | contradiction | (rename_i e; exact nomatch e) | (rename_i e _; exact nomatch e))
  · exact h.elim
theorem sum_ones : ∀ z : Tx, (z.map (((·.length) ∘ txt) ∘ fun c => [c])).sum = z.length
  | [] => rfl
  | x :: r => by
    have ih := sum_ones r
    rw [List.map_cons, List.sum_cons, ih]
    show 1 + r.length = r.length + 1
    omega
/-- a method by the values -/
theorem mth_ok {m : Mt} (hc : X.calm = true) (r : Rel X.K al H st) {x : Val} {u : V} {vs : List Val} {us : List V} (rx : RepW X.K al H x u) (rv : RepVs X.K al H vs us)
    (h : PostR X.K mg al H Ex (fun v _ H' => ∀ u, RepV X.K al H' v u → Q u H') (methV m x vs st)) : Gh X H fun H' => SM X (mtVal m) u us H' Q := by
  unfold methV at h
  split at h
  · rename_i i v
    obtain ⟨w, rfl, a⟩ := vs1 rv
    obtain ⟨p, hp, rfl⟩ := rx
    split at h
    · exact h.elim
    · rename_i d s1 e
      split at h
      · rename_i xs hx
        split at h
        · rename_i hl
          refine toD_gh r a e fun H1 r1 x1 rd => ?_
          obtain ⟨vs, hH, rds⟩ := r1.cell i _ p hx hp
          refine ⟨_, mt_append, p, vs, w, rfl, rfl, hH, by rw [← rds.length, ← line_eq]; exact hl, ?_⟩
          refine h _ (r1.upd hp (stab_upd hH) ⟨_, upd_same, (rds.append (.cons rd .nil)).mono (stab_upd hH)⟩) (x1.trans (ext_cell (List.mem_of_getElem? hp) hH)) _ .non
        · exact h.elim
      · exact h.elim
  · rename_i i
    cases rv
    obtain ⟨p, hp, rfl⟩ := rx
    split at h
    · rename_i xs hx
      split at h
      · rename_i d e
        obtain ⟨vs, hH, rds⟩ := r.cell i _ p hx hp
        obtain ⟨v, hv, rv⟩ := rds.last e
        refine .here ⟨_, mt_pop, p, vs, v, rfl, rfl, hH, hv, ?_⟩
        exact h _ (r.upd hp (stab_upd hH) ⟨_, upd_same, rds.dropLast.mono (stab_upd hH)⟩) (ext_cell (List.mem_of_getElem? hp) hH) _ (rv.mono (stab_upd hH))
      · exact h.elim
    · exact h.elim
  · rename_i i k
    obtain ⟨w, rfl, a⟩ := vs1 rv
    cases a
    obtain ⟨p, hp, rfl⟩ := rx
    split at h
    · rename_i xs hx
      split at h
      · rename_i hl
        split at h
        · rename_i j ej
          split at h
          · rename_i d e
            obtain ⟨vs, hH, rds⟩ := r.cell i _ p hx hp
            obtain ⟨v, hv, rv⟩ := rds.get e
            obtain ⟨e1, e2, e3, e4⟩ := L2.ixN_seq ej
            have hl : xs.length ≤ 16777216 := hl
            refine .here ⟨_, mt_popAt, p, vs, k, j, v, rfl, rfl, hH, by omega, by omega, by rw [← rds.length]; exact e1, hv, ?_⟩
            exact h _ (r.upd hp (stab_upd hH) ⟨_, upd_same, (rds.eraseIdx j).mono (stab_upd hH)⟩) (ext_cell (List.mem_of_getElem? hp) hH) _ (rv.mono (stab_upd hH))
          · exact h.elim
        · exact h.elim
      · exact h.elim
    · exact h.elim
  · rename_i sep z
    obtain ⟨w, rfl, a⟩ := vs1 rv
    cases rx
    cases a
    split at h
    · rename_i hl
      have e0 : ((txt z).cps.toList.map fun c => (⟨#[c]⟩ : PySem.Str)) = (z.map fun c => ([c] : Tx)).map txt := by
        rw [List.map_map]
        rfl
      have e1 : (((z.map fun c => ([c] : Tx)).map txt).map (·.length)).sum = z.length := by
        rw [List.map_map, List.map_map]
        exact sum_ones z
      refine .here ⟨_, mt_joinT hc, txt sep, txt z, rfl, rfl, ?_, ?_, ?_⟩
      · rw [e0, e1, List.length_map, List.length_map, txt_len]
        exact hl
      · show z.toArray.size ≤ _
        rw [List.size_toArray]
        exact Nat.le_trans (Nat.le_add_right _ _) hl
      · rw [e0, join_txt]
        exact fin0 r h _ (.str _)
    · exact h.elim
  · rename_i sep v _
    obtain ⟨w, rfl, a⟩ := vs1 rv
    cases rx
    split at h
    · rename_i xs e
      split at h
      · rename_i ts et
        split at h
        · rename_i hl
          obtain ⟨p, ws, rfl, hs, rd⟩ := seq_sq r a e
          have ew := rd.txts et
          subst ew
          refine .here ⟨_, mt_join, txt sep, p, ts.map txt, rfl, rfl, hs, ?_, ?_⟩
          · have e1 : (ts.map txt).map (·.length) = ts.map List.length := by
              rw [List.map_map]
              exact List.map_congr_left fun x _ => txt_len x
            rw [e1, List.length_map, txt_len]
            exact hl
          · rw [join_txt]
            exact fin0 r h _ (.str _)
        · exact h.elim
      · exact h.elim
    · exact h.elim
  · rename_i z c
    obtain ⟨w, rfl, a⟩ := vs1 rv
    cases rx
    cases a
    split at h
    · rename_i hl
      refine .here ⟨_, mt_split, txt z, txt [c], rfl, rfl, rfl, by rw [txt_len, ← line_eq]; exact hl, ?_⟩
      rw [split_txt]
      exact finL r h (repStrs _)
    · exact h.elim
  · rename_i z c
    obtain ⟨w, rfl, a⟩ := vs1 rv
    cases rx
    cases a
    refine .here ⟨_, mt_find, txt z, txt [c], rfl, rfl, ?_⟩
    rw [find_txt]
    exact fin0 r h _ (.int _)
  · rename_i z c
    obtain ⟨w, rfl, a⟩ := vs1 rv
    cases rx
    cases a
    refine .here ⟨_, mt_count, txt z, txt [c], rfl, rfl, ?_⟩
    rw [count_txt]
    exact fin0 r h _ (.int _)
  · rename_i i k v
    obtain ⟨w1, w, rfl, a1, a⟩ := vs2 rv
    cases a1
    obtain ⟨p, hp, rfl⟩ := rx
    split at h
    · exact h.elim
    · rename_i d s1 e
      split at h
      · rename_i xs hx
        split at h
        · rename_i hl
          refine toD_gh r a e fun H1 r1 x1 rd => ?_
          obtain ⟨vs, hH, rds⟩ := r1.cell i _ p hx hp
          refine ⟨_, mt_insert, p, vs, k, w, rfl, rfl, hH, by rw [← rds.length, ← line_eq]; exact hl.1, hl.2.1, hl.2.2, ?_⟩
          refine h _ (r1.upd hp (stab_upd hH) ⟨_, upd_same, (((rds.take k.toNat).append (.cons rd .nil)).append (rds.drop k.toNat)).mono (stab_upd hH)⟩) (x1.trans (ext_cell (List.mem_of_getElem? hp) hH)) _ .non
        · exact h.elim
      · exact h.elim
  · exact h.elim
theorem recv_ty {m : Mt} (r : Rel X.K al H st) {x : Val} {u : V} (rx : RepV X.K al H x u) (h : recvOk m x st = true) : isSup m = true ∧ ((isLm m = true ∧ tyV X.K "list" u H) ∨ (isLm m = false ∧ tyV X.K "str" u H)) := by
  unfold recvOk at h
  rw [Bool.and_eq_true] at h
  obtain ⟨h0, h⟩ := h
  refine ⟨h0, ?_⟩
  split at h
  · rename_i i
    rw [Bool.and_eq_true] at h
    obtain ⟨a, ha, rfl⟩ := rx
    obtain ⟨c, hc⟩ := Option.isSome_iff_exists.mp h.2
    obtain ⟨vs, hs, _⟩ := (r.cell i c a hc ha).items
    exact .inl ⟨h.1, .inl ⟨rfl, vs, hs⟩⟩
  · cases rx
    exact .inr ⟨by simpa using h, rfl⟩
  · cases h
end
theorem c_meth (m : Mt) {a : E} {es : Es} (ia : SndE cx N a) (ie : SndEs cx N es) : SndE cx N (.meth m a es) := by
  intro X k sc ex al H σ env st W Q g T hc r hE tk h
  unfold chkE at hc
  split at hc
  · rename_i x n p xs q
    simp only [Bool.and_eq_true, decide_eq_true_eq] at hc
    obtain ⟨⟨⟨⟨⟨rfl, hl⟩, h0⟩, h20⟩, ha⟩, hs⟩ := hc
    have sh := chks_shape es xs hs
    rw [evE] at h
    -- the reading, for any type and slot of the method
    have core : ∀ (Tn : String), (∀ {x : Val} {u : V} {H1 : Hp} {s1 : Store}, Rel X.K al H1 s1 → RepV X.K al H1 x u → recvOk m x s1 = true → tyV X.K Tn u H1) →
        SE X x σ H fun u H1 => tyV X.K Tn u H1 ∧ SA X xs σ H1 fun us H2 => SM X (mtVal m) u us H2 Q := fun Tn hT => by
      refine ia g T ha r hE tk (PostR.imp (PostR.bind h) fun v s1 H1 r1 x1 q u ru => ?_)
      split at q
      · rename_i hk
        refine ⟨hT r1 ru hk, ?_⟩
        refine SA.gh (ie g T hs r1 (hE.mono x1) tk (PostR.imp (PostR.bind q) fun vs s2 H2 r2 x2 q2 us rus => ?_))
        exact mth_ok g.calm r2 (ru.weak.mono x2) rus q2
      · exact q.elim
    have fin : ∀ (Tn : String) (pa : PlainAttrs Tn) (slot : Slot Tn (mtName m) (mtVal m)) (hty : typeOf (.builtin (mtVal m)) = pure (.type "method_descriptor")),
        (∀ {x : Val} {u : V} {H1 : Hp} {s1 : Store}, Rel X.K al H1 s1 → RepV X.K al H1 x u → recvOk m x s1 = true → tyV X.K Tn u H1) → SE X (.Call (.Attribute x (mtName m) p) xs [] q) σ H Q := fun Tn pa slot hty hT => by
      have c := core Tn hT
      cases xs with
      | nil =>
        refine ⟨_, pe_bm0 pa slot hty mt_SM pe_SE (base_ok h0 _) hl, ?_⟩
        have e : es = .nil := by
          cases es with
          | nil => rfl
          | cons e es => unfold chkEs at hs; cases hs
        subst e
        refine ia g T ha r hE tk (PostR.imp (PostR.bind h) fun v s1 H1 r1 x1 q u ru => ?_)
        split at q
        · rename_i hk
          rw [evEs] at q
          exact ⟨hT r1 ru hk, mth0_ok r1 ru.weak q⟩
        · exact q.elim
      | cons y ys =>
        exact ⟨_, pe_bm pa slot hty mt_SM pe_SE pa_SA (base_ok h0 _) (few_ok sh h20 _ _) hl (shape_star (sh y List.mem_cons_self) _ _) (shapes_plain (fun z hz => sh z (List.mem_cons_of_mem _ hz)) _ _), c⟩
    cases m with
    | append => exact fin "list" PySem.F.plainAttrs_list PySem.F.slot_list_append PySem.F.type_list_append fun r ru hk => (recv_ty r ru hk).2.elim (fun z => z.2) fun z => by cases z.1
    | pop => exact fin "list" PySem.F.plainAttrs_list PySem.F.slot_list_pop PySem.F.type_list_pop fun r ru hk => (recv_ty r ru hk).2.elim (fun z => z.2) fun z => by cases z.1
    | join => exact fin "str" PySem.F.plainAttrs_str PySem.F.slot_str_join PySem.F.type_str_join fun r ru hk => (recv_ty r ru hk).2.elim (fun z => by cases z.1) fun z => z.2
    | replace => exact fin "str" PySem.F.plainAttrs_str PySem.F.slot_str_replace PySem.F.type_str_replace fun r ru hk => by cases (recv_ty r ru hk).1
    | split => exact fin "str" PySem.F.plainAttrs_str PySem.F.slot_str_split PySem.F.type_str_split fun r ru hk => (recv_ty r ru hk).2.elim (fun z => by cases z.1) fun z => z.2
    | count => exact fin "str" PySem.F.plainAttrs_str PySem.F.slot_str_count PySem.F.type_str_count fun r ru hk => (recv_ty r ru hk).2.elim (fun z => by cases z.1) fun z => z.2
    | find => exact fin "str" PySem.F.plainAttrs_str PySem.F.slot_str_find PySem.F.type_str_find fun r ru hk => (recv_ty r ru hk).2.elim (fun z => by cases z.1) fun z => z.2
    | insert => exact fin "list" PySem.F.plainAttrs_list PySem.F.slot_list_insert PySem.F.type_list_insert fun r ru hk => (recv_ty r ru hk).2.elim (fun z => z.2) fun z => by cases z.1
    | extend => exact fin "list" PySem.F.plainAttrs_list PySem.F.slot_list_extend PySem.F.type_list_extend fun r ru hk => by cases (recv_ty r ru hk).1
    | index => exact fin "list" PySem.F.plainAttrs_list PySem.F.slot_list_index PySem.F.type_list_index fun r ru hk => by cases (recv_ty r ru hk).1
  · cases hc
end
end Pv

/-! Arguments, and, or, tests, walks, comprehensions; the theorem of expressions. -/
namespace Pv
open PySem PySem.Spec PyProof.Rows L2 TL

theorem PostR.impE {α : Type} {K : Frag} {mg : Str → Option Value} {al : Al} {H : Hp} {Ex : Value → Hp → Prop} {P P' : α → Store → Hp → Prop} {r : R α} (h : PostR K mg al H Ex P r)
    (f : ∀ v s H', r = .ok v s → Rel K al H' s → Ext al H al H' → P v s H' → P' v s H') : PostR K mg al H Ex P' r := by
  cases r with
  | ok v s => exact fun H' r x => f v s H' rfl r x (h H' r x)
  | exc c s => exact h
  | err => exact h
theorem R.bind_assoc {α β γ : Type} (r : R α) (f : α → Store → R β) (g : β → Store → R γ) : (r.bind f).bind g = r.bind fun a s => (f a s).bind g := by cases r <;> rfl
section
variable {cx : Cxt} {N : List Str}
theorem a_nil : SndEs cx N .nil := by
  intro X k sc exs al H σ env st W Q g T hc r hE tk h
  unfold chkEs at hc
  split at hc
  · rw [evEs] at h
    exact ⟨_, pa_nil, fin0 r h _ .nil⟩
  · cases hc
theorem a_cons {e : E} {es : Es} (ie : SndE cx N e) (ies : SndEs cx N es) : SndEs cx N (.cons e es) := by
  intro X k sc exs al H σ env st W Q g T hc r hE tk h
  unfold chkEs at hc
  split at hc
  · rename_i x xs
    simp only [Bool.and_eq_true] at hc
    rw [evEs] at h
    refine ⟨_, pa_cons pe_SE pa_SA (shape_star (chk_shape e x hc.1) xs _), ?_⟩
    refine ie g T hc.1 r hE tk (PostR.imp (PostR.bind h) fun v s1 H1 r1 x1 q u ru => ?_)
    refine ies g T hc.2 r1 (hE.mono x1) tk (PostR.imp (PostR.bind q) fun vs s2 H2 r2 x2 q2 us rus => ?_)
    exact fin0 r2 q2 _ (.cons (ru.weak.mono x2) rus)
  · cases hc
theorem and_nil : SndAnd cx N .nil := by
  intro X k sc exs pos al H σ env st W Q g T hc r hE tk h
  rw [evAnd] at h
  exact h.elim
theorem or_nil : SndOr cx N .nil := by
  intro X k sc exs pos al H σ env st W Q g T hc r hE tk h
  rw [evOr] at h
  exact h.elim
theorem and_cons {e : E} {es : Es} (ie : SndE cx N e) (ies : SndAnd cx N es) : SndAnd cx N (.cons e es) := by
  intro X k sc exs pos al H σ env st W Q g T hc r hE tk h
  unfold chkEs at hc
  split at hc
  · rename_i x xs
    simp only [Bool.and_eq_true] at hc
    cases es with
    | nil =>
      have e1 : xs = [] := by
        have := hc.2
        unfold chkEs at this
        split at this
        · rfl
        · cases this
      subst e1
      rw [evAnd] at h
      exact ⟨_, pe_one pe_SE, ie g T hc.1 r hE tk h⟩
    | cons e2 es2 =>
      have hc2 := hc.2
      cases xs with
      | nil => unfold chkEs at hc2; cases hc2
      | cons y ys =>
        rw [evAnd] at h
        refine ⟨_, pe_and pe_SE pe_SE, ?_⟩
        refine ie g T hc.1 r hE tk (PostR.imp (PostR.bind h) fun v s1 H1 r1 x1 q u ru => ?_)
        split at q
        · cases ru
          refine ⟨true, rfl, ?_⟩
          rw [if_pos rfl]
          exact ies g T hc2 r1 (hE.mono x1) tk q
        · cases ru
          refine ⟨false, rfl, ?_⟩
          rw [if_neg Bool.false_ne_true]
          exact fin0 r1 q _ (.bl _)
        · exact q.elim
  · cases hc
theorem or_cons {e : E} {es : Es} (ie : SndE cx N e) (ies : SndOr cx N es) : SndOr cx N (.cons e es) := by
  intro X k sc exs pos al H σ env st W Q g T hc r hE tk h
  unfold chkEs at hc
  split at hc
  · rename_i x xs
    simp only [Bool.and_eq_true] at hc
    cases es with
    | nil =>
      have e1 : xs = [] := by
        have := hc.2
        unfold chkEs at this
        split at this
        · rfl
        · cases this
      subst e1
      rw [evOr] at h
      exact ⟨_, pe_one pe_SE, ie g T hc.1 r hE tk h⟩
    | cons e2 es2 =>
      have hc2 := hc.2
      cases xs with
      | nil => unfold chkEs at hc2; cases hc2
      | cons y ys =>
        rw [evOr] at h
        refine ⟨_, pe_or pe_SE pe_SE, ?_⟩
        refine ie g T hc.1 r hE tk (PostR.imp (PostR.bind h) fun v s1 H1 r1 x1 q u ru => ?_)
        split at q
        · cases ru
          refine ⟨true, rfl, ?_⟩
          rw [if_pos rfl]
          exact fin0 r1 q _ (.bl _)
        · cases ru
          refine ⟨false, rfl, ?_⟩
          rw [if_neg Bool.false_ne_true]
          exact ies g T hc2 r1 (hE.mono x1) tk q
        · exact q.elim
  · cases hc
theorem c_and {es : Es} (ies : SndAnd cx N es) : SndE cx N (.and es) := by
  intro X k sc ex al H σ env st W Q g T hc r hE tk h
  unfold chkE at hc
  split at hc
  · simp only [Bool.and_eq_true] at hc
    rw [evE] at h
    exact ies g T hc.2 r hE tk h
  · cases hc
theorem c_or {es : Es} (ies : SndOr cx N es) : SndE cx N (.or es) := by
  intro X k sc ex al H σ env st W Q g T hc r hE tk h
  unfold chkE at hc
  split at hc
  · simp only [Bool.and_eq_true] at hc
    rw [evE] at h
    exact ies g T hc.2 r hE tk h
  · cases hc
/-! ### tests -/
theorem t_not {a : E} (ia : SndT cx N a) : SndT cx N (.not a) := by
  intro X k sc ex al H σ env st W Q g T hc r hE tk h
  unfold chkE at hc
  split at hc
  · rw [evT] at h
    refine ⟨_, pt_not pt_ST, ?_⟩
    exact ia g T hc r hE tk (PostR.imp (PostR.bind h) fun b s1 H1 r1 x1 q => fin0 r1 q)
  · cases hc
theorem ta_nil : SndTA cx N .nil := by
  intro X k sc exs pos al H σ env st W Q g T hc hn r hE tk h
  unfold chkEs at hc
  split at hc
  · exact absurd rfl hn
  · cases hc
theorem to_nil : SndTO cx N .nil := by
  intro X k sc exs pos al H σ env st W Q g T hc hn r hE tk h
  unfold chkEs at hc
  split at hc
  · exact absurd rfl hn
  · cases hc
theorem ta_cons {e : E} {es : Es} (ie : SndT cx N e) (ies : SndTA cx N es) : SndTA cx N (.cons e es) := by
  intro X k sc exs pos al H σ env st W Q g T hc hn r hE tk h
  unfold chkEs at hc
  split at hc
  · rename_i x xs
    simp only [Bool.and_eq_true] at hc
    rw [evTA] at h
    cases xs with
    | nil =>
      refine ⟨_, pw_and1 pt_ST, ?_⟩
      refine ie g T hc.1 r hE tk (PostR.imp (PostR.bind h) fun b s1 H1 r1 x1 q => ?_)
      cases es with
      | nil =>
        rw [evTA] at q
        cases b with
        | true => exact fin0 r1 q
        | false => exact fin0 r1 q
      | cons e2 es2 => have := hc.2; unfold chkEs at this; cases this
    | cons y ys =>
      refine ⟨_, pw_and pt_ST pw_SW, ?_⟩
      refine ie g T hc.1 r hE tk (PostR.imp (PostR.bind h) fun b s1 H1 r1 x1 q => ?_)
      cases b with
      | true =>
        rw [if_pos rfl] at q ⊢
        exact ies g T hc.2 (by simp) r1 (hE.mono x1) tk q
      | false =>
        rw [if_neg Bool.false_ne_true] at q ⊢
        exact fin0 r1 q
  · cases hc
theorem to_cons {e : E} {es : Es} (ie : SndT cx N e) (ies : SndTO cx N es) : SndTO cx N (.cons e es) := by
  intro X k sc exs pos al H σ env st W Q g T hc hn r hE tk h
  unfold chkEs at hc
  split at hc
  · rename_i x xs
    simp only [Bool.and_eq_true] at hc
    rw [evTO] at h
    cases xs with
    | nil =>
      refine ⟨_, pw_or1 pt_ST, ?_⟩
      refine ie g T hc.1 r hE tk (PostR.imp (PostR.bind h) fun b s1 H1 r1 x1 q => ?_)
      cases es with
      | nil =>
        rw [evTO] at q
        cases b with
        | true => exact fin0 r1 q
        | false => exact fin0 r1 q
      | cons e2 es2 => have := hc.2; unfold chkEs at this; cases this
    | cons y ys =>
      refine ⟨_, pw_or pt_ST pw_SW, ?_⟩
      refine ie g T hc.1 r hE tk (PostR.imp (PostR.bind h) fun b s1 H1 r1 x1 q => ?_)
      cases b with
      | true =>
        rw [if_pos rfl] at q ⊢
        exact fin0 r1 q
      | false =>
        rw [if_neg Bool.false_ne_true] at q ⊢
        exact ies g T hc.2 (by simp) r1 (hE.mono x1) tk q
  · cases hc
theorem t_and {es : Es} (ies : SndTA cx N es) : SndT cx N (.and es) := by
  intro X k sc ex al H σ env st W Q g T hc r hE tk h
  unfold chkE at hc
  split at hc
  · simp only [Bool.and_eq_true] at hc
    rw [evT] at h
    exact ⟨_, PW.pt pw_SW, ies g T hc.2 (fun e => by rw [e] at hc; exact absurd hc.1 (by simp)) r hE tk h⟩
  · cases hc
theorem t_or {es : Es} (ies : SndTO cx N es) : SndT cx N (.or es) := by
  intro X k sc ex al H σ env st W Q g T hc r hE tk h
  unfold chkE at hc
  split at hc
  · simp only [Bool.and_eq_true] at hc
    rw [evT] at h
    exact ⟨_, PW.pt pw_SW, ies g T hc.2 (fun e => by rw [e] at hc; exact absurd hc.1 (by simp)) r hE tk h⟩
  · cases hc
/-- a test that is a value's truth -/
theorem t_val {e : E} (ie : SndE cx N e) (heq : ∀ env st, evT cx e env st = (evE cx e env st).bind fun v s => match truV v s with | some k => .ok k s | none => .err)
    (hx : ∀ (sc : Scope) (ex : Expr), chkE N sc e ex = true → ∀ (env : PySem.Env) whole, isTrue ex env whole = (do let v ← whole; standAt ex.pos; holding [v] (truthy v))) : SndT cx N e := by
  intro X k sc ex al H σ env st W Q g T hc r hE tk h
  rw [heq] at h
  refine ⟨_, pt_truth pe_SE (hx sc ex hc X.env), ?_⟩
  refine ie g T hc r hE tk (PostR.imp (PostR.bind h) fun v s1 H1 r1 x1 q u ru => ?_)
  split at q
  · rename_i b e
    exact ⟨b, tru_val ru.weak e, fin0 r1 q⟩
  · exact q.elim
theorem t_var (i : Nat) : SndT cx N (.var i) := t_val (c_var i) (fun env st => by
    rw [evT, evE]
    cases env[i]? with
    | none => rfl
    | some o => cases o <;> rfl) fun sc ex h => by
  unfold chkE at h
  split at h
  · intro _ _; rfl
  · cases h
theorem t_ix {a i : E} (ia : SndE cx N a) (ib : SndE cx N i) : SndT cx N (.ix a i) := t_val (c_ix ia ib) (fun env st => by
    rw [evT, evE]
    simp only [R.bind_assoc] <;> rfl) fun sc ex h => by
  unfold chkE at h
  split at h
  · intro _ _; rfl
  · cases h
theorem t_call (f : String) {es : Es} (ie : SndEs cx N es) : SndT cx N (.call f es) := t_val (c_call f ie) (fun env st => by
    rw [evT, evE]
    split
    · simp only [R.bind_assoc] <;> rfl
    · rfl) fun sc ex h => by
  unfold chkE at h
  split at h
  · intro _ _; rfl
  · cases h
theorem t_blt (f : Blt) {es : Es} (ie : SndEs cx N es) : SndT cx N (.blt f es) := t_val (c_blt f ie) (fun env st => by
    rw [evT, evE]
    simp only [R.bind_assoc] <;> rfl) fun sc ex h => by
  unfold chkE at h
  split at h
  · intro _ _; rfl
  · cases h
theorem t_err {e : E} (h0 : ∀ env st, evT cx e env st = .err) : SndT cx N e := by
  intro X k sc ex al H σ env st W Q g T hc r hE tk h
  rw [h0] at h
  exact h.elim
/-! ### a comprehension's tests -/
theorem f_nil : SndC cx N .nil := by
  intro X k sc exs al H σ env st W Q g T hc r hE tk h
  unfold chkEs at hc
  split at hc
  · rw [evC] at h
    exact ⟨_, pts_nil, fin0 r h⟩
  · cases hc
theorem f_cons {e : E} (es : Es) (ie : SndT cx N e) : SndC cx N (.cons e es) := by
  intro X k sc exs al H σ env st W Q g T hc r hE tk h
  unfold chkEs at hc
  split at hc
  · rename_i x xs
    simp only [Bool.and_eq_true] at hc
    cases es with
    | nil =>
      rw [evC] at h
      have e1 : xs = [] := by
        have := hc.2
        unfold chkEs at this
        split at this
        · rfl
        · cases this
      subst e1
      exact ⟨_, pts_one pt_ST, ie g T hc.1 r hE tk h⟩
    | cons _ _ => rw [evC] at h; exact h.elim
  · cases hc
/-! ### what is walked -/
theorem i_val {e : E} (ie : SndE cx N e) : SndI cx N (.val e) := by
  intro X k sc tg ex al H σ env st W R' g T hc r hE tk h
  unfold chkI at hc
  rw [Bool.and_eq_true] at hc
  rw [evI] at h
  refine ⟨_, pi_any pe_SE, ?_⟩
  exact ie g T hc.2 r hE tk (PostR.imp (PostR.bind h) fun v s1 H1 r1 x1 q u ru => walk_ok r1 ru q)
theorem okR_ok {i : Int} (h : okR i = true) : -(2 ^ 62) ≤ i ∧ i < 2 ^ 62 := by
  unfold okR at h
  simp only [Bool.and_eq_true, decide_eq_true_eq] at h
  omega
theorem rgc50 {i j : Int} (ha : -(2 ^ 62) ≤ i) (ha' : i < 2 ^ 62) (hb : -(2 ^ 62) ≤ j) (hb' : j < 2 ^ 62) : RgC i j 50 ((j - i + 49) / 50).toNat := by
  have e : Builtin.Range.rangeSize i j 50 = if i < j then (j - i - 1) / 50 + 1 else 0 := by
    unfold Builtin.Range.rangeSize
    simp only [show (50 : Int) > 0 by decide, if_true]
  refine ⟨by decide, by decide, ?_, ?_⟩
  · unfold Builtin.Range.small
    rw [e]
    simp only [Builtin.Range.rangeFitsLong, Bool.and_eq_true, Bool.or_eq_true, decide_eq_true_eq, beq_iff_eq, show (50 : Int) > 0 by decide, if_true]
    split <;> omega
  · rw [e]
    split <;> omega
theorem i_range {es : Es} (ie : SndEs cx N es) : SndI cx N (.range es) := by
  intro X k sc tg ex al H σ env st W R' g T hc r hE tk h
  unfold chkI at hc
  split at hc
  · rename_i x p xs pos
    simp only [Bool.and_eq_true, decide_eq_true_eq] at hc
    obtain ⟨rfl, b1, b2, b3, b4⟩ := isBlt_ok g T (by decide +kernel) hc.1.1
    have sh := chks_shape es xs hc.2
    rw [evI] at h
    have hb := PostR.bind h
    have h3 := hc.1.2
    match xs, hc.2, sh, h3 with
    | [], hs, _, _ =>
      exfalso
      cases es with
      | nil => rw [evEs] at h; exact h.elim
      | cons _ _ => unfold chkEs at hs; cases hs
    | [a], hs, sh, _ =>
      refine ⟨_, pi_range1 b1 b2 pa_SA (shape_star (sh a (by simp)) [] _), ?_⟩
      refine ie g T hs r hE tk (PostR.impE hb fun vs s1 H1 ev r1 x1 q us ru => ?_)
      have hl := evEs_len es env st vs s1 sc [a] hs ev
      unfold rangeV at q
      split at q
      · cases ru with
        | cons ru1 ru2 =>
          cases ru1
          cases ru2
          split at q
          · rename_i o
            have o := okR_ok o
            exact ⟨_, rfl, o.1, o.2, fin0 r1 q _ wk_rng⟩
          · exact q.elim
      · simp at hl
      · simp at hl
      · exact q.elim
    | [a, b], hs, sh, _ =>
      refine ⟨_, pi_range2 b1 b2 pa_SA (by rw [shape_star (sh a (by simp)), shape_star (sh b (by simp))]; rfl) (shape_star (sh b (by simp)) [] _), ?_⟩
      refine ie g T hs r hE tk (PostR.impE hb fun vs s1 H1 ev r1 x1 q us ru => ?_)
      have hl := evEs_len es env st vs s1 sc [a, b] hs ev
      unfold rangeV at q
      split at q
      · simp at hl
      · cases ru with
        | cons ru1 ru2 =>
          cases ru2 with
          | cons ru2 ru3 =>
            cases ru1
            cases ru2
            cases ru3
            split at q
            · rename_i o
              rw [Bool.and_eq_true] at o
              have o1 := okR_ok o.1
              have o2 := okR_ok o.2
              exact ⟨_, _, rfl, ⟨o1.1, o1.2, o2.1, o2.2⟩, fin0 r1 q _ wk_rng⟩
            · exact q.elim
      · simp at hl
      · exact q.elim
    | [a, b, c], hs, sh, _ =>
      refine ⟨_, pi_range3 b1 b2 pa_SA (shape_star (sh a (by simp)) _ _) (shapes_plain (fun y hy => sh y (List.mem_cons_of_mem _ hy)) _ _), ?_⟩
      refine ie g T hs r hE tk (PostR.impE hb fun vs s1 H1 ev r1 x1 q us ru => ?_)
      have hl := evEs_len es env st vs s1 sc [a, b, c] hs ev
      unfold rangeV at q
      split at q
      · simp at hl
      · simp at hl
      · cases ru with
        | cons ru1 ru2 =>
          cases ru2 with
          | cons ru2 ru3 =>
            cases ru3 with
            | cons ru3 ru4 =>
              cases ru1
              cases ru2
              cases ru3
              cases ru4
              split at q
              · rename_i o
                simp only [Bool.and_eq_true, decide_eq_true_eq] at o
                obtain ⟨⟨o1, o2⟩, rfl⟩ := o
                have o1 := okR_ok o1
                have o2 := okR_ok o2
                exact ⟨_, _, _, _, rfl, RgC.neg o1.1 o1.2 o2.1 o2.2, fin0 r1 q _ wk_rngD⟩
              · split at q
                · rename_i o
                  simp only [Bool.and_eq_true, decide_eq_true_eq] at o
                  obtain ⟨⟨o1, o2⟩, rfl⟩ := o
                  have o1 := okR_ok o1
                  have o2 := okR_ok o2
                  exact ⟨_, _, _, _, rfl, rgc50 o1.1 o1.2 o2.1 o2.2, fin0 r1 q _ wk_rngD⟩
                · exact q.elim
      · exact q.elim
    | _ :: _ :: _ :: _ :: _, hs, sh, h3 => exact absurd h3 (by simp only [List.length_cons]; omega)
  · cases hc
end
end Pv

/-! Comprehensions; the theorem of expressions. -/
namespace Pv
open PySem PySem.Spec PyProof.Rows L2 TL

section
variable {cx : Cxt} {N : List Str}
theorem own_slots : ∀ (is : List Nat), is.all (fun i => decide (i < N.length)) = true → (ownOf N is).map (·.2) = is
  | [], _ => rfl
  | i :: is, h => by
    simp only [List.all_cons, Bool.and_eq_true, decide_eq_true_eq] at h
    have ih := own_slots is h.2
    have e : N[i]? = some N[i] := List.getElem?_eq_getElem h.1
    show ((i :: is).filterMap fun i => (N[i]?).map fun x => (x, i)).map (·.2) = i :: is
    rw [List.filterMap_cons, e]
    exact congrArg (i :: ·) ih
theorem wipeE_len (env : Env) : ∀ is, (wipeE env is).length = env.length
  | [] => rfl
  | i :: is => by
    show ((wipeE env is).set i none).length = _
    rw [List.length_set, wipeE_len env is]
theorem wipeE_get {env : Env} : ∀ {is : List Nat} {i : Nat} {v : Val}, (wipeE env is)[i]? = some (some v) → env[i]? = some (some v) ∧ i ∉ is
  | [], i, v, h => ⟨h, by simp⟩
  | j :: is, i, v, h => by
    have h : ((wipeE env is).set j none)[i]? = some (some v) := h
    by_cases e : j = i
    · subst e
      by_cases hl : j < (wipeE env is).length
      · rw [List.getElem?_set_self hl] at h; cases h
      · rw [List.getElem?_eq_none (by rw [List.length_set]; omega)] at h; cases h
    · rw [List.getElem?_set_ne e] at h
      obtain ⟨h1, h2⟩ := wipeE_get h
      exact ⟨h1, by simp only [List.mem_cons, not_or]; exact ⟨fun q => e q.symm, h2⟩⟩
theorem wipe_get {σ : L2.St} : ∀ {is : List Nat} {i : Nat}, i ∉ is → (wipe σ is)[i]? = σ[i]?
  | [], _, _ => rfl
  | j :: is, i, h => by
    simp only [List.mem_cons, not_or] at h
    show ((wipe σ is).set j none)[i]? = _
    rw [List.getElem?_set_ne (fun q => h.1 q.symm), wipe_get h.2]
theorem EnvR.wipe {K : Frag} {al : Al} {H : Hp} {env : Env} {σ : L2.St} (h : EnvR K al H env σ) (is : List Nat) : EnvR K al H (wipeE env is) (L2.wipe σ is) := by
  refine ⟨by rw [wipeE_len, wipe_length, h.len], fun i v e => ?_⟩
  obtain ⟨h1, h2⟩ := wipeE_get e
  obtain ⟨n, u, h3, h4⟩ := h.get i v h1
  exact ⟨n, u, by rw [wipe_get h2]; exact h3, h4⟩
theorem wipe_in {σ : L2.St} : ∀ {is : List Nat} {i : Nat}, i ∈ is → i < σ.length → (L2.wipe σ is)[i]? = some none
  | j :: is, i, h, hl => by
    show ((L2.wipe σ is).set j none)[i]? = _
    by_cases e : j = i
    · subst e
      rw [List.getElem?_set_self (by rw [L2.wipe_length]; exact hl)]
    · rw [List.getElem?_set_ne e]
      rcases List.mem_cons.mp h with q | q
      · exact absurd q.symm e
      · exact wipe_in q hl
theorem wipe_idem (σ : L2.St) (is : List Nat) : L2.wipe (L2.wipe σ is) is = L2.wipe σ is := by
  refine List.ext_getElem? fun i => ?_
  by_cases h : i ∈ is
  · by_cases hl : i < σ.length
    · rw [wipe_in h (by rw [L2.wipe_length]; exact hl), wipe_in h hl]
    · rw [List.getElem?_eq_none (by rw [L2.wipe_length, L2.wipe_length]; omega), List.getElem?_eq_none (by rw [L2.wipe_length]; omega)]
  · rw [wipe_get h]
theorem takes0w {X : Cx} : Takes X (fun _ _ _ _ => False) := fun _ _ x => by
  obtain ⟨_, _, _, _, _, _, _, _, _, _, _, _, _, _, _, _, z⟩ := x
  exact z.elim
theorem chkI_fold {sc : Scope} {it : It} {ex : Expr} {env : PySem.Env} (h : chkI N sc it ex = true) (v : Value) : foldedSetIterable ex env v = pure v := by
  cases it with
  | val e =>
    unfold chkI at h
    cases ex <;> first | rfl | (simp at h; done)
  | range es =>
    unfold chkI at h
    cases ex <;> first | rfl | (cases h; done)
  | enum e =>
    unfold chkI at h
    cases ex <;> first | rfl | (cases h; done)
  | zip a b =>
    unfold chkI at h
    cases h
theorem Ext.less {al : Al} {p : Addr → Prop} {H H' : Hp} (x : Ext ⟨al.c, p⟩ H ⟨al.c, p⟩ H') (h : ∀ b, al.p b → p b) : Ext al H al H' :=
  ⟨⟨[], by simp⟩, rfl, fun _ h n => absurd h n, fun b u hp hn e => x.prt b u (h b hp) hn e, fun b u n e => x.has1 n.1 e, x.stab⟩
theorem Ext.write {al : Al} {H H' : Hp} {a : Addr} {vs : List V} {o : HO} (x : Ext al H al H') (h0 : H a = none) (h : H' a = some (.lst vs)) : Ext al H al (L2.upd H' a o) := by
  have ne : ∀ b u, H b = some u → b ≠ a := fun b u e z => by rw [z, h0] at e; cases e
  exact ⟨x.pre, x.pp, x.fresh, fun b u hp hn e => by rw [upd_ne (ne b u e)]; exact x.prt b u hp hn e, fun b u n e => by rw [upd_ne (ne b u e)]; exact x.oth b u n e, x.stab.trans (stab_upd h)⟩
/-- the reading of a comprehension -/
theorem lc_reads {elt : E} {tg : Tg} {it : It} {ifs : Es} (ii : SndI cx N it) (ic : SndC cx N ifs) (ie : SndE cx N elt) {X : Cx} {k : Nat} {sc : Scope} {x t i : Expr} {fs : List Expr} {scope : Scope} {al : Al} {H : Hp} {σ : L2.St} {env : Env} {st : Store} {W : WX} {Q : VK}
    (g : Good N sc k X) (T : Tab cx k X.prog X.w X.K X.mg X.base) (r : Rel X.K al H st) (hE : EnvR X.K al H env σ) (tk : Takes X W)
    (hk : scope.kind = .function) (hw : (slotsT tg).all (fun i => decide (i < N.length)) = true) (hg : chkG N scope tg t = true) (hi : chkI N sc it i = true) (hf : chkEs N scope ifs fs = true) (hx : chkE N scope elt x = true)
    (h : PostE X al H σ W Q ((evI cx it env st).bind fun w s1 => (lcL w tg (fun e s => evC cx ifs e s) (fun e s => evE cx elt e s) (wipeE env (slotsT tg)) w.items [] s1).bind fun ds s2 => .ok (.new ds) s2)) :
    tLc (SI X t i) (fun v σ' H' Q' => ∀ (s : Shared) (H0 : Hp) (C : Addr) (cl : List (Str × Addr)) (fp : List Addr), SG (X.blk s H0 scope (compEnvC scope cl C X.env) fp) t v σ' H' Q')
      (fun σ' H' Q' => ∀ (s : Shared) (H0 : Hp) (C : Addr) (cl : List (Str × Addr)) (fp : List Addr), SC (X.blk s H0 scope (compEnvC scope cl C X.env) fp) fs σ' H' Q')
      (fun σ' H' Q' => ∀ (s : Shared) (H0 : Hp) (C : Addr) (cl : List (Str × Addr)) (fp : List Addr), SE (X.blk s H0 scope (compEnvC scope cl C X.env) fp) x σ' H' Q') ((ownOf N (slotsT tg)).map (·.2)) σ H Q := by
  rw [own_slots _ hw]
  refine ii g T hi r hE tk (PostR.imp (PostR.bind h) fun w s1 H1 r1 x1 q J hJ => ?_)
  intro a ha
  have han : al.out a := r1.notIn ha
  have q := PostR.bind q
  -- the word between two turns
  refine ⟨fun i m H2 => ∃ ds acc st2 vs, w.items.drop i = ds ∧ m = ds.length ∧ H2 a = some (.lst vs) ∧ RepDs X.K H2 acc vs ∧ Rel X.K al H2 st2 ∧ Ext al H1 al H2 ∧
    PostR X.K X.mg al H1 (fun C H' => W C none σ H') (fun ds s2 H' => PostR X.K X.mg al H' (fun C H' => W C none σ H') (fun v _ H' => ∀ u, RepV X.K al H' v u → Q u H') (.ok (.new ds) s2))
      (lcL w tg (fun e s => evC cx ifs e s) (fun e s => evE cx elt e s) (wipeE env (slotsT tg)) ds acc st2),
    ⟨w.items.length, w.items, [], s1, [], rfl, rfl, upd_same, .nil, r1.ext_new ha, ext_new ha, q⟩, ?_⟩
  rintro i m H2 ⟨ds, acc, st2, vs, hd, rfl, hA, rA, r2, x2, p⟩
  cases ds with
  | nil =>
    rw [lcL] at p
    split at p
    · rename_i ok
      obtain ⟨_, hstop⟩ := hJ _ H2 st2 x2 r2 ok
      refine .inl ⟨hstop i ?_, ?_⟩
      · have := congrArg List.length hd
        rw [List.length_drop] at this
        simp at this
        omega
      · exact p H2 r2 x2 H2 r2 (Ext.refl _ _) _ ⟨a, vs, rfl, hA, han, rA⟩
    · exact p.elim
  | cons d ds =>
    rw [lcL] at p
    split at p
    · rename_i ok
      rw [Bool.and_eq_true, decide_eq_true_eq] at ok
      obtain ⟨ok, hl⟩ := ok
      have rp : Rel X.K ⟨al.c, fun b => al.p b ∨ b = a⟩ H2 st2 := r2.keep fun b hb => by
        have hb : al.p b ∨ b = a := hb
        rcases hb with hb | hb
        · exact r2.prot b hb
        · subst hb
          refine ⟨?_, han.1⟩
          rw [hA]
          exact fun z => by cases z
      obtain ⟨hgo, _⟩ := hJ ⟨al.c, fun b => al.p b ∨ b = a⟩ H2 st2 x2 rp ok
      have hdi : w.items[i]? = some d := by
        have := congrArg (fun l : List D => l[0]?) hd
        simp only [List.getElem?_drop, Nat.add_zero] at this
        exact this
      have hdrop : w.items.drop (i + 1) = ds := by
        have := congrArg (fun l : List D => l.drop 1) hd
        simp only [List.drop_drop] at this
        exact this
      obtain ⟨go, yl⟩ := hgo i d hdi
      refine .inr ⟨go, fun H' => ∃ ds2 acc st2 vs, w.items.drop (i + 1) = ds2 ∧ ds.length = ds2.length ∧ H' a = some (.lst vs) ∧ RepDs X.K H' acc vs ∧ Rel X.K al H' st2 ∧ Ext al H1 al H' ∧
        PostR X.K X.mg al H1 (fun C H' => W C none σ H') (fun ds s2 H' => PostR X.K X.mg al H' (fun C H' => W C none σ H') (fun v _ H' => ∀ u, RepV X.K al H' v u → Q u H') (.ok (.new ds) s2))
          (lcL w tg (fun e s => evC cx ifs e s) (fun e s => evE cx elt e s) (wipeE env (slotsT tg)) ds2 acc st2), fun H' hN => ⟨ds.length, by simp, hN⟩, fun v H3 hy => ?_⟩
      obtain ⟨r3, x3, rv⟩ := yl v H3 hy
      split at p
      · rename_i env1 hb
        have hEw : EnvR X.K ⟨al.c, fun b => al.p b ∨ b = a⟩ H3 (wipeE env (slotsT tg)) (L2.wipe σ (slotsT tg)) := ((((hE.mono x1).mono x2).keep fun b => al.p b ∨ b = a).mono x3).wipe _
        intro s0 H0 C cl fp
        refine snd_G tg (g.blk scope hk s0 H0 C cl fp) hg hEw rv hb fun σ1 e1 w1 => ⟨?_, ?_⟩
        · rw [w1 _ fun i hi => hi, wipe_idem]
        intro s0' H0' C' cl' fp'
        have gb := g.blk scope hk s0' H0' C' cl' fp'
        have e1' : EnvR X.K ⟨al.c, fun b => al.p b ∨ b = a⟩ H3 env1 σ1 := e1
        have lo : ∀ {Ha Hb : Hp}, Ext ⟨al.c, fun b => al.p b ∨ b = a⟩ Ha ⟨al.c, fun b => al.p b ∨ b = a⟩ Hb → Ext al Ha al Hb := fun x => x.less fun b hb => .inl hb
        have lr : ∀ {Ha : Hp} {sa : Store}, Rel X.K ⟨al.c, fun b => al.p b ∨ b = a⟩ Ha sa → Rel X.K al Ha sa := fun r => r.keep fun b hb => r.prot b (.inl hb)
        cases et : evC cx ifs env1 st2 with
        | err => simp only [et] at p; exact p.elim
        | exc c s => simp only [et] at p; exact p.elim
        | ok b st3 =>
          simp only [et] at p
          refine ic gb T hf r3 e1' takes0w ?_
          unfold PostB
          rw [et]
          intro H4 r4 x4
          cases b with
          | false =>
            rw [if_neg (by simp)]
            have x24 := x3.trans x4
            exact ⟨ds, acc, st3, vs, hdrop, rfl, x24.prt a _ (.inr rfl) han.1 hA, rA.mono x24.stab, lr r4, x2.trans (lo x24), p⟩
          | true =>
            rw [if_pos rfl]
            intro s0 H0 C cl fp
            have gb := g.blk scope hk s0 H0 C cl fp
            cases ee : evE cx elt env1 st3 with
            | err => simp only [ee] at p; exact p.elim
            | exc c s => simp only [ee] at p; exact p.elim
            | ok v st4 =>
              simp only [ee] at p
              refine SE.gh ?_
              refine ie gb T hx r4 (e1'.mono x4) takes0w ?_
              unfold PostE
              rw [ee]
              intro H5 r5 x5 u ru
              split at p
              · rename_i y st5 ey
                refine toD_gh r5 ru.weak ey fun H6 r6 x6 rd => ?_
                have x26 := ((x3.trans x4).trans x5).trans x6
                have h6 := x26.prt a _ (.inr rfl) han.1 hA
                have sb : Stab H6 (upd H6 a (.lst (vs ++ [u]))) := stab_upd h6
                refine ⟨vs, h6, by rw [← line_eq, ← rA.length]; exact hl, ds, _, _, _, hdrop, rfl, upd_same, ((rA.mono x26.stab).append (.cons rd .nil)).mono sb, (lr r6).other han sb, (x2.trans (lo x26)).write ha h6, p⟩
              · exact p.elim
      · exact p.elim
    · exact p.elim
theorem c_lc {elt : E} {tg : Tg} {it : It} {ifs : Es} (ii : SndI cx N it) (ic : SndC cx N ifs) (ie : SndE cx N elt) : SndE cx N (.lc elt tg it ifs) := by
  intro X k sc ex al H σ env st W Q g T hc r hE tk h
  unfold chkE at hc
  split at hc
  · rename_i x t i fs scope pos
    simp only [Bool.and_eq_true] at hc
    obtain ⟨⟨⟨⟨⟨hb, hw⟩, hg⟩, hi⟩, hf⟩, hx⟩ := hc
    have hw := of_decide_eq_true hw
    have ok := g.blkOk hb
    have sh : ∀ v, foldedSetIterable i X.env v = pure v := fun v => chkI_fold hi v
    unfold evE at h
    exact ⟨_, pe_lc g.calm (by rw [g.n]; exact g.nd) pi_SI ok (fun s H C cl fp => ⟨fun pins s' σ' H' v u Q' I rv h' => pg_SG.run pins s' σ' H' v u Q' I rv (h' s H C cl fp)⟩)
      (fun s H C cl fp => ⟨fun pins s' σ' H' Q' I h' => pts_SC.run pins s' σ' H' Q' I (h' s H C cl fp)⟩) (fun s H C cl fp => ⟨fun pins s' σ' H' Q' I h' => pe_SE.run pins s' σ' H' Q' I (h' s H C cl fp)⟩) sh,
      lc_reads ii ic ie g T r hE tk ok.kind hw hg hi hf hx h⟩
  · cases hc
theorem i_err {it : It} (h0 : ∀ env st, evI cx it env st = .err) : SndI cx N it := by
  intro X k sc tg ex al H σ env st W R' g T hc r hE tk h
  rw [h0] at h
  exact h.elim
mutual
theorem snd_E : ∀ e : E, SndE cx N e
  | .var i => c_var i
  | .int i => c_int i
  | .str x => c_str x
  | .bl b => c_bl b
  | .non => c_non
  | .glob g => c_glob g
  | .bin o a b => c_bin o (snd_E a) (snd_E b)
  | .neg a => c_neg (snd_E a)
  | .inv a => c_inv (snd_E a)
  | .not a => c_not (snd_E a)
  | .cmp o a b => c_cmp o (snd_E a) (snd_E b)
  | .chain o1 o2 a b c => c_chain o1 o2 (snd_E a) (snd_E b) (snd_E c)
  | .and es => c_and (snd_And es)
  | .or es => c_or (snd_Or es)
  | .ite t a b => c_ite (snd_T t) (snd_E a) (snd_E b)
  | .tup es => c_tup (snd_Es es)
  | .list es => c_list (snd_Es es)
  | .ix a i => c_ix (snd_E a) (snd_E i)
  | .slice a lo hi => c_slice (snd_E a) (snd_E lo) (snd_E hi)
  | .slice0 a hi => c_slice0 (snd_E a) (snd_E hi)
  | .slice1 a lo => c_slice1 (snd_E a) (snd_E lo)
  | .rev a => c_rev (snd_E a)
  | .call f es => c_call f (snd_Es es)
  | .blt f es => c_blt f (snd_Es es)
  | .meth m a es => c_meth m (snd_E a) (snd_Es es)
  | .lc elt tg it ifs => c_lc (snd_I it) (snd_C ifs) (snd_E elt)
  | .frz a => c_frz (snd_E a)
  | .isi t a => c_isi t (snd_E a)
theorem snd_Es : ∀ es : Es, SndEs cx N es
  | .nil => a_nil
  | .cons e es => a_cons (snd_E e) (snd_Es es)
theorem snd_And : ∀ es : Es, SndAnd cx N es
  | .nil => and_nil
  | .cons e es => and_cons (snd_E e) (snd_And es)
theorem snd_Or : ∀ es : Es, SndOr cx N es
  | .nil => or_nil
  | .cons e es => or_cons (snd_E e) (snd_Or es)
theorem snd_T : ∀ e : E, SndT cx N e
  | .var i => t_var i
  | .int i => t_err fun _ _ => by first | rfl | (unfold evT; rfl)
  | .str x => t_err fun _ _ => by first | rfl | (unfold evT; rfl)
  | .bl b => t_err fun _ _ => by first | rfl | (unfold evT; rfl)
  | .non => t_err fun _ _ => by first | rfl | (unfold evT; rfl)
  | .glob g => t_err fun _ _ => by first | rfl | (unfold evT; rfl)
  | .bin o a b => t_err fun _ _ => by first | rfl | (unfold evT; rfl)
  | .neg a => t_err fun _ _ => by first | rfl | (unfold evT; rfl)
  | .inv a => t_err fun _ _ => by first | rfl | (unfold evT; rfl)
  | .not a => t_not (snd_T a)
  | .cmp o a b => t_cmp o (snd_E a) (snd_E b)
  | .chain o1 o2 a b c => t_chain o1 o2 (snd_E a) (snd_E b) (snd_E c)
  | .and es => t_and (snd_TA es)
  | .or es => t_or (snd_TO es)
  | .ite t a b => t_err fun _ _ => by first | rfl | (unfold evT; rfl)
  | .tup es => t_err fun _ _ => by first | rfl | (unfold evT; rfl)
  | .list es => t_err fun _ _ => by first | rfl | (unfold evT; rfl)
  | .ix a i => t_ix (snd_E a) (snd_E i)
  | .slice a lo hi => t_err fun _ _ => by first | rfl | (unfold evT; rfl)
  | .slice0 a hi => t_err fun _ _ => by first | rfl | (unfold evT; rfl)
  | .slice1 a lo => t_err fun _ _ => by first | rfl | (unfold evT; rfl)
  | .rev a => t_err fun _ _ => by first | rfl | (unfold evT; rfl)
  | .call f es => t_call f (snd_Es es)
  | .blt f es => t_blt f (snd_Es es)
  | .meth m a es => t_err fun _ _ => by first | rfl | (unfold evT; rfl)
  | .lc elt tg it ifs => t_err fun _ _ => by first | rfl | (unfold evT; rfl)
  | .frz a => t_err fun _ _ => by first | rfl | (unfold evT; rfl)
  | .isi t a => t_isi t (snd_E a)
theorem snd_TA : ∀ es : Es, SndTA cx N es
  | .nil => ta_nil
  | .cons e es => ta_cons (snd_T e) (snd_TA es)
theorem snd_TO : ∀ es : Es, SndTO cx N es
  | .nil => to_nil
  | .cons e es => to_cons (snd_T e) (snd_TO es)
theorem snd_C : ∀ es : Es, SndC cx N es
  | .nil => f_nil
  | .cons e es => f_cons es (snd_T e)
theorem snd_I : ∀ it : It, SndI cx N it
  | .val e => i_val (snd_E e)
  | .range es => i_range (snd_Es es)
  | .enum e => i_err fun _ _ => by first | rfl | (unfold evI; rfl)
  | .zip a b => i_err fun _ _ => by first | rfl | (unfold evI; rfl)
end
end
end Pv

/-! Statements. -/
namespace Pv
open PySem PySem.Spec PyProof.Rows L2 TL

/-! ### shapes -/
def okComp : Expr → Bool
  | .SetComp .. => false
  | .DictComp .. => false
  | _ => true
theorem chk_comp {N : List Str} {sc : Scope} : ∀ (e : E) (ex : Expr), chkE N sc e ex = true → okComp ex = true
  | .frz a, ex, h => chk_comp a ex (by unfold chkE at h; exact h)
  | .var _, ex, h => by cases ex <;> first | rfl | (unfold chkE at h; cases h)
  | .int _, ex, h => by cases ex <;> first | rfl | (unfold chkE at h; cases h)
  | .str _, ex, h => by cases ex <;> first | rfl | (unfold chkE at h; cases h)
  | .bl _, ex, h => by cases ex <;> first | rfl | (unfold chkE at h; cases h)
  | .non, ex, h => by cases ex <;> first | rfl | (unfold chkE at h; cases h)
  | .glob _, ex, h => by cases ex <;> first | rfl | (unfold chkE at h; cases h)
  | .bin _ _ _, ex, h => by cases ex <;> first | rfl | (unfold chkE at h; cases h)
  | .neg _, ex, h => by cases ex <;> first | rfl | (unfold chkE at h; cases h)
  | .inv _, ex, h => by cases ex <;> first | rfl | (unfold chkE at h; cases h)
  | .not _, ex, h => by cases ex <;> first | rfl | (unfold chkE at h; cases h)
  | .cmp _ _ _, ex, h => by cases ex <;> first | rfl | (unfold chkE at h; cases h)
  | .chain _ _ _ _ _, ex, h => by cases ex <;> first | rfl | (unfold chkE at h; cases h)
  | .and _, ex, h => by cases ex <;> first | rfl | (unfold chkE at h; cases h)
  | .or _, ex, h => by cases ex <;> first | rfl | (unfold chkE at h; cases h)
  | .ite _ _ _, ex, h => by cases ex <;> first | rfl | (unfold chkE at h; cases h)
  | .tup _, ex, h => by cases ex <;> first | rfl | (unfold chkE at h; cases h)
  | .list _, ex, h => by cases ex <;> first | rfl | (unfold chkE at h; cases h)
  | .ix _ _, ex, h => by cases ex <;> first | rfl | (unfold chkE at h; cases h)
  | .slice _ _ _, ex, h => by cases ex <;> first | rfl | (unfold chkE at h; cases h)
  | .slice0 _ _, ex, h => by cases ex <;> first | rfl | (unfold chkE at h; cases h)
  | .slice1 _ _, ex, h => by cases ex <;> first | rfl | (unfold chkE at h; cases h)
  | .rev _, ex, h => by cases ex <;> first | rfl | (unfold chkE at h; cases h)
  | .call _ _, ex, h => by cases ex <;> first | rfl | (unfold chkE at h; cases h)
  | .blt _ _, ex, h => by cases ex <;> first | rfl | (unfold chkE at h; cases h)
  | .meth _ _ _, ex, h => by cases ex <;> first | rfl | (unfold chkE at h; cases h)
  | .isi _ _, ex, h => by cases ex <;> first | rfl | (unfold chkE at h; cases h)
  | .lc _ _ _ _, ex, h => by cases ex <;> first | rfl | (unfold chkE at h; cases h)
theorem sw_false {N : List Str} {sc : Scope} {e : E} {ex : Expr} (h : chkE N sc e ex = true) (n : isLC ex = false) (t : Option Expr) (l : Nat) (env : PySem.Env) : swapsWith ex t l env = pure false := by
  have h := chk_comp e ex h
  cases ex <;> first | rfl | (cases n; done) | (simp [okComp] at h; done)
theorem sole_false {N : List Str} {sc : Scope} {e : E} {ex : Expr} (h : chkE N sc e ex = true) (n : isLC ex = false) (t : Expr) (l : Nat) (env : PySem.Env) : swapsWithSole [t] ex l env = pure false := sw_false h n _ _ _
theorem stores_none {ex : Expr} (n : isTuple ex = false) (t : Expr) (env : PySem.Env) : swappedStores [t] ex env = pure none := by
  cases t <;> first | rfl | (cases ex <;> first | rfl | cases n)
theorem stores_none' {ex o i : Expr} {p : Pos} (env : PySem.Env) : swappedStores [.Subscript o i p] ex env = pure none := rfl

/-! ### what is wanted of a statement's end -/
def PostS (X : Cx) (al : Al) (H : Hp) (D : Ends) (W : WX) : SR → Prop
  | .nx env s => ∀ al' H' σ', Rel X.K al' H' s → EnvR X.K al' H' env σ' → Ext al H al' H' → D.nx σ' H'
  | .ct env s => ∀ al' H' σ', Rel X.K al' H' s → EnvR X.K al' H' env σ' → Ext al H al' H' → D.ct σ' H'
  | .rt v s => ∀ al' H' u, Rel X.K al' H' s → Ext al H al' H' → RepV X.K al' H' v u → D.rt u H'
  | .exc c env s => ∀ al' H' σ' C, Rel X.K al' H' s → EnvR X.K al' H' env σ' → Ext al H al' H' → X.mg (Str.ofString c) = some C → W C none σ' H'
  | .err => False
section
variable {X : Cx} {al al1 : Al} {H H1 : Hp} {D : Ends} {W : WX} {r : SR}
theorem PostS.ext (x1 : Ext al H al1 H1) (h : PostS X al H D W r) : PostS X al1 H1 D W r := by
  cases r with
  | nx env s => exact fun al' H' σ' r e x => h al' H' σ' r e (x1.trans x)
  | ct env s => exact fun al' H' σ' r e x => h al' H' σ' r e (x1.trans x)
  | rt v s => exact fun al' H' u r x rv => h al' H' u r (x1.trans x) rv
  | exc c env s => exact fun al' H' σ' C r e x m => h al' H' σ' C r e (x1.trans x) m
  | err => exact h
theorem Ext.less' {al al' : Al} {p : Addr → Prop} {H H' : Hp} (x : Ext ⟨al.c, p⟩ H al' H') (h : ∀ b, al.p b → p b) : Ext al H ⟨al'.c, al.p⟩ H' :=
  ⟨x.pre, rfl, x.fresh, fun b u hp hn e => x.prt b u (h b hp) hn e, fun b u n e => x.has1 n.1 e, x.stab⟩
theorem Rel.less {K : Frag} {al al' : Al} {p : Addr → Prop} {H H' : Hp} {st : Store} (r : Rel K al' H' st) (x : Ext ⟨al.c, p⟩ H al' H') (h : ∀ b, al.p b → p b) : Rel K ⟨al'.c, al.p⟩ H' st :=
  r.keep fun a ha => r.prot a (by rw [x.pp]; exact h a ha)
/-- more is kept safe -/
theorem PostS.lift {p : Addr → Prop} (hp : ∀ b, al.p b → p b) (h : PostS X al H D W r) : PostS X ⟨al.c, p⟩ H D W r := by
  cases r with
  | nx env s => exact fun al' H' σ' r e x => h ⟨al'.c, al.p⟩ H' σ' (r.less x hp) (e.keep _) (x.less' hp)
  | ct env s => exact fun al' H' σ' r e x => h ⟨al'.c, al.p⟩ H' σ' (r.less x hp) (e.keep _) (x.less' hp)
  | rt v s =>
    refine fun al' H' u r x rv => h ⟨al'.c, al.p⟩ H' u (r.less x hp) (x.less' hp) ?_
    cases v with
    | d d => exact rv
    | ref i => exact rv
    | new ds =>
      obtain ⟨a, vs, e, h1, n, h2⟩ := rv
      exact ⟨a, vs, e, h1, ⟨n.1, fun q => n.2 (by rw [x.pp]; exact hp a q)⟩, h2⟩
  | exc c env s => exact fun al' H' σ' C r e x m => h ⟨al'.c, al.p⟩ H' σ' C (r.less x hp) (e.keep _) (x.less' hp) m
  | err => exact h
/-- what stands is kept safe -/
def sureP (al : Al) (H : Hp) (b : Addr) : Prop := H b ≠ none ∧ b ∉ al.c
theorem Rel.sure {st : Store} (r : Rel X.K al H st) : Rel X.K ⟨al.c, sureP al H⟩ H st := r.keep fun _ h => h
theorem Rel.sureLe {st : Store} (r : Rel X.K al H st) : ∀ b, al.p b → sureP al H b := fun b h => r.prot b h
end

/-- a def's own context -/
structure Own (X : Cx) : Prop where
  po : PassesOwn (model X.prog X.w) X.A X.env X.xe
  hs : X.stack = X.env :: X.outer
  hf : X.env.frame = some X.env.locals
section
variable {cx : Cxt} {N : List Str}
def SndS (cx : Cxt) (N : List Str) (s : S) : Prop := ∀ ⦃X : Cx⦄ ⦃k : Nat⦄ ⦃sc : Scope⦄ ⦃st : Stmt⦄ ⦃al : Al⦄ ⦃H : Hp⦄ ⦃σ : L2.St⦄ ⦃env : Env⦄ ⦃sto : Store⦄ ⦃W : WX⦄ ⦃D : Ends⦄,
  Good N sc k X → Tab cx k X.prog X.w X.K X.mg X.base → Own X → chkS N sc s st = true → Rel X.K al H sto → EnvR X.K al H env σ → Takes X W → PostS X al H D W (evS cx s env sto) → SS X st D σ H
def SndSs (cx : Cxt) (N : List Str) (s : Ss) : Prop := ∀ ⦃X : Cx⦄ ⦃k : Nat⦄ ⦃sc : Scope⦄ ⦃st : List Stmt⦄ ⦃al : Al⦄ ⦃H : Hp⦄ ⦃σ : L2.St⦄ ⦃env : Env⦄ ⦃sto : Store⦄ ⦃W : WX⦄ ⦃D : Ends⦄,
  Good N sc k X → Tab cx k X.prog X.w X.K X.mg X.base → Own X → chkSs N sc s st = true → Rel X.K al H sto → EnvR X.K al H env σ → Takes X W → PostS X al H D W (evSs cx s env sto) → SSs X st D σ H

theorem ss_nil : SndSs cx N .nil := by
  intro X k sc st al H σ env sto W D g T po hc r hE tk h
  unfold chkSs at hc
  split at hc
  · unfold evSs at h
    exact ⟨_, pss_nil, h al H σ r hE (Ext.refl _ _)⟩
  · cases hc
theorem ss_cons {s : S} {ss : Ss} (ih : SndS cx N s) (ihs : SndSs cx N ss) : SndSs cx N (.cons s ss) := by
  intro X k sc st al H σ env sto W D g T po hc r hE tk h
  unfold chkSs at hc
  split at hc
  · rename_i x xs
    rw [Bool.and_eq_true] at hc
    unfold evSs at h
    refine ⟨_, pss_cons ps_SS (pss_SSs (s := xs)), ?_⟩
    refine ih (D := { D with nx := SSs X xs D }) (W := W) g T po hc.1 r hE tk ?_
    cases e : evS cx s env sto with
    | nx env1 s1 =>
      simp only [e] at h
      exact fun al' H' σ' r' e' x' => ihs g T po hc.2 r' e' tk (h.ext x')
    | ct env1 s1 => simp only [e] at h; exact h
    | rt v s1 => simp only [e] at h; exact h
    | exc c env1 s1 => simp only [e] at h; exact h
    | err => simp only [e] at h; exact h
  · cases hc
theorem s_pass : SndS cx N .pass := by
  intro X k sc st al H σ env sto W D g T po hc r hE tk h
  unfold chkS at hc
  split at hc
  · unfold evS at h
    exact ⟨_, ps_pass, h al H σ r hE (Ext.refl _ _)⟩
  · cases hc
theorem s_cont : SndS cx N .cont := by
  intro X k sc st al H σ env sto W D g T po hc r hE tk h
  unfold chkS at hc
  split at hc
  · unfold evS at h
    exact ⟨_, ps_continue, h al H σ r hE (Ext.refl _ _)⟩
  · cases hc
theorem s_retN : SndS cx N .retN := by
  intro X k sc st al H σ env sto W D g T po hc r hE tk h
  unfold chkS at hc
  split at hc
  · unfold evS at h
    exact ⟨_, ps_retN, h al H _ r (Ext.refl _ _) .non⟩
  · cases hc
theorem s_ret (e : E) : SndS cx N (.ret e) := by
  intro X k sc st al H σ env sto W D g T po hc r hE tk h
  unfold chkS at hc
  split at hc
  · unfold evS at h
    refine ⟨_, ps_ret pe_SE, snd_E e g T hc r hE tk ?_⟩
    unfold PostE
    cases q : evE cx e env sto with
    | ok v s1 => simp only [q] at h; exact fun H' r' x' u ru => h al H' u r' x' ru
    | exc c s1 => simp only [q] at h; exact fun H' C r' x' m => h al H' σ C r' (hE.mono x') x' m
    | err => simp only [q] at h; exact h
  · cases hc
theorem s_ex (e : E) : SndS cx N (.ex e) := by
  intro X k sc st al H σ env sto W D g T po hc r hE tk h
  unfold chkS at hc
  split at hc
  · rw [Bool.and_eq_true, Bool.not_eq_true'] at hc
    unfold evS at h
    refine ⟨_, ps_expr pe_SE (sw_false hc.1 hc.2 _ _ _), snd_E e g T hc.1 r hE tk ?_⟩
    unfold PostE
    cases q : evE cx e env sto with
    | ok v s1 => simp only [q] at h; exact fun H' r' x' u ru => h al H' σ r' (hE.mono x') x'
    | exc c s1 => simp only [q] at h; exact fun H' C r' x' m => h al H' σ C r' (hE.mono x') x' m
    | err => simp only [q] at h; exact h
  · cases hc
theorem s_ife (t : E) {a b : Ss} (ia : SndSs cx N a) (ib : SndSs cx N b) : SndS cx N (.ife t a b) := by
  intro X k sc st al H σ env sto W D g T po hc r hE tk h
  unfold chkS at hc
  split at hc
  · rw [Bool.and_eq_true, Bool.and_eq_true] at hc
    unfold evS at h
    refine ⟨_, ps_if pt_ST pss_SSs pss_SSs, snd_T t g T hc.1.1 r hE tk ?_⟩
    unfold PostB
    cases q : evT cx t env sto with
    | ok v s1 =>
      cases v with
      | true =>
        simp only [q] at h
        intro H' r' x'
        show (if true = true then SSs X _ D σ H' else SSs X _ D σ H')
        rw [if_pos rfl]
        exact ia g T po hc.1.2 r' (hE.mono x') tk (h.ext x')
      | false =>
        simp only [q] at h
        intro H' r' x'
        show (if false = true then SSs X _ D σ H' else SSs X _ D σ H')
        rw [if_neg (by simp)]
        exact ib g T po hc.2 r' (hE.mono x') tk (h.ext x')
    | exc c s1 => simp only [q] at h; exact fun H' C r' x' m => h al H' σ C r' (hE.mono x') x' m
    | err => simp only [q] at h; exact h
  · cases hc
/-- a value that a name takes -/
theorem set_post {X : Cx} {al : Al} {H : Hp} {σ : L2.St} {env : Env} {sto : Store} {W : WX} {D : Ends} {i : Nat} {e : E} (r : Rel X.K al H sto) (hE : EnvR X.K al H env σ) (h : PostS X al H D W (evS cx (.set i e) env sto)) :
    PostE X ⟨al.c, sureP al H⟩ H σ W (fun x H1 => D.nx (σ.set i (some x)) H1) (evE cx e env sto) := by
  unfold evS at h
  unfold PostE
  have le := r.sureLe
  cases q : evE cx e env sto with
  | ok v s1 =>
    intro H' r' x' u ru
    have r0 := r'.less x' le
    have x0 : Ext al H al H' := x'.less le
    cases v with
    | d d =>
      simp only [q] at h
      exact h al H' _ r0 ((hE.mono x0).set (v := .d d) rfl ru i) x0
    | ref j =>
      simp only [q] at h
      exact h al H' _ r0 ((hE.mono x0).set (v := .ref j) rfl ru i) x0
    | new xs =>
      simp only [q] at h
      obtain ⟨a, vs, rfl, h1, n, h2⟩ := ru
      have hn : H a = none := by
        cases qa : H a with
        | none => rfl
        | some o =>
          refine absurd ⟨?_, n.1⟩ n.2
          rw [qa]
          exact fun z => by cases z
      have o : al.out a := ⟨n.1, fun p => n.2 (le a p)⟩
      have rp := r0.push (a := a) (c := .lst xs) o ⟨vs, h1, h2⟩
      have xp : Ext al H (al.push a) H' := by
        obtain ⟨β, hb⟩ := x0.pre
        refine ⟨⟨[a], rfl⟩, rfl, fun b hb nb => ?_, x0.prt, x0.oth, x0.stab⟩
        have hb : b ∈ al.c ++ [a] := hb
        rcases List.mem_append.mp hb with z | z
        · exact absurd z nb
        · have : b = a := by simpa using z
          subst this; exact hn
      refine h (al.push a) H' _ rp ((hE.mono xp).set (v := .ref s1.length) rfl ⟨a, ?_, rfl⟩ i) xp
      show (al.c ++ [a])[s1.length]? = some a
      have hl : al.c.length = s1.length := r0.len
      rw [← hl, List.getElem?_append_right (Nat.le_refl _)]
      simp
  | exc c s1 =>
    simp only [q] at h
    exact fun H' C r' x' m => h al H' σ C (r'.less x' le) (hE.mono (x'.less le)) (x'.less le) m
  | err => simp only [q] at h; exact h
theorem EnvR.sure {X : Cx} {al : Al} {H : Hp} {env : Env} {σ : L2.St} (h : EnvR X.K al H env σ) : EnvR X.K ⟨al.c, sureP al H⟩ H env σ := h.keep _
/-- a comprehension with its shuttings -/
theorem lc_gh : ∀ (e : E) {X : Cx} {k : Nat} {sc : Scope} {x t i : Expr} {fs : List Expr} {scope : Scope} {pos : Pos} {al : Al} {H : Hp} {σ : L2.St} {env : Env} {st : Store} {W : WX} {Q : VK},
    Good N sc k X → Tab cx k X.prog X.w X.K X.mg X.base → Rel X.K al H st → EnvR X.K al H env σ → Takes X W → chkE N sc e (.ListComp x [⟨t, i, fs, 0⟩] scope pos) = true →
    PostE X al H σ W (fun v H1 => Gh X H1 fun H2 => Q v H2) (evE cx e env st) →
    ∃ tg : Tg, BlkOk X.N X.env.scope scope (ownOf N (slotsT tg)) ∧ (∀ v, foldedSetIterable i X.env v = pure v) ∧
      tLc (SI X t i) (fun v σ' H' Q' => ∀ (s : Shared) (H0 : Hp) (C : Addr) (cl : List (Str × Addr)) (fp : List Addr), SG (X.blk s H0 scope (compEnvC scope cl C X.env) fp) t v σ' H' Q')
      (fun σ' H' Q' => ∀ (s : Shared) (H0 : Hp) (C : Addr) (cl : List (Str × Addr)) (fp : List Addr), SC (X.blk s H0 scope (compEnvC scope cl C X.env) fp) fs σ' H' Q')
      (fun σ' H' Q' => ∀ (s : Shared) (H0 : Hp) (C : Addr) (cl : List (Str × Addr)) (fp : List Addr), SE (X.blk s H0 scope (compEnvC scope cl C X.env) fp) x σ' H' Q') ((ownOf N (slotsT tg)).map (·.2)) σ H (fun v H1 => Gh X H1 fun H2 => Q v H2)
  | .frz a, X, k, sc, x, t, i, fs, scope, pos, al, H, σ, env, st, W, Q, g, T, r, hE, tk, hc, h => by
    unfold chkE at hc
    rw [evE] at h
    refine lc_gh a g T r hE tk hc (PostR.imp (PostR.bind h) fun x s1 H1 r1 x1 q u ru => ?_)
    split at q
    · rename_i d s2 e
      exact Gh.join (toD_gh r1 ru.weak e fun H2 r2 x2 rd => q H2 r2 x2 _ rd)
    · exact q.elim
  | .lc elt tg it ifs, X, k, sc, x, t, i, fs, scope, pos, al, H, σ, env, st, W, Q, g, T, r, hE, tk, hc, h => by
    unfold chkE at hc
    simp only [Bool.and_eq_true] at hc
    obtain ⟨⟨⟨⟨⟨hb, hw⟩, hg⟩, hi⟩, hf⟩, hx⟩ := hc
    have hw := of_decide_eq_true hw
    have ok := g.blkOk hb
    unfold evE at h
    exact ⟨tg, ok, fun v => chkI_fold hi v, lc_reads (snd_I it) (snd_C ifs) (snd_E elt) g T r hE tk ok.kind hw hg hi hf hx h⟩
  | .var _, X, k, sc, x, t, i, fs, scope, pos, al, H, σ, env, st, W, Q, g, T, r, hE, tk, hc, h => by unfold chkE at hc; cases hc
  | .int _, X, k, sc, x, t, i, fs, scope, pos, al, H, σ, env, st, W, Q, g, T, r, hE, tk, hc, h => by unfold chkE at hc; cases hc
  | .str _, X, k, sc, x, t, i, fs, scope, pos, al, H, σ, env, st, W, Q, g, T, r, hE, tk, hc, h => by unfold chkE at hc; cases hc
  | .bl _, X, k, sc, x, t, i, fs, scope, pos, al, H, σ, env, st, W, Q, g, T, r, hE, tk, hc, h => by unfold chkE at hc; cases hc
  | .non, X, k, sc, x, t, i, fs, scope, pos, al, H, σ, env, st, W, Q, g, T, r, hE, tk, hc, h => by unfold chkE at hc; cases hc
  | .glob _, X, k, sc, x, t, i, fs, scope, pos, al, H, σ, env, st, W, Q, g, T, r, hE, tk, hc, h => by unfold chkE at hc; cases hc
  | .bin _ _ _, X, k, sc, x, t, i, fs, scope, pos, al, H, σ, env, st, W, Q, g, T, r, hE, tk, hc, h => by unfold chkE at hc; cases hc
  | .neg _, X, k, sc, x, t, i, fs, scope, pos, al, H, σ, env, st, W, Q, g, T, r, hE, tk, hc, h => by unfold chkE at hc; cases hc
  | .inv _, X, k, sc, x, t, i, fs, scope, pos, al, H, σ, env, st, W, Q, g, T, r, hE, tk, hc, h => by unfold chkE at hc; cases hc
  | .not _, X, k, sc, x, t, i, fs, scope, pos, al, H, σ, env, st, W, Q, g, T, r, hE, tk, hc, h => by unfold chkE at hc; cases hc
  | .cmp _ _ _, X, k, sc, x, t, i, fs, scope, pos, al, H, σ, env, st, W, Q, g, T, r, hE, tk, hc, h => by unfold chkE at hc; cases hc
  | .chain _ _ _ _ _, X, k, sc, x, t, i, fs, scope, pos, al, H, σ, env, st, W, Q, g, T, r, hE, tk, hc, h => by unfold chkE at hc; cases hc
  | .and _, X, k, sc, x, t, i, fs, scope, pos, al, H, σ, env, st, W, Q, g, T, r, hE, tk, hc, h => by unfold chkE at hc; cases hc
  | .or _, X, k, sc, x, t, i, fs, scope, pos, al, H, σ, env, st, W, Q, g, T, r, hE, tk, hc, h => by unfold chkE at hc; cases hc
  | .ite _ _ _, X, k, sc, x, t, i, fs, scope, pos, al, H, σ, env, st, W, Q, g, T, r, hE, tk, hc, h => by unfold chkE at hc; cases hc
  | .tup _, X, k, sc, x, t, i, fs, scope, pos, al, H, σ, env, st, W, Q, g, T, r, hE, tk, hc, h => by unfold chkE at hc; cases hc
  | .list _, X, k, sc, x, t, i, fs, scope, pos, al, H, σ, env, st, W, Q, g, T, r, hE, tk, hc, h => by unfold chkE at hc; cases hc
  | .ix _ _, X, k, sc, x, t, i, fs, scope, pos, al, H, σ, env, st, W, Q, g, T, r, hE, tk, hc, h => by unfold chkE at hc; cases hc
  | .slice _ _ _, X, k, sc, x, t, i, fs, scope, pos, al, H, σ, env, st, W, Q, g, T, r, hE, tk, hc, h => by unfold chkE at hc; cases hc
  | .slice0 _ _, X, k, sc, x, t, i, fs, scope, pos, al, H, σ, env, st, W, Q, g, T, r, hE, tk, hc, h => by unfold chkE at hc; cases hc
  | .slice1 _ _, X, k, sc, x, t, i, fs, scope, pos, al, H, σ, env, st, W, Q, g, T, r, hE, tk, hc, h => by unfold chkE at hc; cases hc
  | .rev _, X, k, sc, x, t, i, fs, scope, pos, al, H, σ, env, st, W, Q, g, T, r, hE, tk, hc, h => by unfold chkE at hc; cases hc
  | .call _ _, X, k, sc, x, t, i, fs, scope, pos, al, H, σ, env, st, W, Q, g, T, r, hE, tk, hc, h => by unfold chkE at hc; cases hc
  | .blt _ _, X, k, sc, x, t, i, fs, scope, pos, al, H, σ, env, st, W, Q, g, T, r, hE, tk, hc, h => by unfold chkE at hc; cases hc
  | .meth _ _ _, X, k, sc, x, t, i, fs, scope, pos, al, H, σ, env, st, W, Q, g, T, r, hE, tk, hc, h => by unfold chkE at hc; cases hc
  | .isi _ _, X, k, sc, x, t, i, fs, scope, pos, al, H, σ, env, st, W, Q, g, T, r, hE, tk, hc, h => by unfold chkE at hc; cases hc
theorem SS.gh {X : Cx} {s : Stmt} {D : Ends} {σ : L2.St} {H : Hp} (h : SS X s { D with nx := fun σ H => Gh X H (D.nx σ) } σ H) : SS X s D σ H := by
  obtain ⟨t, p, q⟩ := h
  refine ⟨fun D σ H => t { D with nx := fun σ H => Gh X H (D.nx σ) } σ H, ⟨fun pins s σ' H' D' I h' => ?_⟩, q⟩
  refine thn (p.run pins s σ' H' _ I h') fun f s1 z => ?_
  cases f with
  | next =>
    obtain ⟨σ2, H2, I2, g⟩ := z
    obtain ⟨H3, I3, q3⟩ := g pins σ2 s1 I2
    exact ⟨σ2, H3, I3, q3⟩
  | ret v => exact z
  | brk => exact z
  | cont => exact z
theorem chk_lcShape {sc : Scope} : ∀ (e : E) {x : Expr} {cs : List Comprehension} {scope : Scope} {pos : Pos}, chkE N sc e (.ListComp x cs scope pos) = true → ∃ t i fs, cs = [⟨t, i, fs, 0⟩]
  | .frz a, _, _, _, _, h => chk_lcShape a (by unfold chkE at h; exact h)
  | .lc _ _ _ _, _, _, _, _, h => by
    unfold chkE at h
    split at h
    · rename_i heq
      cases heq
      exact ⟨_, _, _, rfl⟩
    · cases h
  | .var _, _, _, _, _, h => by unfold chkE at h; cases h
  | .int _, _, _, _, _, h => by unfold chkE at h; cases h
  | .str _, _, _, _, _, h => by unfold chkE at h; cases h
  | .bl _, _, _, _, _, h => by unfold chkE at h; cases h
  | .non, _, _, _, _, h => by unfold chkE at h; cases h
  | .glob _, _, _, _, _, h => by unfold chkE at h; cases h
  | .bin _ _ _, _, _, _, _, h => by unfold chkE at h; cases h
  | .neg _, _, _, _, _, h => by unfold chkE at h; cases h
  | .inv _, _, _, _, _, h => by unfold chkE at h; cases h
  | .not _, _, _, _, _, h => by unfold chkE at h; cases h
  | .cmp _ _ _, _, _, _, _, h => by unfold chkE at h; cases h
  | .chain _ _ _ _ _, _, _, _, _, h => by unfold chkE at h; cases h
  | .and _, _, _, _, _, h => by unfold chkE at h; cases h
  | .or _, _, _, _, _, h => by unfold chkE at h; cases h
  | .ite _ _ _, _, _, _, _, h => by unfold chkE at h; cases h
  | .tup _, _, _, _, _, h => by unfold chkE at h; cases h
  | .list _, _, _, _, _, h => by unfold chkE at h; cases h
  | .ix _ _, _, _, _, _, h => by unfold chkE at h; cases h
  | .slice _ _ _, _, _, _, _, h => by unfold chkE at h; cases h
  | .slice0 _ _, _, _, _, _, h => by unfold chkE at h; cases h
  | .slice1 _ _, _, _, _, _, h => by unfold chkE at h; cases h
  | .rev _, _, _, _, _, h => by unfold chkE at h; cases h
  | .call _ _, _, _, _, _, h => by unfold chkE at h; cases h
  | .blt _ _, _, _, _, _, h => by unfold chkE at h; cases h
  | .meth _ _ _, _, _, _, _, h => by unfold chkE at h; cases h
  | .isi _ _, _, _, _, _, h => by unfold chkE at h; cases h
theorem s_set (i : Nat) (e : E) : SndS cx N (.set i e) := by
  intro X k sc st al H σ env sto W D g T po hc r hE tk h
  unfold chkS at hc
  split at hc
  · rename_i x p ex q
    simp only [Bool.and_eq_true] at hc
    obtain ⟨⟨hs, he⟩, hl⟩ := hc
    unfold isSet at hs
    simp only [Bool.and_eq_true, decide_eq_true_eq] at hs
    obtain ⟨l1, l2⟩ := g.loc x hs.1.2
    have hN : X.N.Nodup := by rw [g.n]; exact g.nd
    have hi : X.N[i]? = some x := by rw [g.n]; exact hs.1.1
    have hp := set_post r hE h
    by_cases sw : isLC ex = false
    · exact ⟨_, ps_set hN hi l1 pe_SE (sw_false he sw _ _ _) l2, snd_E e g T he r.sure hE.sure tk hp⟩
    · cases ex with
      | ListComp x1 cs scope pos =>
        obtain ⟨t, it, fs, rfl⟩ := chk_lcShape e he
        rw [Bool.or_eq_true, Bool.or_eq_true, Bool.and_eq_true, Bool.and_eq_true, decide_eq_true_eq, decide_eq_true_eq] at hl
        rcases hl with (hl | hl) | ⟨⟨hl, hline⟩, hn⟩
        · cases hl
        · have kc := g.cel x hl
          refine ⟨_, ps_set hN hi l1 pe_SE ?_ l2, snd_E e g T he r.sure hE.sure tk hp⟩
          show (pure (X.env.blockKind == .function && X.env.kindOf x == some .local && p.line == pos.line && !(scope.names.any fun (n, k) => n == x && (k == .local || k == .cell))) : Sem Bool) = pure false
          have : X.env.kindOf x = some .cell := kc
          rw [this]
          congr 1
          simp only [Bool.and_eq_false_iff]
          exact .inl (.inl (.inr rfl))
        · have kl := g.lcl x hl
          have hp' : PostE X ⟨al.c, sureP al H⟩ H σ W (fun v H1 => Gh X H1 fun H2 => D.nx (σ.set i (some v)) H2) (evE cx e env sto) := PostR.imp hp fun v s1 H1 r1 x1 q u ru => Gh.here (q u ru)
          obtain ⟨tg, ok, fo, hlc⟩ := lc_gh e g T r.sure hE.sure tk he hp'
          refine SS.gh ⟨_, ps_setLc g.calm hN hi kl ?_ pi_SI ok (fun s H C cl fp => ⟨fun pins s' σ' H' v u Q' I rv h' => pg_SG.run pins s' σ' H' v u Q' I rv (h' s H C cl fp)⟩)
            (fun s H C cl fp => ⟨fun pins s' σ' H' Q' I h' => pts_SC.run pins s' σ' H' Q' I (h' s H C cl fp)⟩) (fun s H C cl fp => ⟨fun pins s' σ' H' Q' I h' => pe_SE.run pins s' σ' H' Q' I (h' s H C cl fp)⟩) fo, hlc⟩
          show (pure (X.env.blockKind == .function && X.env.kindOf x == some .local && p.line == pos.line && !(scope.names.any fun (n, k) => n == x && (k == .local || k == .cell))) : Sem Bool) = pure true
          have k1 : X.env.kindOf x = some .local := kl
          have k2 : X.env.blockKind = .function := by
            unfold PySem.Env.blockKind
            rw [g.knd]
            rfl
          have k3 : (p.line == pos.line) = true := hline
          rw [k1, k2, k3]
          simp only [] at hn
          rw [hn]
          rfl
      | _ => exact absurd rfl sw
  · cases hc
end
end Pv

/-! try .. except C as e: what is said of the exception. -/
namespace Pv
open PySem PySem.Spec PyProof.Rows L2 TL

theorem scope_ok {N P : List Str} {sc : Scope} (h : chkScope N P sc = true) : FnScope N P sc := by
  unfold chkScope at h
  simp only [Bool.and_eq_true, decide_eq_true_eq, Bool.not_eq_true', List.all_eq_true, Bool.or_eq_true] at h
  obtain ⟨⟨⟨⟨⟨⟨h1, h2⟩, h3⟩, h4⟩, h5⟩, h6⟩, h7⟩ := h
  exact ⟨h1, h2, h3, h4, h5, h6, h7⟩
/-- the exception that is held: its object stands among the context's pins -/
structure Held (Y : Cx) (a C : Addr) : Prop where
  ex : ∃ oe, (a, oe) ∈ Y.pn ∧ Zc (.ref C) none oe ∧ ∃ vs, oe.data = .fields vs
theorem call_isP {Y : Cx} {a D : Addr} (C : ExcC Y.K D) (hh : Held Y a D) : CallR Y (.builtin "isinstance") (rIsE Y.K D a) := by
  intro pins s σ H xs us Q I r h
  obtain ⟨oe, hp, hz, vs, hv⟩ := hh.ex
  obtain ⟨c, cv, b, rfl, hcv, e, q⟩ := h
  cases r with
  | cons rx rr =>
    cases rr with
    | cons rt rr =>
      cases rr
      cases rx
      have ec := hcv _ rt
      subst ec
      obtain ⟨hget, _⟩ := I.pin (a, oe) (List.mem_append.mpr (.inl hp))
      have J : PySem.W.InstAt s.heap a oe D none := by
        obtain ⟨oc, od, oda, osl⟩ := oe
        obtain ⟨h1, h2⟩ := hz
        dsimp only at h1 h2 hv
        subst h1 h2 hv
        exact ⟨hget, rfl, rfl, trivial⟩
      exact PySem.W.kia_one (PySem.W.handS_kitx_exc C.hg C.hk C.hs C.hd C.ha C.hn C.ht C.hm) I.kIn J e (fun z => nomatch z) fun tk => ⟨.bl b, H, I.kept (t' := tk) fun _ _ z => z, rfl, q⟩
/-- isinstance(e, (C, ..)) -/
theorem call_isPT {Y : Cx} {a D : Addr} (C : ExcC Y.K D) (hh : Held Y a D) : CallR Y (.builtin "isinstance") (fun xs H Q => ∃ (tp : Addr) (vs : List V) (us : List Value) (b : Bool), xs = [.ref a, .ref tp] ∧ H tp = some (.tup vs) ∧ (∀ ws, Vals vs ws → ws = us) ∧
    PySem.W.kitAny Y.K (.ref D) us = some b ∧ Q (.bl b) H) := by
  intro pins s σ H xs us0 Q I r h
  obtain ⟨oe, hp, hz, vs0, hv⟩ := hh.ex
  obtain ⟨tp, vs, us, b, rfl, hT, uq, e, q⟩ := h
  obtain ⟨u1, u2, rfl, r1, r2⟩ := vals2 r
  cases (show u1 = Value.ref a from r1)
  cases (show u2 = Value.ref tp from r2)
  obtain ⟨hget, _⟩ := I.pin (a, oe) (List.mem_append.mpr (.inl hp))
  have J : PySem.W.InstAt s.heap a oe D none := by
    obtain ⟨oc, od, oda, osl⟩ := oe
    obtain ⟨h1, h2⟩ := hz
    dsimp only at h1 h2 hv
    subst h1 h2 hv
    exact ⟨hget, rfl, rfl, trivial⟩
  obtain ⟨_, its, rv, o, h1, h2, n, h3⟩ := (show ObjOk Y.prog Y.w H s.heap tp (.tup vs) from I.hok tp _ hT)
  have e3 := uq _ rv
  subst e3
  obtain ⟨oc, od, dt, sl⟩ := o
  simp only at h2 h3
  subst h2 h3
  exact PySem.W.kia_tup (PySem.W.handS_kitx_exc C.hg C.hk C.hs C.hd C.ha C.hn C.ht C.hm) I.kIn J h1 e (fun z => nomatch z) fun tk => ⟨.bl b, H, I.kept (t' := tk) fun _ _ z => z, rfl, q⟩
/-- a context in which an exception is held -/
structure GoodH (N : List Str) (sc : Scope) (Y : Cx) : Prop where
  n : Y.N = N
  nd : N.Nodup
  vis : ∀ x, vis sc x = true → Vis Y.env.scope x
  loc : ∀ x, locl sc x = true → Loc Y.env.scope x ∧ (Y.fn x = true ∨ Y.env.scope.names.lookup x = some .local)
  gl : ∀ x, gl sc x = true → Gl Y x
section
variable {N : List Str} {sc : Scope} {Y : Cx}
theorem GoodH.var (g : GoodH N sc Y) {i : Nat} {x : Str} {p : Pos} (h : isVar N sc i x = true) : PE Y (.Name x p) (tVar i) := by
  unfold isVar at h
  simp only [Bool.and_eq_true, decide_eq_true_eq] at h
  obtain ⟨h1, h2, _⟩ := plain1 h.2
  exact pe_var (by rw [g.n]; exact h.1.1) (g.vis x h.1.2) h1 h2
theorem GoodH.blt (g : GoodH N sc Y) {n x : Str} (hm : Y.mg n = none) (h : isBlt sc n x = true) : x = n ∧ Gl Y x ∧ Y.mg x = none ∧ x ≠ "__name__" ∧ (x == ("__debug__" : Str)) = false := by
  unfold isBlt at h
  simp only [Bool.and_eq_true, decide_eq_true_eq] at h
  obtain ⟨⟨rfl, h2⟩, h3⟩ := h
  obtain ⟨p1, _, p3⟩ := plain1 h3
  exact ⟨rfl, g.gl _ h2, hm, p3, p1⟩
theorem pe_cls (g : GoodH N sc Y) {z : Str} {v : V} {u : Value} (h : ClsV Y.mg z v u) (hg : Pv.gl sc z = true) (hp : plainName z = true) : (∀ p, PE Y (.Name z p) (tC v)) ∧ ∀ w, RelV v w → w = u := by
  obtain ⟨p1, _, p3⟩ := plain1 hp
  cases h with
  | own C hm => exact ⟨fun p => pe_glob (u := .ref C) (g.gl z hg) hm rfl p1, fun w r => r⟩
  | blt T hm hb hn => exact ⟨fun p => pe_bltn (u := .type T) (g.gl z hg) hm hb rfl hn p1, fun w r => r⟩
/-- isinstance(e, C) -/
theorem pe_isi (g : GoodH N sc Y) (bm : Y.mg "isinstance" = none) {a C : Addr} (hh : Held Y a C) (hC : ExcC Y.K C) {i : Nat} {c : String} {ex : Expr} (hc : chkIsi N sc i c ex = true) {v : V} {u : Value} {b : Bool}
    (hv : ClsV Y.mg (Str.ofString c) v u) (e : PySem.W.kitOne Y.K (.ref C) u = some b) : PE Y ex (fun σ H Q => σ[i]? = some (some (.ref a)) ∧ Q (.bl b) H) ∧ okShape ex = true := by
  unfold chkIsi at hc
  split at hc
  · rename_i f pf y py z pz pos
    simp only [Bool.and_eq_true, decide_eq_true_eq] at hc
    obtain ⟨⟨⟨⟨h1, h2⟩, rfl⟩, h4⟩, h5⟩ := hc
    obtain ⟨rfl, b1, b2, b3, b4⟩ := g.blt bm h1
    obtain ⟨pc, uz⟩ := pe_cls g hv h4 h5
    have p := pe_callB (p := pf) (pos := pos) (call_isP hC hh) b1 b2 (by decide +kernel) (pa_cons (g.var (p := py) h2) (pa_cons (pc pz) pa_nil)) b3 b4
    exact ⟨⟨fun pins s σ H Q I ⟨h, q⟩ => p.run pins s σ H Q I ⟨.ref a, h, v, u, b, rfl, uz, e, q⟩⟩, rfl⟩
  · cases hc
end

/-! ### what is known of the classes -/
section
variable {cx : Cxt} {N : List Str} {sc : Scope} {Y : Cx} {c : String} {C a : Addr}
/-- a class's facts, for one context -/
structure SubH (cx : Cxt) (c : String) (C : Addr) (Y : Cx) : Prop where
  bi : Y.mg "isinstance" = none
  sub : ∀ t b, cx.sub c t = some b → ExcC Y.K C ∧ ∃ v u, ClsV Y.mg (Str.ofString t) v u ∧ PySem.W.kitOne Y.K (.ref C) u = some b
theorem pe_isi' (g : GoodH N sc Y) (S : SubH cx c C Y) (hh : Held Y a C) {i : Nat} {t : String} {ex : Expr} {b : Bool} (hc : chkIsi N sc i t ex = true) (e : cx.sub c t = some b) :
    PE Y ex (fun σ H Q => σ[i]? = some (some (.ref a)) ∧ Q (.bl b) H) ∧ okShape ex = true := by
  obtain ⟨hC, v, u, hv, hk⟩ := S.sub t b e
  exact pe_isi g S.bi hh hC hc hv hk
/-- a row of them -/
theorem sa_isis (g : GoodH N sc Y) (S : SubH cx c C Y) (hh : Held Y a C) {i : Nat} : ∀ {ts : List String} {es : List Expr} {bs : List D} {σ : L2.St} {H : Hp} {Q : List V → Hp → Prop}, chkIsis N sc i ts es = true → subs cx c ts = some bs → σ[i]? = some (some (.ref a)) →
    (∀ us, RepDs Y.K H bs us → Q us H) → SA Y es σ H Q
  | [], es, bs, σ, H, Q, hc, e, hσ, q => by
    unfold chkIsis at hc
    split at hc
    · cases e
      exact ⟨_, pa_nil, q [] .nil⟩
    · cases hc
  | t :: ts, es, bs, σ, H, Q, hc, e, hσ, q => by
    unfold chkIsis at hc
    split at hc
    · rename_i x xs
      rw [Bool.and_eq_true] at hc
      unfold subs at e
      split at e
      · cases e
      · rename_i b eb
        split at e
        · cases e
        · rename_i bs' ebs
          cases e
          obtain ⟨p, sh⟩ := pe_isi' g S hh hc.1 eb
          refine ⟨_, pa_cons p pa_SA (shape_star sh xs _), hσ, ?_⟩
          exact sa_isis g S hh hc.2 ebs hσ fun us ru => q _ (.cons (.bl b) ru)
    · cases hc
theorem subs_len : ∀ {ts : List String} {bs : List D}, subs cx c ts = some bs → bs.length = ts.length
  | [], bs, e => by cases e; rfl
  | t :: ts, bs, e => by
    unfold subs at e
    split at e
    · cases e
    · split at e
      · cases e
      · rename_i bs' ebs
        cases e
        show bs'.length + 1 = ts.length + 1
        rw [subs_len ebs]
theorem subs_app : ∀ {ts ts' : List String} {bs : List D}, subs cx c (ts ++ ts') = some bs → ∃ b1 b2, subs cx c ts = some b1 ∧ subs cx c ts' = some b2 ∧ bs = b1 ++ b2
  | [], ts', bs, e => ⟨[], bs, rfl, e, rfl⟩
  | t :: ts, ts', bs, e => by
    have e : subs cx c (t :: (ts ++ ts')) = some bs := e
    unfold subs at e
    split at e
    · cases e
    · rename_i b eb
      split at e
      · cases e
      · rename_i bs' ebs
        cases e
        obtain ⟨b1, b2, h1, h2, rfl⟩ := subs_app ebs
        refine ⟨.bl b :: b1, b2, ?_, h2, rfl⟩
        unfold subs
        rw [eb, h1]
/-- the body of a def that tells the classes -/
theorem kd_body (g : GoodH N sc Y) (S : SubH cx c C Y) (hh : Held Y a C) (bt : Y.mg "tuple" = none) {d : Kd} {body : List Stmt} (hc : chkKd0 N sc d body = true) {bs : List D} (hb : subs cx c d.cs = some bs) (hl : bs.length ≤ line)
    {al : Al} {H : Hp} {st : Store} {Q : VK} (r : Rel Y.K al H st) (q : ∀ H' u, Rel Y.K al H' st → Ext al H al H' → RepD Y.K H' (.tup bs) u → Q u H') :
    ∃ t, PSs Y body t ∧ t { nx := fun _ H' => Q .non H', rt := Q } [some (.ref a), none] H := by
  unfold chkKd0 at hc
  split at hc
  · simp only [Bool.and_eq_true, decide_eq_true_eq] at hc
    obtain ⟨⟨⟨⟨⟨⟨⟨⟨⟨⟨⟨⟨⟨s0, s1⟩, s2⟩, v1⟩, v2⟩, v3⟩, v4⟩, rfl⟩, hline⟩, ht⟩, c0⟩, c1⟩, c2⟩, c3⟩ := hc
    unfold Kd.cs at hb
    obtain ⟨b012, b3, hb2, e3, rfl⟩ := subs_app hb
    obtain ⟨b01, b2, hb1, e2, rfl⟩ := subs_app hb2
    obtain ⟨b0, b1, e0, e1, rfl⟩ := subs_app hb1
    rw [List.length_append, List.length_append, List.length_append] at hl
    obtain ⟨k3, ek3, rfl⟩ : ∃ k, cx.sub c d.c3 = some k ∧ b3 = [.bl k] := by
      unfold subs at e3
      split at e3
      · cases e3
      · rename_i k ek
        exact ⟨k, ek, by cases e3; rfl⟩
    have setp : ∀ {x : Str}, isSet N sc 1 x = true → Y.N[1]? = some x ∧ Loc Y.env.scope x ∧ (Y.fn x = true ∨ Y.env.scope.names.lookup x = some .local) := fun {x} h => by
      unfold isSet at h
      simp only [Bool.and_eq_true, decide_eq_true_eq] at h
      exact ⟨by rw [g.n]; exact h.1.1, g.loc x h.1.2⟩
    have nd : Y.N.Nodup := by rw [g.n]; exact g.nd
    obtain ⟨n0, l0, f0⟩ := setp s0
    obtain ⟨n1, l1, f1⟩ := setp s1
    obtain ⟨n2, l2, f2⟩ := setp s2
    obtain ⟨rfl, t1, t2, t3, t4⟩ := g.blt bt ht
    obtain ⟨p3, sh3⟩ := pe_isi' g S hh c3 ek3
    refine ⟨_, pss_cons (ps_set nd n0 l0 (pe_lst pa_SA) rfl f0) (pss_cons (ps_set nd n1 l1 (pe_op op_cat (g.var v1) (pe_lst pa_SA)) rfl f1) (pss_cons (ps_set nd n2 l2 (pe_op op_cat (g.var v2) (pe_lst pa_SA)) rfl f2)
      (pss_cons (ps_expr (pe_bm PySem.F.plainAttrs_list PySem.F.slot_list_append PySem.F.type_list_append mt_append (g.var v3) (pa_cons p3 pa_nil (shape_star sh3 _ _)) rfl (by rw [shape_star sh3]; first | rfl | simp [backTo, starEach, backToKw, keywordEach]) hline (shape_star sh3 _ _) rfl) rfl)
        (pss_cons (ps_ret (pe_callTy call_tuple_of t1 t2 (by decide +kernel) (pa_cons (g.var v4) pa_nil) t3 t4)) pss_nil)))), ?_⟩
    refine sa_isis g S hh c0 e0 rfl fun us0 r0 => ⟨by rw [← r0.length, ← line_eq]; omega, fun l hl0 => ?_⟩
    have R1 := r.ext_new (o := .lst us0) hl0
    have X1 : Ext al H al (upd H l (.lst us0)) := ext_new hl0
    have r01 : RepDs Y.K (upd H l (.lst us0)) b0 us0 := r0.mono (stab_new hl0)
    have h1 : (upd H l (.lst us0)) l = some (.lst us0) := upd_same
    have o1 : al.out l := r.notIn hl0
    generalize upd H l (.lst us0) = H1 at R1 X1 r01 h1
    refine ⟨.ref l, rfl, ?_⟩
    refine sa_isis g S hh c1 e1 rfl fun us1 r1 => ⟨by rw [← r1.length, ← line_eq]; omega, fun l2 hl2 => ?_⟩
    have R2 := R1.ext_new (o := .lst us1) hl2
    have X2 := X1.trans (ext_new (α := al) (o := .lst us1) hl2)
    have r02 := r01.mono (stab_new (o := .lst us1) hl2)
    have r12 := r1.mono (stab_new (o := .lst us1) hl2)
    have ne2 : l ≠ l2 := fun z => by rw [← z, h1] at hl2; cases hl2
    have h2 : (upd H1 l2 (.lst us1)) l = some (.lst us0) := by rw [upd_ne ne2]; exact h1
    have h2' : (upd H1 l2 (.lst us1)) l2 = some (.lst us1) := upd_same
    generalize upd H1 l2 (.lst us1) = H2 at R2 X2 r02 r12 h2 h2'
    refine ⟨l, l2, us0, us1, rfl, rfl, h2, h2', by rw [← r02.length, ← r12.length, ← line_eq]; omega, fun m hm => ?_⟩
    have R3 := R2.ext_new (o := .lst (us0 ++ us1)) hm
    have X3 := X2.trans (ext_new (α := al) (o := .lst (us0 ++ us1)) hm)
    have r03 := (r02.append r12).mono (stab_new (o := .lst (us0 ++ us1)) hm)
    have h3 : (upd H2 m (.lst (us0 ++ us1))) m = some (.lst (us0 ++ us1)) := upd_same
    generalize upd H2 m (.lst (us0 ++ us1)) = H3 at R3 X3 r03 h3
    refine ⟨.ref m, rfl, ?_⟩
    refine sa_isis g S hh c2 e2 rfl fun us2 r2 => ⟨by rw [← r2.length, ← line_eq]; omega, fun m2 hm2 => ?_⟩
    have R4 := R3.ext_new (o := .lst us2) hm2
    have X4 := X3.trans (ext_new (α := al) (o := .lst us2) hm2)
    have r04 := r03.mono (stab_new (o := .lst us2) hm2)
    have r24 := r2.mono (stab_new (o := .lst us2) hm2)
    have ne4 : m ≠ m2 := fun z => by rw [← z, h3] at hm2; cases hm2
    have h4 : (upd H3 m2 (.lst us2)) m = some (.lst (us0 ++ us1)) := by rw [upd_ne ne4]; exact h3
    have h4' : (upd H3 m2 (.lst us2)) m2 = some (.lst us2) := upd_same
    generalize upd H3 m2 (.lst us2) = H4 at R4 X4 r04 r24 h4 h4'
    refine ⟨m, m2, us0 ++ us1, us2, rfl, rfl, h4, h4', by rw [← r04.length, ← r24.length, ← line_eq, List.length_append]; omega, fun n hn => ?_⟩
    have R5 := R4.ext_new (o := .lst (us0 ++ us1 ++ us2)) hn
    have X5 := X4.trans (ext_new (α := al) (o := .lst (us0 ++ us1 ++ us2)) hn)
    have r5 := (r04.append r24).mono (stab_new (o := .lst (us0 ++ us1 ++ us2)) hn)
    have h5 : (upd H4 n (.lst (us0 ++ us1 ++ us2))) n = some (.lst (us0 ++ us1 ++ us2)) := upd_same
    have o5 : al.out n := R4.notIn hn
    have n5 : H n = none := by
      cases qn : H n with
      | none => rfl
      | some o =>
        exfalso
        rcases X4.has1 o5.1 qn with w | ⟨_, _, _, w⟩ <;> rw [hn] at w <;> cases w
    generalize upd H4 n (.lst (us0 ++ us1 ++ us2)) = H5 at R5 X5 r5 h5
    refine ⟨.ref n, rfl, .inl ⟨rfl, _, .inl (.inl h5)⟩, ?_⟩
    refine ⟨rfl, n, _, .bl k3, rfl, rfl, h5, by rw [← r5.length, ← line_eq, List.length_append, List.length_append]; have : ([D.bl k3] : List D).length = 1 := rfl; omega, ?_⟩
    have sb := stab_upd (o := .lst (us0 ++ us1 ++ us2 ++ [.bl k3])) h5
    have R6 := R5.other o5 sb
    have X6 := X5.write n5 h5 (o := .lst (us0 ++ us1 ++ us2 ++ [.bl k3]))
    have r6 := (r5.append (.cons (.bl k3) .nil)).mono sb
    have h6 : (upd H5 n (.lst (us0 ++ us1 ++ us2 ++ [.bl k3]))) n = some (.lst (us0 ++ us1 ++ us2 ++ [.bl k3])) := upd_same
    generalize upd H5 n (.lst (us0 ++ us1 ++ us2 ++ [.bl k3])) = H6 at R6 X6 r6 h6
    refine ⟨.ref n, rfl, n, _, rfl, .inl ⟨.inl (.inl h6), fun p hp => ?_⟩⟩
    refine q _ _ (R6.ext_new hp) (X6.trans (ext_new hp)) (.tup (.inl (.inl upd_same)) (r6.mono (stab_new hp)))
  · cases hc
/-- the call of such a def, in an except suite -/
theorem pe_kinds (g : GoodH N sc Y) (S : SubH cx c C Y) (hh : Held Y a C) (bt : Y.mg "tuple" = none) (hdep : Y.A.depth < recursionLimit) {i : Nat} {f : String} {d : Kd} {fa : Addr} {fd : FuncData} {qual : Str} {st0 : Stmt}
    (m1 : Y.mg (Str.ofString f) = some (.ref fa)) (F : Fun Y.K (Str.ofString f) qual st0 fa fd) (hk : chkKd d st0 = true) (hb : Binds Y.K fd [Str.ofString d.p] []) {y : Str} {px py pos : Pos} (hg : Pv.gl sc (Str.ofString f) = true)
    (hp : plainName (Str.ofString f) = true) (hv : isVar N sc i y = true) {bs : List D} (hbs : subs cx c d.cs = some bs) (hl : bs.length ≤ line) :
    PE Y (.Call (.Name (Str.ofString f) px) [.Name y py] [] pos) (fun σ H Q => σ[i]? = some (some (.ref a)) ∧ ∃ al st, Rel Y.K al H st ∧ ∀ H' u, Rel Y.K al H' st → Ext al H al H' → RepD Y.K H' (.tup bs) u → Q u H') := by
  obtain ⟨oe, hpn, hz, vs0, hv0⟩ := id hh.ex
  unfold chkKd at hk
  rw [Bool.and_eq_true] at hk
  have SC := scope_ok hk.2
  have kp := F.kp
  refine ⟨fun pins s σ H Q I ⟨hσ, al, sto, r, q⟩ => ?_⟩
  refine wpAny_Call_Name_kw (ld_glob I (g.gl _ hg) m1 ?_ (plain1 hp).1)
  refine PySem.W.callWith_K (h₀ := Y.base) I.ok.mod.kin kp (thn ((pa_cons (g.var (p := py) hv) pa_nil).run pos pins s σ H (fun vs H1 => vs = [.ref a] ∧ H1 = H) I ⟨.ref a, hσ, rfl, rfl⟩) fun us s1 ⟨vs, H1, I1, rv, ev, eh⟩ => ⟨I1.kIn, ?_⟩) rfl rfl
  subst ev eh
  have hlu : us.length = 1 := by rw [← rv.length]; rfl
  have b := hb s1 us I1.kIn (by rw [List.append_nil]; exact hlu)
  rw [List.append_nil] at b
  have P1 := I1.pin (a, oe) (List.mem_append_left _ hpn)
  have hpin : L2H.PinOk Y.stack H1 s1 (a, oe) := ⟨P1.1, P1.2.1, fun hm => (List.mem_cons.mp (I1.stkSub a hm)).elim P1.2.2.1 P1.2.2.2.1, P1.2.2.2.2⟩
  have e0 := I1.env0
  obtain ⟨oc, od, kV, doc, pm, an, cdv, ct, osl, rfl, lk, hcd⟩ := F.ex
  have KX : Y.K.In s1.heap := I1.kIn
  have lim : s1.heap.NoLimit := e0.mod.nolimit.keeps fun b o e => (e0.bs b o e).1
  have hkind : ∀ y ∈ [Str.ofString d.p].zip us, (defScope st0).names.lookup y.1 = some .local ∨ ((defScope st0).names.lookup y.1 = some .cell ∧ ((cellsFrom (s1.heap.objs.size + 1) (defScope st0).names []).lookup y.1).isSome = true) := fun ⟨n, v⟩ hy => by
    rcases SC.par n (List.of_mem_zip hy).1 with q | q
    · exact .inl q
    · exact .inr ⟨q, PySem.W.cellsFrom_some _ _ _ (.inl q)⟩
  have RUN : codeAny (model Y.prog Y.w) Y.A (.call (.ref fa) ⟨us, []⟩) (CR CX0 Y.stack Y.prog Y.w H1 s1 Q E0) s1 := by
    refine codeAny_call_function hdep (KX _ _ lk) rfl SC.co SC.gen rfl (PySem.W.codeRec_of KX hcd) (b _ _ _ _ ?_)
    refine wpAny_newFunctionEnv_cells SC.kind hkind fun env he s2 x => ?_
    subst he
    refine ⟨lim.keeps x.toInCall.keep, codeAny_func ?_⟩
    have I2 : Inv (L2H.cxH CX0 Y.prog Y.w Y.K Y.mg Y.base d.N qual (defScope st0) fa cdv Y.A Y.stack s1 H1 E0 (a, oe)) [] (L2.start d.N [.ref a]) H1 s2 := L2H.inv_startH SC hpin e0 rfl rv x
    have good : GoodH d.N (defScope st0) (L2H.cxH CX0 Y.prog Y.w Y.K Y.mg Y.base d.N qual (defScope st0) fa cdv Y.A Y.stack s1 H1 E0 (a, oe)) := by
      refine ⟨rfl, SC.nd, fun x hx => ?_, fun x hx => ?_, fun x hx => ?_⟩
      · unfold Pv.vis at hx
        split at hx
        · rename_i q; exact .inl q
        · rename_i q; exact .inr (.inl q)
        · rename_i q; exact .inr (.inr q)
        · cases hx
      · unfold Pv.locl at hx
        split at hx
        · rename_i q; exact ⟨.inl q, .inl rfl⟩
        · rename_i q; exact ⟨.inr q, .inl rfl⟩
        · cases hx
      · unfold Pv.gl at hx
        split at hx
        · rename_i q; exact q
        · cases hx
    have S' : SubH cx c C (L2H.cxH CX0 Y.prog Y.w Y.K Y.mg Y.base d.N qual (defScope st0) fa cdv Y.A Y.stack s1 H1 E0 (a, oe)) := ⟨S.bi, S.sub⟩
    have hh' : Held (L2H.cxH CX0 Y.prog Y.w Y.K Y.mg Y.base d.N qual (defScope st0) fa cdv Y.A Y.stack s1 H1 E0 (a, oe)) a C := ⟨oe, List.mem_singleton.mpr rfl, hz, vs0, hv0⟩
    obtain ⟨t, ht, hq⟩ := kd_body good S' hh' bt hk.1 hbs hl r q
    refine wpAny_mono (ht.run [] s2 (L2.start d.N [.ref a]) H1 _ I2 hq) (fun fl s' hs => ?_) fun e s' hs => hs
    have fin : ∀ {σ' : L2.St} {H' : Hp} {v : V} {u : Value}, Inv (L2H.cxH CX0 Y.prog Y.w Y.K Y.mg Y.base d.N qual (defScope st0) fa cdv Y.A Y.stack s1 H1 E0 (a, oe)) [] σ' H' s' → RelV v u → Q v H' → CE Y.stack Y.prog Y.w H1 s1 Q u s' :=
      fun {σ' H' v u} J rv q => ⟨v, H', J.os, J.bare, J.base, J.hok, rv, q⟩
    cases fl with
    | ret u =>
      obtain ⟨v, σ', H', J, rv, q⟩ := hs
      exact fin J rv q
    | next =>
      obtain ⟨σ', H', J, q⟩ := hs
      exact fin (v := V.non) (u := Value.none) J rfl q
    | brk =>
      obtain ⟨_, _, _, q⟩ := hs
      exact False.elim q
    | cont =>
      obtain ⟨_, _, _, q⟩ := hs
      exact False.elim q
  refine wpAny_call (codeAny_mono RUN fun r s' hq => ?_)
  · cases r with
    | error e => exact False.elim hq
    | ok fl =>
      cases fl with
      | ret u => exact I1.after hq
      | next => exact False.elim hq
      | brk => exact False.elim hq
      | cont => exact False.elim hq

/-- what a handler's suite may use -/
structure HotT (cx : Cxt) (c : String) (C a : Addr) (N : List Str) (sc : Scope) (Y : Cx) : Prop where
  g : GoodH N sc Y
  S : SubH cx c C Y
  hh : Held Y a C
  bt : Y.mg "tuple" = none
  dep : Y.A.depth < recursionLimit
  knd : ∀ f cs, cx.knd f = some cs → ∃ (d : Kd) (fa : Addr) (fd : FuncData) (qual : Str) (st : Stmt), cs = d.cs ∧ Y.mg (Str.ofString f) = some (.ref fa) ∧ Fun Y.K (Str.ofString f) qual st fa fd ∧ chkKd d st = true ∧ Binds Y.K fd [Str.ofString d.p] []
theorem chkH_shape {i : Nat} : ∀ (he : HE) {ex : Expr}, chkH N sc i he ex = true → okShape ex = true
  | .non, ex, h => by cases ex <;> first | rfl | (unfold chkH at h; cases h)
  | .bl _, ex, h => by cases ex <;> first | rfl | (unfold chkH at h; cases h)
  | .var _, ex, h => by cases ex <;> first | rfl | (unfold chkH at h; cases h)
  | .str _, ex, h => by cases ex <;> first | rfl | (unfold chkH at h; cases h)
  | .isi _, ex, h => by cases ex <;> first | rfl | (unfold chkH chkIsi at h; cases h)
  | .isis _, ex, h => by cases ex <;> first | rfl | (unfold chkH at h; cases h)
  | .kinds _, ex, h => by cases ex <;> first | rfl | (unfold chkH at h; cases h)
  | .tup _, ex, h => by cases ex <;> first | rfl | (unfold chkH at h; cases h)
theorem names_ok (g : GoodH N sc Y) (S : SubH cx c C Y) : ∀ {ts : List String} {zs : List Expr} {bs : List D}, chkNames sc ts zs = true → subs cx c ts = some bs →
    ∃ (vs : List V) (us : List Value), PA Y zs (fun _ H Q => Q vs H) ∧ (∀ ws, Vals vs ws → ws = us) ∧ PySem.W.kitAny Y.K (.ref C) us = some (bs.any trD) ∧ vs.length = ts.length
  | [], zs, bs, hc, e => by
    unfold chkNames at hc
    split at hc
    · cases e
      exact ⟨[], [], pa_nil, fun ws h => by cases h; rfl, rfl, rfl⟩
    · cases hc
  | t :: ts, zs, bs, hc, e => by
    unfold chkNames at hc
    split at hc
    · rename_i z pz xs
      simp only [Bool.and_eq_true, decide_eq_true_eq] at hc
      obtain ⟨⟨⟨rfl, h2⟩, h3⟩, h4⟩ := hc
      unfold subs at e
      split at e
      · cases e
      · rename_i b eb
        split at e
        · cases e
        · rename_i bs' ebs
          cases e
          obtain ⟨vs, us, hz, uq, ka, vl⟩ := names_ok g S h4 ebs
          obtain ⟨_, v, u, hv, hk⟩ := S.sub t b eb
          obtain ⟨pc, uz⟩ := pe_cls g hv h2 h3
          refine ⟨v :: vs, u :: us, ?_, fun ws h => ?_, ?_, by rw [List.length_cons, List.length_cons, vl]⟩
          · have p := pa_cons (pc pz) hz (shape_star rfl xs Y.env)
            exact ⟨fun pos pins s σ H Q I h => p.run pos pins s σ H Q I h⟩
          · cases h with
            | cons a b =>
              rw [uz _ a, uq _ b]
          · unfold PySem.W.kitAny
            rw [hk]
            cases b with
            | true => rfl
            | false =>
              show PySem.W.kitAny Y.K (.ref C) us = some (bs'.any trD)
              exact ka
    · cases hc
mutual
theorem snd_H (T : HotT cx c C a N sc Y) {i : Nat} : ∀ (he : HE) {ex : Expr} {d : D} {al : Al} {H : Hp} {σ : L2.St} {st : Store} {Q : VK} {env : Env}, EnvR Y.K al H env (σ.set i none) → chkH N sc i he ex = true → evH cx c env he = some d → σ[i]? = some (some (.ref a)) → Rel Y.K al H st →
    (∀ H' u, Rel Y.K al H' st → Ext al H al H' → RepD Y.K H' d u → Q u H') → SE Y ex σ H Q
  | .str t, ex, d, al, H, σ, st, Q, env, hE, hc, e, hσ, r, q => by
    unfold chkH at hc
    split at hc
    · have e' := of_decide_eq_true hc
      subst e'
      unfold evH at e
      cases e
      exact ⟨_, pe_str, q H _ r (Ext.refl _ _) (.str _)⟩
    · cases hc
  | .non, ex, d, al, H, σ, st, Q, env, hE, hc, e, hσ, r, q => by
    unfold chkH at hc
    split at hc
    · unfold evH at e
      cases e
      exact ⟨_, pe_non, q H _ r (Ext.refl _ _) .non⟩
    · cases hc
  | .bl b, ex, d, al, H, σ, st, Q, env, hE, hc, e, hσ, r, q => by
    unfold chkH at hc
    split at hc
    · have e' := beq_iff_eq.mp hc
      subst e'
      unfold evH at e
      cases e
      exact ⟨_, pe_bl, q H _ r (Ext.refl _ _) (.bl _)⟩
    · cases hc
  | .var j, ex, d, al, H, σ, st, Q, env, hE, hc, e, hσ, r, q => by
    unfold chkH at hc
    unfold evH at e
    split at hc
    · split at e
      · rename_i d' he
        cases e
        obtain ⟨_, u, hu, ru⟩ := hE.get j _ he
        have hj : i ≠ j := fun z => by
          subst z
          by_cases hl : i < σ.length
          · rw [List.getElem?_set_self hl] at hu; cases hu
          · rw [List.getElem?_eq_none (by rw [List.length_set]; omega)] at hu; cases hu
        rw [List.getElem?_set_ne hj] at hu
        exact ⟨_, T.g.var hc, u, hu, q H _ r (Ext.refl _ _) ru⟩
      · cases e
    · cases hc
  | .isi t, ex, d, al, H, σ, st, Q, env, hE, hc, e, hσ, r, q => by
    unfold chkH at hc
    unfold evH at e
    split at e
    · rename_i b eb
      cases e
      exact ⟨_, (pe_isi' T.g T.S T.hh hc eb).1, hσ, q H _ r (Ext.refl _ _) (.bl b)⟩
    · cases e
  | .isis ts, ex, d, al, H, σ, st, Q, env, hE, hc, e, hσ, r, q => by
    unfold chkH at hc
    unfold evH at e
    split at hc
    · rename_i f pf y py zs k1 k2 pos
      simp only [Bool.and_eq_true] at hc
      obtain ⟨⟨⟨h1, h2⟩, h3⟩, hne⟩ := hc
      obtain ⟨rfl, b1, b2, b3, b4⟩ := T.g.blt T.S.bi h1
      split at e
      · rename_i bs ebs
        split at e
        · rename_i hl
          cases e
          have hd : ts = [] ∨ ExcC Y.K C := by
            cases ts with
            | nil => exact .inl rfl
            | cons t ts =>
              unfold subs at ebs
              split at ebs
              · cases ebs
              · rename_i b eb
                exact .inr (T.S.sub t b eb).1
          obtain ⟨vs, us, hz, uq, ka, vl⟩ := names_ok T.g T.S h3 ebs
          by_cases hn : ts = []
          · subst hn
            cases hne
          · have hC : ExcC Y.K C := hd.resolve_left hn
            have p := pe_callB (p := pf) (pos := pos) (call_isPT hC T.hh) b1 b2 (by decide +kernel) (pa_cons (T.g.var (p := py) h2) (pa_cons (pe_tup (x1 := k1) (pos := k2) hz) pa_nil)) b3 b4
            refine ⟨_, p, .ref a, hσ, ?_⟩
            refine ⟨by rw [vl, ← subs_len ebs, ← line_eq]; exact hl, fun tp htp => ?_⟩
            refine ⟨tp, vs, us, _, rfl, upd_same, uq, ka, ?_⟩
            exact q _ _ (r.ext_new htp) (ext_new htp) (.bl _)
        · cases e
      · cases e
    · cases hc
  | .kinds f, ex, d, al, H, σ, st, Q, env, hE, hc, e, hσ, r, q => by
    unfold chkH at hc
    unfold evH at e
    split at hc
    · simp only [Bool.and_eq_true, decide_eq_true_eq] at hc
      obtain ⟨⟨⟨rfl, h2⟩, h3⟩, h4⟩ := hc
      split at e
      · cases e
      · rename_i ts ets
        split at e
        · rename_i bs ebs
          split at e
          · rename_i hl
            cases e
            obtain ⟨dk, fa, fd, qual, st0, rfl, m1, F, hk, hb⟩ := T.knd f ts ets
            exact ⟨_, pe_kinds T.g T.S T.hh T.bt T.dep m1 F hk hb h2 h3 h4 ebs hl, hσ, al, st, r, q⟩
          · cases e
        · cases e
    · cases hc
  | .tup es, ex, d, al, H, σ, st, Q, env, hE, hc, e, hσ, r, q => by
    unfold chkH at hc
    unfold evH at e
    split at hc
    · split at e
      · rename_i ds eds
        split at e
        · rename_i hl
          cases e
          refine ⟨_, pe_tup pa_SA, snd_Hs T es hE hc eds hσ r fun H' us r' x' ru => ⟨by rw [← ru.length, ← line_eq]; exact hl, fun p hp => ?_⟩⟩
          exact q _ _ (r'.ext_new hp) (x'.trans (ext_new hp)) (.tup (.inl (.inl upd_same)) (ru.mono (stab_new hp)))
        · cases e
      · cases e
    · cases hc
theorem snd_Hs (T : HotT cx c C a N sc Y) {i : Nat} : ∀ (es : HEs) {exs : List Expr} {ds : List D} {al : Al} {H : Hp} {σ : L2.St} {st : Store} {Q : List V → Hp → Prop} {env : Env}, EnvR Y.K al H env (σ.set i none) → chkHs N sc i es exs = true → evHs cx c env es = some ds → σ[i]? = some (some (.ref a)) → Rel Y.K al H st →
    (∀ H' us, Rel Y.K al H' st → Ext al H al H' → RepDs Y.K H' ds us → Q us H') → SA Y exs σ H Q
  | .nil, exs, ds, al, H, σ, st, Q, env, hE, hc, e, hσ, r, q => by
    unfold chkHs at hc
    unfold evHs at e
    split at hc
    · cases e
      exact ⟨_, pa_nil, q H [] r (Ext.refl _ _) .nil⟩
    · cases hc
  | .cons e0 es, exs, ds, al, H, σ, st, Q, env, hE, hc, e, hσ, r, q => by
    unfold chkHs at hc
    unfold evHs at e
    split at hc
    · rename_i x xs
      rw [Bool.and_eq_true] at hc
      split at e
      · cases e
      · rename_i d0 ed
        split at e
        · cases e
        · rename_i ds' eds
          cases e
          refine ⟨_, pa_cons pe_SE pa_SA (shape_star (chkH_shape e0 hc.1) xs _), ?_⟩
          refine snd_H T e0 hE hc.1 ed hσ r fun H1 u r1 x1 ru => ?_
          refine snd_Hs T es (hE.mono x1) hc.2 eds hσ r1 fun H2 us r2 x2 rus => ?_
          exact q H2 _ r2 (x1.trans x2) (.cons (ru.mono x2.stab) rus)
    · cases hc
end
theorem chkH_sw {i : Nat} : ∀ (he : HE) {ex : Expr}, chkH N sc i he ex = true → ∀ (t : Option Expr) (l : Nat) (env : PySem.Env), swapsWith ex t l env = pure false
  | .non, ex, h => by cases ex <;> first | (intro _ _ _; rfl) | (unfold chkH at h; cases h)
  | .bl _, ex, h => by cases ex <;> first | (intro _ _ _; rfl) | (unfold chkH at h; cases h)
  | .var _, ex, h => by cases ex <;> first | (intro _ _ _; rfl) | (unfold chkH at h; cases h)
  | .str _, ex, h => by cases ex <;> first | (intro _ _ _; rfl) | (unfold chkH at h; cases h)
  | .isi _, ex, h => by cases ex <;> first | (intro _ _ _; rfl) | (unfold chkH chkIsi at h; cases h)
  | .isis _, ex, h => by cases ex <;> first | (intro _ _ _; rfl) | (unfold chkH at h; cases h)
  | .kinds _, ex, h => by cases ex <;> first | (intro _ _ _; rfl) | (unfold chkH at h; cases h)
  | .tup _, ex, h => by cases ex <;> first | (intro _ _ _; rfl) | (unfold chkH at h; cases h)
/-- a handler's suite -/
theorem snd_HS (T : HotT cx c C a N sc Y) {i : Nat} : ∀ (hs : List HS) {xs : List Stmt} {al0 al : Al} {H0 H : Hp} {σ σ0 : L2.St} {env : Env} {st : Store} {W : WX} {D : Ends} {X : Cx}, X.K = Y.K → chkHS N sc i hs xs = true → σ[i]? = some (some (.ref a)) → σ0 = σ.set i none → Rel Y.K al H st → EnvR Y.K al H env σ0 → Ext al0 H0 al H →
    PostS X al0 H0 D W (evHS cx c hs env st) → SSs Y xs { nx := fun σ' H' => D.nx (σ'.set i none) H', rt := D.rt, bk := fun σ' H' => D.bk (σ'.set i none) H', ct := fun σ' H' => D.ct (σ'.set i none) H' } σ H
  | [], xs, al0, al, H0, H, σ, σ0, env, st, W, D, X, hK, hc, hσ, hs0, r, hE, x0, h => by
    unfold chkHS at hc
    split at hc
    · subst hs0
      unfold evHS at h
      exact ⟨_, pss_nil, h al H _ (by rw [hK]; exact r) (by rw [hK]; exact hE) x0⟩
    · cases hc
  | .set j e :: rs, xs, al0, al, H0, H, σ, σ0, env, st, W, D, X, hK, hc, hσ, hs0, r, hE, x0, h => by
    unfold chkHS at hc
    split at hc
    · rename_i x px ex pos ys
      simp only [Bool.and_eq_true, decide_eq_true_eq] at hc
      obtain ⟨⟨⟨hset, hij⟩, he⟩, hr⟩ := hc
      unfold isSet at hset
      simp only [Bool.and_eq_true, decide_eq_true_eq] at hset
      obtain ⟨l1, l2⟩ := T.g.loc x hset.1.2
      unfold evHS at h
      split at h
      · rename_i d ed
        refine ⟨_, pss_cons (ps_set (by rw [T.g.n]; exact T.g.nd) (by rw [T.g.n]; exact hset.1.1) l1 pe_SE (chkH_sw e he _ _ _) l2) pss_SSs, ?_⟩
        refine snd_H T e (env := env) (by rw [← hs0]; exact hE) he ed hσ r fun H1 u r1 x1 ru => ?_
        refine snd_HS T rs (σ0 := σ0.set j (some u)) hK hr (by rw [List.getElem?_set_ne (Ne.symm hij)]; exact hσ) (by subst hs0; exact List.set_comm _ _ hij) r1 ((hE.mono x1).set (v := .d d) rfl ru j) (x0.trans x1) h
      · exact h.elim
    · cases hc
  | .ret e :: rs, xs, al0, al, H0, H, σ, σ0, env, st, W, D, X, hK, hc, hσ, hs0, r, hE, x0, h => by
    unfold chkHS at hc
    split at hc
    · rename_i ex pos
      rw [Bool.and_eq_true] at hc
      unfold evHS at h
      split at h
      · rename_i d ed
        refine ⟨_, pss_cons (ps_ret pe_SE) pss_nil, ?_⟩
        exact snd_H T e (env := env) (by rw [← hs0]; exact hE) hc.1 ed hσ r fun H1 u r1 x1 ru => h al H1 u (by rw [hK]; exact r1) (x0.trans x1) (by rw [hK]; exact ru)
      · exact h.elim
    · cases hc
end
section
variable {cx : Cxt} {N : List Str}
theorem s_trye (c : String) (i : Nat) (hs : List HS) {b : Ss} (ib : SndSs cx N b) : SndS cx N (.trye b c i hs) := by
  intro X k sc st al H σ env sto W D g T po hc r hE tk h
  unfold chkS at hc
  split at hc
  · rename_i body y py n z zs ph pos
    simp only [Bool.and_eq_true, decide_eq_true_eq] at hc
    obtain ⟨⟨⟨⟨⟨⟨hb, rfl⟩, hgl⟩, hpl⟩, hi⟩, hl⟩, hh⟩ := hc
    unfold evS at h
    split at h
    · rename_i hsome
      obtain ⟨b0, hb0⟩ := Option.isSome_iff_exists.mp hsome
      obtain ⟨_, CT, _, mT, _⟩ := T.hnd c c b0 hb0
      have hN : X.N.Nodup := by rw [g.n]; exact g.nd
      have bi : X.mg "isinstance" = none := T.blt _ (by decide +kernel)
      have bt : X.mg "tuple" = none := T.blt _ (by decide +kernel)
      refine ⟨_, ps_try_as (X := X) (x := Str.ofString c) (n := n) (c := .ref CT) (i := i) (Wout := W) (tb := fun W' D' σ' H' => ∀ (pn : List (Addr × Obj)) (xe : Value → Shared → Prop), Takes (X.tr pn xe) W' → PassesOwn (model X.prog X.w) X.A X.env xe → SSs (X.tr pn xe) body D' σ' H')
        (ts := fun a cls d D' σ' H' => ∀ (oe : Obj) (pn : List (Addr × Obj)), Zc cls d oe → (∃ vs, oe.data = .fields vs) → SSs (X.suite a ((a, oe) :: pn)) (z :: zs) D' σ' H') po.hs po.hf hN (by rw [g.n]; exact hi) (g.lcl n hl)
        ⟨g.gl _ hgl, (plain1 hpl).1, .inl mT⟩ tk (fun W' pn xe tk' po' => ⟨fun pins s σ' H' D' I h' => pss_SSs.run pins s σ' H' D' I (h' pn xe tk' po')⟩)
        (fun a oe cls d pn hz hv => ⟨fun pins s σ' H' D' I h' => pss_SSs.run pins s σ' H' D' I (h' oe pn hz hv)⟩), ?_⟩
      intro pn xe tk' po'
      have g' : Good N sc k (X.tr pn xe) := ⟨g.n, g.nd, g.calm, g.room, g.vis, g.loc, g.lcl, g.cel, g.gl, g.fre, g.knd⟩
      refine ib (X := X.tr pn xe) g' T ⟨po', po.hs, po.hf⟩ hb r hE tk' ?_
      cases qb : evSs cx b env sto with
      | nx e1 s1 => rw [qb] at h; exact h
      | ct e1 s1 => rw [qb] at h; exact h
      | rt v s1 => rw [qb] at h; exact h
      | err => rw [qb] at h; exact h
      | exc c' e1 s1 =>
        rw [qb] at h
        intro al1 H1 σ1 C r1 hE1 x1 mC
        cases eh : cx.hnd c' c with
        | none => simp only [eh] at h; exact h.elim
        | some bb =>
          obtain ⟨C1, C2, m1, m2, hx⟩ := T.hnd c' c bb eh
          have eC : C = .ref C1 := Option.some.inj (mC.symm.trans m1)
          have eD : C2 = CT := by
            have := m2.symm.trans mT
            cases this
            rfl
          subst eC eD
          refine ⟨bb, hx, fun e => ?_, fun e => ?_⟩
          · subst e
            simp only [eh] at h
            intro a ha oe pn2 hz hv
            split at h
            rotate_left
            · exact h.elim
            rename_i hie
            have hilt : i < σ1.length := by
              rw [← hE1.len]
              exact hie
            refine snd_HS (Y := X.suite a ((a, oe) :: pn2)) (C := C1) (X := X) (W := W) (D := D) ⟨⟨g.n, g.nd, g.vis, g.loc, g.gl⟩, ⟨bi, fun t b' eb => ?_⟩, ⟨oe, List.mem_cons_self, hz, hv⟩, bt, g.room.depth, T.knd⟩ hs rfl hh (List.getElem?_set_self hilt) rfl r1 ?_ x1 h
            · obtain ⟨C3, v, u, m3, hC, hv, hk⟩ := T.sub c' t b' eb
              have e3 := m3.symm.trans m1
              cases e3
              exact ⟨hC, v, u, hv, hk⟩
            · rw [List.set_set]
              exact hE1.wipe [i]
          · subst e
            simp only [eh] at h
            exact h al1 H1 σ1 _ r1 hE1 x1 mC
    · exact h.elim
  · cases hc
end
end Pv

/-! Statements: targets, loops, raise. -/
namespace Pv
open PySem PySem.Spec PyProof.Rows L2 TL
section
variable {cx : Cxt} {N : List Str}
theorem s_asg (tg : Tg) (e : E) : SndS cx N (.asg tg e) := by
  intro X k sc st al H σ env sto W D g T po hc r hE tk h
  unfold chkS at hc
  split at hc
  · rename_i ts kk p ex q
    simp only [Bool.and_eq_true, Bool.not_eq_true'] at hc
    obtain ⟨⟨⟨hg, he⟩, hl⟩, ht⟩ := hc
    refine ⟨_, ps_asg pe_SE pg_SG (sole_false he hl _ _ _) (stores_none ht _ _), snd_E e g T he r hE tk ?_⟩
    unfold evS at h
    unfold PostE
    cases q : evE cx e env sto with
    | ok v s1 =>
      intro H' r' x' u ru
      cases v with
      | d d =>
        simp only [q] at h
        cases qb : bindT tg d env with
        | none => simp only [qb] at h; exact h.elim
        | some e1 =>
          simp only [qb] at h
          exact snd_G tg g hg (hE.mono x') ru qb fun σ1 e1 w1 => h al H' σ1 r' e1 x'
      | ref j => simp only [q] at h; exact h.elim
      | new xs => simp only [q] at h; exact h.elim
    | exc c s1 => simp only [q] at h; exact fun H' C r' x' m => h al H' σ C r' (hE.mono x') x' m
    | err => simp only [q] at h; exact h
  · cases hc
theorem fin0' {K : Frag} {mg : Str → Option Value} {al : Al} {H : Hp} {st : Store} {Ex : Value → Hp → Prop} {v : Val × Val} {P : V → V → Hp → Prop} (r : Rel K al H st) (h : PostR K mg al H Ex (fun (xy : Val × Val) _ H' => ∀ u w, RepW K al H' xy.1 u → RepW K al H' xy.2 w → P u w H') (.ok v st)) :
    ∀ u w, RepW K al H v.1 u → RepW K al H v.2 w → P u w H := h H r (Ext.refl _ _)
theorem s_par (i j : Nat) (a b : E) : SndS cx N (.par i j a b) := by
  intro X k sc st al H σ env sto W D g T po hc r hE tk h
  unfold chkS at hc
  split at hc
  · rename_i x px y py k1 pt ea eb k2 pt2 p
    simp only [Bool.and_eq_true, decide_eq_true_eq] at hc
    obtain ⟨⟨⟨⟨⟨⟨⟨⟨⟨hx, hy⟩, hij⟩, lx⟩, ly⟩, hln⟩, hxy⟩, ha⟩, hb⟩, hp⟩ := hc
    unfold isSet at hx hy
    simp only [Bool.and_eq_true, decide_eq_true_eq] at hx hy
    have nx : X.N[i]? = some x := by rw [g.n]; exact hx.1.1
    have ny : X.N[j]? = some y := by rw [g.n]; exact hy.1.1
    have kx := g.lcl x lx
    have ky := g.lcl y ly
    have kb : X.env.blockKind = .function := by
      unfold PySem.Env.blockKind
      rw [g.knd]
      rfl
    have kx' : X.env.kindOf x = some .local := kx
    have ky' : X.env.kindOf y = some .local := ky
    unfold okPar at hp
    simp only [Bool.and_eq_true, Bool.not_eq_true'] at hp
    obtain ⟨⟨hp1, hp2⟩, hp3⟩ := hp
    have hl2 : py.line = px.line := (beq_iff_eq.mp hln).symm
    have hw : swappedStores [.Tuple [.Name x px, .Name y py] k1 pt] (.Tuple [ea, eb] k2 pt2) X.env = pure (some [x, y]) := by
      have hyx : (y == x) = false := by
        rw [beq_eq_false_iff_ne]
        exact fun e => hxy e.symm
      have hd : ([x, y] : List Str).eraseDups.length = 2 := by
        simp [List.eraseDups, List.eraseDupsBy, List.eraseDupsBy.loop, hyx]
      have p1 : ([ea, eb] : List Expr).any (fun | .Starred .. => true | _ => false) = false := hp1
      have p2 : ([ea, eb] : List Expr).all (foldedForSure 8) = false := hp2
      have p3 : ([ea, eb] : List Expr).all (constantsAlone 8) = false := hp3
      have nm : ([.Name x px, .Name y py] : List Expr).filterMap (fun | .Name id pos => if X.env.kindOf id == some .local && pos.line == px.line then some id else none | _ => none) = [x, y] := by
        simp [kx', ky', hl2]
      have n2 : ((([x, y] : List Str).length != ([.Name x px, .Name y py] : List Expr).length) || (([x, y] : List Str).eraseDups.length != ([x, y] : List Str).length)) = false := by
        rw [hd]
        rfl
      unfold swappedStores
      show (if (!(([.Name x px, .Name y py] : List Expr).length == 2 || ([.Name x px, .Name y py] : List Expr).length == 3) || ([ea, eb] : List Expr).length != ([.Name x px, .Name y py] : List Expr).length || X.env.blockKind != .function) = true then _ else _) = _
      rw [if_neg (by rw [kb]; simp)]
      rw [if_neg (fun e => by
        have e' : ([ea, eb] : List Expr).any (fun | .Starred .. => true | _ => false) = true := e
        rw [p1] at e'
        cases e')]
      rw [show (Option.map (fun x : Expr => x.pos.line) ([Expr.Name x px, Expr.Name y py] : List Expr).head?).getD 0 = px.line from rfl]
      simp only [List.all_cons, List.all_nil, Bool.and_true] at p2 p3
      simp [kx', ky', hl2, hyx, p2, p3, List.eraseDups, List.eraseDupsBy, List.eraseDupsBy.loop]
    have sa := chk_shape a _ ha
    have sb := chk_shape b _ hb
    refine ⟨_, ps_par g.calm (by rw [g.n]; exact g.nd) nx ny hij kx ky (pa_cons pe_SE (pa_cons pe_SE pa_nil (hs := shape_star sb [] _)) (hs := shape_star sa [eb] _)) hw rfl, ?_⟩
    have h3 : PostR X.K X.mg al H (fun C H' => W C none σ H') (fun xy _ H' => ∀ u w, RepW X.K al H' xy.1 u → RepW X.K al H' xy.2 w → D.nx ((σ.set i (some u)).set j (some w)) H') ((evE cx a env sto).bind fun x s1 => (evE cx b env s1).bind fun y s2 => .ok (x, y) s2) := by
      unfold evS at h
      generalize ((evE cx a env sto).bind fun x s1 => (evE cx b env s1).bind fun y s2 => .ok (x, y) s2) = z at h ⊢
      cases z with
      | ok v s1 =>
        obtain ⟨v, w⟩ := v
        cases v with
        | d d1 =>
          cases w with
          | d d2 => exact fun H' r' x' u w ru rw' => h al H' _ r' (((hE.mono x').set (v := .d d1) rfl ru i).set (v := .d d2) rfl rw' j) x'
          | ref _ => exact h.elim
          | new _ => exact h.elim
        | ref _ => exact h.elim
        | new _ => exact h.elim
      | exc c s1 => exact fun H' C r' x' m => h al H' σ C r' (hE.mono x') x' m
      | err => exact h.elim
    refine snd_E a g T ha r hE tk (PostR.imp (PostR.bind h3) fun v s1 H1 r1 x1 q u ru => ?_)
    refine snd_E b g T hb r1 (hE.mono x1) tk (PostR.imp (PostR.bind q) fun w s2 H2 r2 x2 q2 u2 ru2 => ?_)
    exact ⟨_, _, rfl, fin0' r2 q2 _ _ (ru.weak.mono x2) ru2.weak⟩
  · cases hc
theorem s_setix (a i v : E) : SndS cx N (.setix a i v) := by
  intro X k sc st al H σ env sto W D g T po hc r hE tk h
  unfold chkS at hc
  split at hc
  · rename_i x' y' p ex q
    simp only [Bool.and_eq_true, Bool.not_eq_true'] at hc
    obtain ⟨⟨⟨ha, hi⟩, hv⟩, hl⟩ := hc
    have ok := chk_shape i _ hi
    refine ⟨_, ps_asg pe_SE (pg_sub pe_SE pe_SE set_list (by cases y' <;> first | (intro _; rfl) | (simp [okShape] at ok; done))) (sole_false hv hl _ _ _) (stores_none' _), ?_⟩
    have h2 : PostE X al H σ W (fun x H1 => gSub (SE X x') (SE X y') rSetL x σ H1 D.nx) (evE cx v env sto) := by
      unfold evS at h
      have h3 : PostR X.K X.mg al H (fun C H' => W C none σ H') (fun _ _ H' => D.nx σ H') ((evE cx v env sto).bind fun x s1 => (evE cx a env s1).bind fun o s2 => (evE cx i env s2).bind fun k s3 => setV x o k s3) := by
        generalize ((evE cx v env sto).bind fun x s1 => (evE cx a env s1).bind fun o s2 => (evE cx i env s2).bind fun k s3 => setV x o k s3) = z at h ⊢
        cases z with
        | ok v s1 => exact fun H' r' x' => h al H' σ r' (hE.mono x') x'
        | exc c s1 => exact fun H' C r' x' m => h al H' σ C r' (hE.mono x') x' m
        | err => exact h
      refine PostR.imp (PostR.bind h3) fun x s1 H1 r1 x1 q u ru => ?_
      refine snd_E a g T ha r1 (hE.mono x1) tk (PostR.imp (PostR.bind q) fun o s2 H2 r2 x2 q2 uo ro => ?_)
      refine SE.gh (snd_E i g T hi r2 ((hE.mono x1).mono x2) tk (PostR.imp (PostR.bind q2) fun kk s3 H3 r3 x3 q3 uk rk => ?_))
      have rx := (ru.weak.mono x2).mono x3
      have ro := ro.weak.mono x3
      unfold setV at q3
      split at q3
      · rename_i n
        cases rk
        split at q3
        · exact q3.elim
        · rename_i d s4 e4
          refine toD_gh r3 rx e4 fun H4 r4 x4 rd => ?_
          split at q3
          · rename_i xs hxs
            split at q3
            · rename_i j hj
              obtain ⟨p', hp, rfl⟩ := ro.mono x4
              obtain ⟨vs, h1, hr⟩ := r4.cell _ _ _ hxs hp
              have sb : Stab H4 (upd H4 p' (.lst (vs.set j u))) := stab_upd h1
              refine ⟨p', vs, _, j, rfl, rfl, h1, by rw [← hr.length]; exact hj, ?_⟩
              exact q3 _ (r4.upd hp sb ⟨_, upd_same, (hr.set rd j).mono sb⟩) (x4.trans (ext_cell (List.mem_of_getElem? hp) h1))
            · exact q3.elim
          · exact q3.elim
      · exact q3.elim
    exact snd_E v g T hv r hE tk h2
  · cases hc
theorem EnvR.kill {K : Frag} {al al' : Al} {H : Hp} {env : Env} {σ : L2.St} {n : Nat} {β : List Addr} (h : EnvR K al' H env σ) (hc : al'.c = al.c ++ β) (hn : al.c.length = n) : EnvR K al H (env.map (kill n)) σ := by
  refine ⟨by rw [List.length_map]; exact h.len, fun i v e => ?_⟩
  rw [List.getElem?_map] at e
  cases q : env[i]? with
  | none => rw [q] at e; cases e
  | some o =>
    rw [q] at e
    have e : Pv.kill n o = some v := by simpa using e
    cases o with
    | none => cases e
    | some w =>
      obtain ⟨nw, u, h1, h2⟩ := h.get i w q
      cases w with
      | d d => cases e; exact ⟨rfl, u, h1, h2⟩
      | new xs => cases nw
      | ref j =>
        have e : (if j < n then some (Val.ref j) else none) = some v := e
        split at e
        · rename_i hj
          cases e
          obtain ⟨a, ha, rfl⟩ := h2
          refine ⟨rfl, _, h1, a, ?_, rfl⟩
          rw [hc, List.getElem?_append_left (by omega)] at ha
          exact ha
        · cases e
theorem Ext.drop {al al' : Al} {H H' : Hp} (x : Ext al H al' H') : Ext al H al H' := ⟨⟨[], by simp⟩, rfl, fun _ h n => absurd h n, x.prt, x.oth, x.stab⟩
theorem Rel.back {K : Frag} {al al' : Al} {H0 H : Hp} {st : Store} {n : Nat} (r : Rel K al' H st) (x : Ext al H0 al' H) (hn : al.c.length = n) : Rel K al H (st.take n) := by
  obtain ⟨β, hb⟩ := x.pre
  have rt := r.take n
  have e : al'.take n = al := by
    have h1 : al'.c.take n = al.c := by rw [hb, ← hn]; exact List.take_left
    have h2 := x.pp
    cases al
    cases al'
    simp only [Al.take] at *
    subst h2
    rw [h1]
  rw [e] at rt
  exact rt
theorem s_forr (tg : Tg) (it : It) {b : Ss} (ib : SndSs cx N b) : SndS cx N (.forr tg it b) := by
  intro X k sc st al H σ env sto W D g T po hc r hE tk h
  unfold chkS at hc
  split at hc
  · rename_i t ex body p
    rw [Bool.and_eq_true, Bool.and_eq_true] at hc
    obtain ⟨⟨hg, hi⟩, hb⟩ := hc
    refine ⟨_, ps_for (wi := SI X t ex) (g := SG X t) (tb := SSs X body) po.po g.calm pi_SI pg_SG pss_SSs (fun v => chkI_fold hi v), ?_⟩
    unfold evS at h
    refine snd_I it g T hi r hE tk ?_
    unfold PostI
    cases q : evI cx it env sto with
    | exc c s1 => simp only [q] at h; exact fun H' C r' x' m => h al H' σ C r' (hE.mono x') x' m
    | err => simp only [q] at h; exact h
    | ok w s1 =>
      simp only [q] at h
      intro H1 r1 x1 J hJ
      have le := r1.sureLe
      have hl := r1.len
      have h1 := (h.ext x1).lift le
      refine ⟨fun i m σ2 H2 => ∃ ds env2 st2, w.items.drop i = ds ∧ m = ds.length ∧ Rel X.K ⟨al.c, sureP al H1⟩ H2 st2 ∧ EnvR X.K ⟨al.c, sureP al H1⟩ H2 env2 σ2 ∧ Ext ⟨al.c, sureP al H1⟩ H1 ⟨al.c, sureP al H1⟩ H2 ∧
        PostS X ⟨al.c, sureP al H1⟩ H1 D W (forL w s1.length tg (fun e s => evSs cx b e s) ds env2 st2),
        ⟨w.items.length, w.items, env, s1, rfl, rfl, r1.sure, (hE.mono x1).sure, Ext.refl _ _, h1⟩, ?_⟩
      rintro i m σ2 H2 ⟨ds, env2, st2, hd, rfl, r2, e2, x2, p⟩
      have x2' : Ext al H1 al H2 := x2.less le
      cases ds with
      | nil =>
        rw [forL] at p
        split at p
        · rename_i ok
          obtain ⟨_, hstop⟩ := hJ ⟨al.c, sureP al H1⟩ H2 st2 x2' r2 ok
          refine .inl ⟨hstop i ?_, p _ H2 σ2 r2 e2 x2⟩
          have := congrArg List.length hd
          rw [List.length_drop] at this
          simp at this
          omega
        · exact p.elim
      | cons d ds =>
        rw [forL] at p
        split at p
        · rename_i ok
          obtain ⟨hgo, _⟩ := hJ ⟨al.c, sureP al H1⟩ H2 st2 x2' r2 ok
          have hdi : w.items[i]? = some d := by
            have := congrArg (fun l : List Pv.D => l[0]?) hd
            simp only [List.getElem?_drop, Nat.add_zero] at this
            exact this
          have hdrop : w.items.drop (i + 1) = ds := by
            have := congrArg (fun l : List Pv.D => l.drop 1) hd
            simp only [List.drop_drop] at this
            exact this
          obtain ⟨go, yl⟩ := hgo i d hdi
          refine .inr ⟨go, fun σ' H' => ∃ ds2 env2 st2, w.items.drop (i + 1) = ds2 ∧ ds.length = ds2.length ∧ Rel X.K ⟨al.c, sureP al H1⟩ H' st2 ∧ EnvR X.K ⟨al.c, sureP al H1⟩ H' env2 σ' ∧ Ext ⟨al.c, sureP al H1⟩ H1 ⟨al.c, sureP al H1⟩ H' ∧
            PostS X ⟨al.c, sureP al H1⟩ H1 D W (forL w s1.length tg (fun e s => evSs cx b e s) ds2 env2 st2), fun σ' H' hN => ⟨ds.length, by simp, hN⟩, fun v H3 hy => ?_⟩
          obtain ⟨r3, x3, rv⟩ := yl v H3 hy
          split at p
          · rename_i env1 hb1
            refine snd_G tg g hg (e2.mono x3) rv hb1 fun σ3 e3 w3 => ?_
            refine ib (D := { nx := _, rt := D.rt, ct := _, bk := _ }) g T po hb r3 e3 tk ?_
            have x13 := x2.trans x3
            cases qb : evSs cx b env1 st2 with
            | nx env4 st4 =>
              simp only [qb] at p
              intro al4 H4 σ4 r4 e4 x4
              obtain ⟨β, hβ⟩ := x4.pre
              exact ⟨ds, _, _, hdrop, rfl, r4.back x4 hl, e4.kill hβ hl, x13.trans x4.drop, p⟩
            | ct env4 st4 =>
              simp only [qb] at p
              intro al4 H4 σ4 r4 e4 x4
              obtain ⟨β, hβ⟩ := x4.pre
              exact ⟨ds, _, _, hdrop, rfl, r4.back x4 hl, e4.kill hβ hl, x13.trans x4.drop, p⟩
            | rt v s4 =>
              simp only [qb] at p
              exact fun al4 H4 u r4 x4 rv => p al4 H4 u r4 (x13.trans x4) rv
            | exc c env4 s4 =>
              simp only [qb] at p
              exact fun al4 H4 σ4 C r4 e4 x4 m => p al4 H4 σ4 C r4 e4 (x13.trans x4) m
            | err => simp only [qb] at p; exact p
          · exact p.elim
        · exact p.elim
  · cases hc
theorem s_whil (t : E) {b : Ss} (ib : SndSs cx N b) : SndS cx N (.whil t b) := by
  intro X k sc st al H σ env sto W D g T po hc r hE tk h
  unfold chkS at hc
  split at hc
  · rename_i x body p
    rw [Bool.and_eq_true] at hc
    obtain ⟨ht, hb⟩ := hc
    have hl := r.len
    unfold evS at h
    refine ⟨_, ps_while (tc := ST X x) (tb := SSs X body) po.po pt_ST pss_SSs, fun m σ2 H2 => ∃ env2 st2, Rel X.K al H2 st2 ∧ EnvR X.K al H2 env2 σ2 ∧ Ext al H al H2 ∧
      PostS X al H D W (whileL sto.length (fun e s => evT cx t e s) (fun e s => evSs cx b e s) m env2 st2), ⟨cx.fuel, env, sto, r, hE, Ext.refl _ _, h⟩, ?_⟩
    rintro m σ2 H2 ⟨env2, st2, r2, e2, x2, p⟩
    cases m with
    | zero => exact p.elim
    | succ m =>
      rw [whileL] at p
      refine snd_T t (W := W) g T ht r2 e2 tk ?_
      unfold PostB
      cases qt : evT cx t env2 st2 with
      | err => simp only [qt] at p; exact p
      | exc c s3 =>
        simp only [qt] at p
        exact fun H' C r' x' mm => p al H' σ2 C r' (e2.mono x') (x2.trans x') mm
      | ok kk s3 =>
        cases kk with
        | false =>
          simp only [qt] at p
          intro H3 r3 x3
          show (if false = true then _ else D.nx σ2 H3)
          rw [if_neg (by simp)]
          exact p al H3 σ2 r3 (e2.mono x3) (x2.trans x3)
        | true =>
          simp only [qt] at p
          intro H3 r3 x3
          show (if true = true then _ else D.nx σ2 H3)
          rw [if_pos rfl]
          refine ⟨fun σ' H' => ∃ env2 st2, Rel X.K al H' st2 ∧ EnvR X.K al H' env2 σ' ∧ Ext al H al H' ∧
            PostS X al H D W (whileL sto.length (fun e s => evT cx t e s) (fun e s => evSs cx b e s) m env2 st2), fun σ' H' hN => ⟨m, Nat.lt_succ_self m, hN⟩, ?_⟩
          refine ib (D := { nx := _, rt := D.rt, ct := _, bk := _ }) g T po hb r3 (e2.mono x3) tk ?_
          have x13 := x2.trans x3
          cases qb : evSs cx b env2 s3 with
          | nx env4 st4 =>
            simp only [qb] at p
            intro al4 H4 σ4 r4 e4 x4
            obtain ⟨β, hβ⟩ := x4.pre
            exact ⟨_, _, r4.back x4 hl, e4.kill hβ hl, x13.trans x4.drop, p⟩
          | ct env4 st4 =>
            simp only [qb] at p
            intro al4 H4 σ4 r4 e4 x4
            obtain ⟨β, hβ⟩ := x4.pre
            exact ⟨_, _, r4.back x4 hl, e4.kill hβ hl, x13.trans x4.drop, p⟩
          | rt v s4 =>
            simp only [qb] at p
            exact fun al4 H4 u r4 x4 rv => p al4 H4 u r4 (x13.trans x4) rv
          | exc c env4 s4 =>
            simp only [qb] at p
            exact fun al4 H4 σ4 C r4 e4 x4 mm => p al4 H4 σ4 C r4 e4 (x13.trans x4) mm
          | err => simp only [qb] at p; exact p
  · cases hc
theorem s_rais (c : String) : SndS cx N (.rais c) := by
  intro X k sc st al H σ env sto W D g T po hc r hE tk h
  unfold chkS at hc
  split at hc
  · rename_i x p1 m j p2 p3 p4
    simp only [Bool.and_eq_true, decide_eq_true_eq] at hc
    obtain ⟨⟨rfl, hg⟩, hp⟩ := hc
    unfold evS at h
    split at h
    · rename_i hx
      obtain ⟨C, m1, m2, m3, m4, m5⟩ := T.isx c hx
      obtain ⟨q1, _, _⟩ := plain1 hp
      exact ⟨_, ps_raise g.calm tk (pmk_own (PySem.F.excBase_ValueError) m2 m1 m3 (raises_own m4 m5) (g.gl _ hg) q1), h al H σ (.ref C) r hE (Ext.refl _ _) m1⟩
    · exact h.elim
  · cases hc
theorem s_err {s : S} (h0 : ∀ env st, evS cx s env st = .err) : SndS cx N s := by
  intro X k sc st al H σ env sto W D g T po hc r hE tk h
  rw [h0] at h
  exact h.elim
mutual
theorem snd_S : ∀ s : S, SndS cx N s
  | .set i e => s_set i e
  | .asg tg e => s_asg tg e
  | .par i j a b => s_par i j a b
  | .setix a i v => s_setix a i v
  | .ex e => s_ex e
  | .ret e => s_ret e
  | .retN => s_retN
  | .ife t a b => s_ife t (snd_Ss a) (snd_Ss b)
  | .forr tg it b => s_forr tg it (snd_Ss b)
  | .whil t b => s_whil t (snd_Ss b)
  | .rais c => s_rais c
  | .trye b c i h => s_trye c i h (snd_Ss b)
  | .pass => s_pass
  | .cont => s_cont
theorem snd_Ss : ∀ s : Ss, SndSs cx N s
  | .nil => ss_nil
  | .cons s ss => ss_cons (snd_S s) (snd_Ss ss)
end
end
end Pv

/-! A program: each def keeps the evaluator's promise, by the depth of calls. -/
namespace Pv
open PySem PySem.Spec PyProof.Rows L2 TL

def Fn.N (F : Fn) : List Str := F.ns.map Str.ofString
def Fn.P (F : Fn) : List Str := F.ps.map Str.ofString
def chkFn (F : Fn) (st : Stmt) : Bool := chkF F st && chkScope F.N F.P (defScope st)

/-- a def stands where the top has left it -/
structure DefOk (K : Frag) (mg : Str → Option Value) (f : String) (F : Fn) : Prop where
  ex : ∃ (fa : Addr) (fd : FuncData) (qual : Str) (st : Stmt), mg (Str.ofString f) = some (.ref fa) ∧ Fun K (Str.ofString f) qual st fa fd ∧ chkFn F st = true ∧ Binds K fd F.P []
structure Top (Δ : Prog) (K : Frag) (mg : Str → Option Value) : Prop where
  fn : ∀ f F, Δ.fn f = some F → DefOk K mg f F
  glob : ∀ g d, Δ.glob g = some d → ∃ v u, mg (Str.ofString g) = some u ∧ RelV v u ∧ ∀ H, RepD K H d v
  blt : ∀ n ∈ bltNames, mg n = none
  isx : ∀ c, Δ.isx c = true → ∃ C, mg (Str.ofString c) = some (.ref C) ∧ PySem.W.excIn K C [.type "ValueError", .type "Exception", .type "BaseException", .type "object"] "ValueError.__new__" = true ∧ PySem.W.keepIn K (.ref C) = true ∧ PySem.W.subIn K (.ref C) (.type "BaseException") = some true ∧ PySem.W.typeIn K (.ref C) = some (.type "type")
  sub : ∀ c t b, Δ.sub c t = some b → ∃ C v u, mg (Str.ofString c) = some (.ref C) ∧ ExcC K C ∧ ClsV mg (Str.ofString t) v u ∧ PySem.W.kitOne K (.ref C) u = some b
  hnd : ∀ c t b, Δ.hnd c t = some b → ∃ C D, mg (Str.ofString c) = some (.ref C) ∧ mg (Str.ofString t) = some (.ref D) ∧ PySem.W.exmOne K (.ref C) (.ref D) = some b
  knd : ∀ f cs, Δ.knd f = some cs → ∃ (d : Kd) (fa : Addr) (fd : FuncData) (qual : Str) (st : Stmt), cs = d.cs ∧ mg (Str.ofString f) = some (.ref fa) ∧ Fun K (Str.ofString f) qual st fa fd ∧ chkKd d st = true ∧ Binds K fd [Str.ofString d.p] []

section
variable {P : Program} {w : World} {K : Frag} {mg : Str → Option Value} {base : Heap} {Δ : Prog} {m : Nat}
theorem post_len {call : String → List Val → Store → R Val} {f : String} {n : Nat} (h : ∀ args st, args.length ≠ n → call f args st = .err) : ∀ vs H Q E, spOf K mg call f vs H Q E → vs.length = n := by
  rintro vs H Q E ⟨al, args, st, r, ra, _, p⟩
  by_cases e : args.length = n
  · rw [← ra.length, e]
  · rw [h args st e] at p
    exact p.elim
theorem envR_start {F : Fn} {al : Al} {H : Hp} {args : List Val} {vs : List V} (ra : RepVs K al H args vs) (hn : ∀ a ∈ args, isNew a = false) : EnvR K al H (envF F args) (L2.start F.N vs) := by
  have hl := ra.length
  refine ⟨?_, fun i v e => ?_⟩
  · unfold envF L2.start Fn.N
    rw [List.length_append, List.length_append, List.length_map, List.length_map, List.length_replicate, List.length_replicate, List.length_map, hl]
  · unfold envF at e
    by_cases hi : i < args.length
    · rw [List.getElem?_append_left (by rw [List.length_map]; exact hi), List.getElem?_map] at e
      cases q : args[i]? with
      | none => rw [q] at e; cases e
      | some a =>
        rw [q] at e
        cases e
        obtain ⟨u, hu, ru⟩ := ra.get q
        refine ⟨hn _ (List.mem_of_getElem? q), u, ?_, ru⟩
        unfold L2.start
        rw [List.getElem?_append_left (by rw [List.length_map, ← hl]; exact hi), List.getElem?_map, hu]
        rfl
    · rw [List.getElem?_append_right (by rw [List.length_map]; omega), List.getElem?_replicate] at e
      split at e <;> cases e
/-- from a body's end to the def's answer -/
theorem post_body {X : Cx} {al : Al} {H : Hp} {Q : VK} {E : XK} {st : Store} {r : SR} (hr : Rel X.K al H st)
    (p : PostR X.K X.mg al H (fun C H' => E C none H') (fun v _ H' => ∀ u, RepV X.K al H' v u → Q u H') (endF r st.length)) :
    PostS X al H { nx := fun _ H' => Q .non H', rt := Q } (fun cls d _ H => E cls d H) r := by
  have hl := hr.len
  cases r with
  | nx env s => exact fun al' H' σ' r' e' x' => p H' (r'.back x' hl) x'.drop .non .non
  | ct env s => exact p.elim
  | exc c env s => exact fun al' H' σ' C r' e' x' mm => p H' C (r'.back x' hl) x'.drop mm
  | err => exact p.elim
  | rt v s =>
    intro al' H' u r' x' rv
    obtain ⟨β, hβ⟩ := x'.pre
    have rb := r'.back x' hl
    have p : PostR X.K X.mg al H (fun C H' => E C none H') (fun v _ H' => ∀ u, RepV X.K al H' v u → Q u H') (retV v st.length s) := p
    cases v with
    | d d => exact p H' rb x'.drop u rv
    | new xs =>
      obtain ⟨a, vs, e, h1, n, h2⟩ := rv
      refine p H' rb x'.drop u ⟨a, vs, e, h1, ⟨fun z => n.1 ?_, fun z => n.2 ?_⟩, h2⟩
      · rw [hβ]; exact List.mem_append_left _ z
      · rw [x'.pp]; exact z
    | ref i =>
      obtain ⟨a, ha, rfl⟩ := rv
      unfold retV at p
      split at p
      · rename_i d e; cases e
      · rename_i xs e; cases e
      · rename_i j e
        cases e
        split at p
        · rename_i hi
          refine p H' rb x'.drop _ ⟨a, ?_, rfl⟩
          rw [hβ, List.getElem?_append_left (by omega)] at ha
          exact ha
        · rename_i hi
          have hout : al.out a := by
            refine ⟨fun z => ?_, fun z => ?_⟩
            · obtain ⟨j, hj⟩ := List.getElem?_of_mem z
              have hjl : j < al.c.length := by
                rcases Nat.lt_or_ge j al.c.length with q | q
                · exact q
                · rw [List.getElem?_eq_none q] at hj; cases hj
              have hj' : al'.c[j]? = some a := by rw [hβ, List.getElem?_append_left hjl]; exact hj
              have := nodup_get r'.nd ha hj'
              omega
            · exact (r'.prot a (by rw [x'.pp]; exact z)).2 (List.mem_of_getElem? ha)
          split at p
          · rename_i xs hx
            obtain ⟨vs, h1, h2⟩ := r'.cell _ _ a hx ha
            exact p H' rb x'.drop _ ⟨a, vs, rfl, h1, hout, h2⟩
          · rename_i xs hx
            obtain ⟨o, vs, h1, h2⟩ := r'.cell _ _ a hx ha
            exact p H' rb x'.drop _ (.lst (.inl ⟨o, h1⟩) h2)
          · exact p.elim
theorem prog_ok (T : Top Δ K mg) : ∀ (n : Nat) (f : String) (F : Fn) (fa : Addr) (fd : FuncData) (qual : Str) (st : Stmt), Δ.fn f = some F → Fun K (Str.ofString f) qual st fa fd → chkFn F st = true → FnOk P w K mg base (L2.CX P w) n fa fd F.P (spOf K mg (Φ Δ m n) f)
  | 0, f, F, fa, fd, qual, st, _, _, _ => ⟨fun vs H Q E h => by obtain ⟨al, args, st, r, ra, _, p⟩ := h; exact p.elim, fun A outer s H args us vs Q E _ _ _ _ h => by obtain ⟨al, args, st, r, ra, _, p⟩ := h; exact p.elim⟩
  | n + 1, f, F, fa, fd, qual, st, hf, hF, hc => by
    unfold chkFn at hc
    rw [Bool.and_eq_true] at hc
    have S := scope_ok hc.2
    refine hF.okX (N := F.N) S (post_len fun args st e => ?_) (fun cdv A outer s H vs Q E hr h => ?_)
    · unfold Φ
      rw [hf]
      unfold runF
      show (if args.length = F.ps.length then _ else R.err) = .err
      rw [if_neg]
      intro q
      apply e
      rw [q]
      unfold Fn.P
      rw [List.length_map]
    · obtain ⟨al, args, sto, r, ra, hn, p⟩ := h
      have hl := ra.length
      refine ⟨_, pss_SSs, ?_⟩
      have T' : Tab ⟨Φ Δ m n, Δ.glob, m, Δ.isx, fun f => (Δ.fn f).isSome, Δ.sub, Δ.hnd, Δ.knd⟩ n P w K mg base := by
        refine ⟨fun g hg => ?_, T.glob, T.blt, T.isx, T.sub, T.hnd, T.knd⟩
        obtain ⟨G, hG⟩ := Option.isSome_iff_exists.mp hg
        obtain ⟨ga, gd, gq, gs, h1, h2, h3, h4⟩ := (T.fn g G hG).ex
        exact ⟨ga, gd, G.P, h1, h2.kp, h4, prog_ok T n g G ga gd gq gs hG h2 h3⟩
      have good : Good F.N (defScope st) n (cxOf (L2.CX P w) P w K mg base F.N qual (defScope st) fa cdv A outer s H E) := by
        refine ⟨rfl, S.nd, rfl, hr, fun x hx => ?_, fun x hx => ?_, fun x hx => hx, fun x hx => hx, fun x hx => ?_, fun x hx => hx, S.kind⟩
        · unfold Pv.vis at hx
          split at hx
          · rename_i q; exact .inl q
          · rename_i q; exact .inr (.inl q)
          · rename_i q; exact .inr (.inr q)
          · cases hx
        · unfold Pv.locl at hx
          split at hx
          · rename_i q; exact ⟨.inl q, .inl rfl⟩
          · rename_i q; exact ⟨.inr q, .inl rfl⟩
          · cases hx
        · unfold Pv.gl at hx
          split at hx
          · rename_i q; exact q
          · cases hx
      refine snd_Ss (cx := ⟨Φ Δ m n, Δ.glob, m, Δ.isx, fun f => (Δ.fn f).isSome, Δ.sub, Δ.hnd, Δ.knd⟩) F.body good T' ⟨passes_of rfl, rfl, rfl⟩ hc.1 r (envR_start ra hn) (takes_of rfl rfl rfl rfl) (post_body r ?_)
      have e : Φ Δ m (n + 1) f args sto = runF F ⟨Φ Δ m n, Δ.glob, m, Δ.isx, fun f => (Δ.fn f).isSome, Δ.sub, Δ.hnd, Δ.knd⟩ args sto := by
        unfold Φ
        rw [hf]
      rw [e] at p
      unfold runF at p
      by_cases q : args.length = F.ps.length
      · rw [if_pos q] at p
        exact p
      · rw [if_neg q] at p
        exact p.elim

/-- the law: the script's list, the answer True -/
def spLaw (K : Frag) : Sp := fun vs H Q _ => ∃ (a : Addr) (ns : List Int), vs = [.ref a] ∧ ns.length ≤ 63 ∧ Only H ∧ SqL K H a (ns.map V.int) ∧ ∀ H', Q (.bl true) H'
theorem only_fz {H : Hp} {a : Addr} {vs : List V} (o : Only H) (h : SqL K H a vs) : FzL K H a vs := by
  rcases h with (h | h) | h
  · rcases o a with q | ⟨ob, xs, q⟩ <;> rw [h] at q <;> cases q
  · exact .inl h
  · exact .inr h
theorem law_ok (T : Top Δ K mg) {n : Nat} {F : Fn} {fa : Addr} {fd : FuncData} {qual : Str} {st : Stmt} (hf : Δ.fn "law" = some F) (hF : Fun K (Str.ofString "law") qual st fa fd) (hc : chkFn F st = true)
    (law : ∀ ns : List Int, ns.length ≤ 63 → Φ Δ m n "law" [.d (.lst (ns.map .int))] [] = .ok (.d (.bl true)) []) : FnOk P w K mg base (L2.CX P w) n fa fd F.P (spLaw K) := by
  refine (prog_ok (m := m) T n "law" F fa fd qual st hf hF hc).imp ?_
  rintro vs H Q E ⟨a, ns, rfl, hl, ho, hs, q⟩
  refine ⟨⟨[], fun _ => False⟩, [.d (.lst (ns.map .int))], [], ⟨rfl, List.nodup_nil, fun i c a h => (by simp at h), fun a h => h.elim⟩, .cons (.lst (only_fz ho hs) (repInts ns)) .nil, fun a ha => ?_, ?_⟩
  · have : a = .d (.lst (ns.map .int)) := by simpa using ha
    subst this
    rfl
  · rw [law ns hl]
    intro H' _ _ u hu
    cases hu
    exact q H'
end
theorem walk_law {l : PySem.W.OpenLaw} {k : Nat} {q : Program} {loose : List Str} {XP : (Str → Option Value) → Heap → Prop} {YP : World → Heap → Prop} {d : DefRec} {K : Params → Frag} {x : Str} (hn : l.most = some 63) (hdf : d.params.defaults = []) (hk : k ≤ 230)
    (hY : ∀ (w : World) (h : Heap), YP w h → (K w.params).In h)
    (F : ∀ (w : World) (mg : Str → Option Value) (fa : Addr) (h : Heap), (K w.params).In h → h.Ns mainGlobals mg → mg d.name = some (.ref fa) →
      ∃ fd : FuncData, (∀ (s : Shared) (u : Value), BindsTo s fd ⟨[u], []⟩ [(x, u)]) ∧ ∀ base : Heap, (K w.params).In base → base.Ns mainGlobals mg → FnOk l.prog w (K w.params) mg base (L2.CX l.prog w) k fa fd [x] (spLaw (K w.params))) :
    PySem.W.WalkO q loose XP YP l.row.toRowW d [] (fun f vs => PySem.call f vs) :=
  L2.walk_of (n := 63) (k := k) (x := x) (CX := fun w => L2.CX l.prog w) (sp := fun w => spLaw (K w.params)) hn (by decide) hdf ((⟨rfl, by decide, by decide⟩ : Room 230 callerA).mono hk) hY F (fun _ _ a ns hl ho hS => ⟨a, ns, rfl, hl, ho, hS, fun _ => rfl⟩)
    fun _ _ _ _ _ z => by obtain ⟨_, _, _, _, _, _, _, _, _, _, _, _, z⟩ := z; exact z
end Pv

/-! Tools for reckoning with the evaluator. -/
namespace Pv
open PySem
/-- an equation that simp keeps as a proof -/
theorem nr {α : Sort u} {a b : α} (h : a = b) : a = b := h

@[simp] theorem R.bind_ok {α β : Type} (a : α) (s : Store) (f : α → Store → R β) : (R.ok a s).bind f = f a s := nr rfl
@[simp] theorem R.bind_exc {α β : Type} (c : String) (s : Store) (f : α → Store → R β) : (R.exc c s : R α).bind f = .exc c s := nr rfl
@[simp] theorem R.bind_err {α β : Type} (f : α → Store → R β) : (R.err : R α).bind f = .err := nr rfl

/-- it ends well, and so -/
def R.okP {α : Type} (r : R α) (P : α → Store → Prop) : Prop := match r with
  | .ok a s => P a s
  | _ => False
@[simp] theorem okP_ok {α : Type} (a : α) (s : Store) (P : α → Store → Prop) : (R.ok a s).okP P = P a s := nr rfl
theorem R.okP_ex {α : Type} {r : R α} {P : α → Store → Prop} (h : r.okP P) : ∃ a s, r = .ok a s ∧ P a s := by
  cases r with
  | ok a s => exact ⟨a, s, rfl, h⟩
  | exc c s => exact h.elim
  | err => exact h.elim
/-- a statement ends well, and so -/
def SR.nxP (r : SR) (P : Env → Store → Prop) : Prop := match r with
  | .nx e s => P e s
  | _ => False
@[simp] theorem nxP_nx (e : Env) (s : Store) (P : Env → Store → Prop) : (SR.nx e s).nxP P = P e s := nr rfl
theorem SR.nxP_ex {r : SR} {P : Env → Store → Prop} (h : r.nxP P) : ∃ e s, r = .nx e s ∧ P e s := by
  cases r with
  | nx e s => exact ⟨e, s, rfl, h⟩
  | ct e s => exact h.elim
  | rt v s => exact h.elim
  | exc c e s => exact h.elim
  | err => exact h.elim
/-! ### stores: what a def has made lies behind what stood -/
section
variable (s t : Store) (j : Nat) (c : Cell)
theorem st0 : (s ++ t)[s.length]? = t[0]? := by rw [List.getElem?_append_right (Nat.le_refl _), Nat.sub_self]
theorem stj : (s ++ t)[s.length + j]? = t[j]? := by rw [List.getElem?_append_right (Nat.le_add_right _ _), Nat.add_sub_cancel_left]
theorem set0 : (s ++ t).set s.length c = s ++ t.set 0 c := by rw [List.set_append_right _ _ (Nat.le_refl _), Nat.sub_self]
theorem setj : (s ++ t).set (s.length + j) c = s ++ t.set j c := by rw [List.set_append_right _ _ (Nat.le_add_right _ _), Nat.add_sub_cancel_left]
theorem tak0 : (s ++ t).take s.length = s := List.take_left
theorem takj : (s ++ t).take (s.length + j) = s ++ t.take j := by rw [List.take_append, List.take_of_length_le (Nat.le_add_right _ _), Nat.add_sub_cancel_left]
end
def SR.turn (r : SR) (P : Env → Store → Prop) : Prop := match r with
  | .nx e s => P e s
  | .ct e s => P e s
  | _ => False
@[simp] theorem turn_nx (e : Env) (s : Store) (P : Env → Store → Prop) : (SR.nx e s).turn P = P e s := nr rfl
@[simp] theorem turn_ct (e : Env) (s : Store) (P : Env → Store → Prop) : (SR.ct e s).turn P = P e s := nr rfl
theorem SR.turn_ex {r : SR} {P : Env → Store → Prop} (h : r.turn P) : ∃ e s, (r = .nx e s ∨ r = .ct e s) ∧ P e s := by
  cases r with
  | nx e s => exact ⟨e, s, .inl rfl, h⟩
  | ct e s => exact ⟨e, s, .inr rfl, h⟩
  | rt v s => exact h.elim
  | exc c e s => exact h.elim
  | err => exact h.elim
theorem SR.turn_imp {r : SR} {P Q : Env → Store → Prop} (h : r.turn P) (f : ∀ e s, P e s → Q e s) : r.turn Q := by
  cases r with
  | nx e s => exact f e s h
  | ct e s => exact f e s h
  | rt v s => exact h.elim
  | exc c e s => exact h.elim
  | err => exact h.elim
def SR.turn2 (r : SR) (P : Env → Store → Prop) (Q : SR → Prop) : Prop := match r with
  | .nx e s => P e s
  | .ct e s => P e s
  | r => Q r
@[simp] theorem turn2_nx (e : Env) (s : Store) (P : Env → Store → Prop) (Q : SR → Prop) : (SR.nx e s).turn2 P Q = P e s := nr rfl
@[simp] theorem turn2_ct (e : Env) (s : Store) (P : Env → Store → Prop) (Q : SR → Prop) : (SR.ct e s).turn2 P Q = P e s := nr rfl
@[simp] theorem turn2_rt (v : Val) (s : Store) (P : Env → Store → Prop) (Q : SR → Prop) : (SR.rt v s).turn2 P Q = Q (.rt v s) := nr rfl
@[simp] theorem turn2_exc (c : String) (e : Env) (s : Store) (P : Env → Store → Prop) (Q : SR → Prop) : (SR.exc c e s).turn2 P Q = Q (.exc c e s) := nr rfl
/-- a run of all turns -/
theorem forL_inv {w : Walk} {n : Nat} {tg : Tg} {body : Env → Store → SR} {env : Env} {s : Store} (I : Nat → Env → Store → Prop) (h0 : I 0 env s)
    (hs : ∀ i d env s, w.items[i]? = some d → I i env s → w.ok s = true ∧ ∃ e1, bindT tg d env = some e1 ∧ (body e1 s).turn fun e2 s2 => I (i + 1) (e2.map (kill n)) (s2.take n))
    (he : ∀ env s, I w.items.length env s → w.ok s = true) : ∃ env' s', forL w n tg body w.items env s = .nx env' s' ∧ I w.items.length env' s' := by
  have go : ∀ (ds : List D) (i : Nat) (env : Env) (s : Store), w.items.drop i = ds → i ≤ w.items.length → I i env s → ∃ env' s', forL w n tg body ds env s = .nx env' s' ∧ I w.items.length env' s' := by
    intro ds
    induction ds with
    | nil =>
      intro i env s hd hi h
      have : i = w.items.length := by
        have := congrArg List.length hd
        rw [List.length_drop] at this
        simp at this
        omega
      subst this
      exact ⟨env, s, by rw [forL, if_pos (he _ _ h)], h⟩
    | cons d ds ih =>
      intro i env s hd hi h
      have hdi : w.items[i]? = some d := by
        have := congrArg (fun l : List D => l[0]?) hd
        simp only [List.getElem?_drop, Nat.add_zero] at this
        exact this
      have hdrop : w.items.drop (i + 1) = ds := by
        have := congrArg (fun l : List D => l.drop 1) hd
        simp only [List.drop_drop] at this
        exact this
      have hil : i < w.items.length := by
        rcases Nat.lt_or_ge i w.items.length with q | q
        · exact q
        · rw [List.getElem?_eq_none q] at hdi; cases hdi
      obtain ⟨ok, e1, hb, ht⟩ := hs i d env s hdi h
      obtain ⟨e2, s2, hr, hI⟩ := SR.turn_ex ht
      obtain ⟨env', s', h1, h2⟩ := ih (i + 1) _ _ hdrop hil hI
      refine ⟨env', s', ?_, h2⟩
      rw [forL, if_pos ok, hb]
      rcases hr with hr | hr
      · simp only [hr]; exact h1
      · simp only [hr]; exact h1
  exact go w.items 0 env s rfl (Nat.zero_le _) h0
/-- .. that may return -/
theorem forL_inv2 {w : Walk} {n : Nat} {tg : Tg} {body : Env → Store → SR} {env : Env} {s : Store} (I : Nat → Env → Store → Prop) (Q : SR → Prop) (h0 : I 0 env s)
    (hs : ∀ i d env s, w.items[i]? = some d → I i env s → w.ok s = true ∧ ∃ e1, bindT tg d env = some e1 ∧ (body e1 s).turn2 (fun e2 s2 => I (i + 1) (e2.map (kill n)) (s2.take n)) Q)
    (he : ∀ env s, I w.items.length env s → w.ok s = true) : (∃ env' s', forL w n tg body w.items env s = .nx env' s' ∧ I w.items.length env' s') ∨ Q (forL w n tg body w.items env s) := by
  have go : ∀ (ds : List D) (i : Nat) (env : Env) (s : Store), w.items.drop i = ds → i ≤ w.items.length → I i env s → (∃ env' s', forL w n tg body ds env s = .nx env' s' ∧ I w.items.length env' s') ∨ Q (forL w n tg body ds env s) := by
    intro ds
    induction ds with
    | nil =>
      intro i env s hd hi h
      have : i = w.items.length := by
        have := congrArg List.length hd
        rw [List.length_drop] at this
        simp at this
        omega
      subst this
      exact .inl ⟨env, s, by rw [forL, if_pos (he _ _ h)], h⟩
    | cons d ds ih =>
      intro i env s hd hi h
      have hdi : w.items[i]? = some d := by
        have := congrArg (fun l : List D => l[0]?) hd
        simp only [List.getElem?_drop, Nat.add_zero] at this
        exact this
      have hdrop : w.items.drop (i + 1) = ds := by
        have := congrArg (fun l : List D => l.drop 1) hd
        simp only [List.drop_drop] at this
        exact this
      have hil : i < w.items.length := by
        rcases Nat.lt_or_ge i w.items.length with q | q
        · exact q
        · rw [List.getElem?_eq_none q] at hdi; cases hdi
      obtain ⟨ok, e1, hb, hr⟩ := hs i d env s hdi h
      rw [forL, if_pos ok, hb]
      show _ ∨ Q (match body e1 s with
          | .nx e2 s2 => forL w n tg body ds (e2.map (kill n)) (s2.take n)
          | .ct e2 s2 => forL w n tg body ds (e2.map (kill n)) (s2.take n)
          | r => r)
      cases e : body e1 s with
      | nx a b =>
        rw [e] at hr
        simp only [e]
        exact ih (i + 1) _ _ hdrop hil hr
      | ct a b =>
        rw [e] at hr
        simp only [e]
        exact ih (i + 1) _ _ hdrop hil hr
      | rt a b => rw [e] at hr; exact .inr hr
      | exc a b c => rw [e] at hr; exact .inr hr
      | err => rw [e] at hr; exact .inr hr
  exact go w.items 0 env s rfl (Nat.zero_le _) h0
/-- a comprehension whose parts leave the store -/
theorem lcL_map {w : Walk} {tg : Tg} {test : Env → Store → R Bool} {elt : Env → Store → R Val} {env : Env} {s : Store} (p : D → Bool) (f : D → D) (ds : List D) (acc : List D) (hw : w.ok s = true) (hl : acc.length + ds.length ≤ line)
    (h : ∀ d ∈ ds, ∃ e1, bindT tg d env = some e1 ∧ test e1 s = .ok (p d) s ∧ (p d = true → ∃ v, elt e1 s = .ok v s ∧ toD v s = some (f d, s))) :
    lcL w tg test elt env ds acc s = .ok (acc ++ (ds.filter p).map f) s := by
  induction ds generalizing acc with
  | nil => rw [lcL, if_pos hw]; simp
  | cons d ds ih =>
    obtain ⟨e1, hb, ht, he⟩ := h d List.mem_cons_self
    simp only [List.length_cons] at hl
    rw [lcL, if_pos (by rw [hw, Bool.true_and, decide_eq_true_eq]; omega), hb]
    cases hp : p d with
    | false =>
      rw [hp] at ht
      simp only [ht]
      rw [ih acc (by omega) fun x hx => h x (List.mem_cons_of_mem _ hx), List.filter_cons_of_neg (by rw [hp]; exact Bool.false_ne_true)]
    | true =>
      rw [hp] at ht
      obtain ⟨v, hv, hd⟩ := he hp
      simp only [ht, hv, hd]
      rw [ih (acc ++ [f d]) (by rw [List.length_append]; simp only [List.length_cons, List.length_nil]; omega) fun x hx => h x (List.mem_cons_of_mem _ hx), List.filter_cons_of_pos hp]
      simp
/-- a while loop: a measure -/
theorem whileL_inv {n : Nat} {test : Env → Store → R Bool} {body : Env → Store → SR} (I : Nat → Env → Store → Prop) (J : Env → Store → Prop)
    (hs : ∀ k env s, I k env s → (∃ s1, test env s = .ok false s1 ∧ J env s1) ∨ ∃ s1, test env s = .ok true s1 ∧ (body env s1).turn fun e2 s2 => ∃ k', k' < k ∧ I k' (e2.map (kill n)) (s2.take n)) :
    ∀ (fuel k : Nat) (env : Env) (s : Store), I k env s → k < fuel → ∃ env' s', whileL n test body fuel env s = .nx env' s' ∧ J env' s'
  | 0, k, env, s, _, h => absurd h (Nat.not_lt_zero _)
  | f + 1, k, env, s, h, hm => by
    rcases hs k env s h with ⟨s1, ht, hj⟩ | ⟨s1, ht, hb⟩
    · exact ⟨env, s1, by rw [whileL, ht], hj⟩
    · obtain ⟨e2, s2, hb, k', hk, hI⟩ := SR.turn_ex hb
      obtain ⟨env', s', h1, h2⟩ := whileL_inv I J hs f k' _ _ hI (by omega)
      refine ⟨env', s', ?_, h2⟩
      rw [whileL, ht]
      rcases hb with hb | hb
      · simp only [hb]; exact h1
      · simp only [hb]; exact h1

/-! ### calls -/
def cxΔ (Δ : Prog) (m n : Nat) : Cxt := ⟨Φ Δ m n, Δ.glob, m, Δ.isx, fun f => (Δ.fn f).isSome, Δ.sub, Δ.hnd, Δ.knd⟩
/-- the def stands there, with so many parameters and names -/
structure Has (Δ : Prog) (f : String) (k n : Nat) (b : Ss) : Prop where
  ex : ∃ ps ns, Δ.fn f = some ⟨ps, ns, b⟩ ∧ ps.length = k ∧ ns.length = n
theorem Has.run {Δ : Prog} {f : String} {k n m d : Nat} {b : Ss} {args : List Val} {s : Store} (h : Has Δ f k n b) (e : args.length = k) :
    Φ Δ m (d + 1) f args s = endF (evSs (cxΔ Δ m d) b (args.map some ++ List.replicate (n - args.length) none) s) s.length := by
  obtain ⟨ps, ns, hf, h1, h2⟩ := h.ex
  unfold Φ
  rw [hf]
  show runF ⟨ps, ns, b⟩ (cxΔ Δ m d) args s = _
  unfold runF
  rw [if_pos (by show args.length = ps.length; rw [e, h1])]
  unfold envF
  rw [show (⟨ps, ns, b⟩ : Fn).ns.length = n from h2]
theorem Has.has {Δ : Prog} {f : String} {k n m d : Nat} {b : Ss} (h : Has Δ f k n b) : (cxΔ Δ m d).has f = true := by
  obtain ⟨ps, ns, hf, _, _⟩ := h.ex
  show (Δ.fn f).isSome = true
  rw [hf]
  rfl
theorem cx_call (Δ : Prog) (m n : Nat) (f : String) (vs : List Val) (s : Store) : (cxΔ Δ m n).call f vs s = Φ Δ m n f vs s := nr rfl
@[simp] theorem cx_fuel (Δ : Prog) (m n : Nat) : (cxΔ Δ m n).fuel = m := nr rfl
@[simp] theorem cx_glob (Δ : Prog) (m n : Nat) (g : String) : (cxΔ Δ m n).glob g = Δ.glob g := nr rfl
end Pv

/-! Bodies of defs that many laws have (printed by gen.py). -/
namespace Pv
/- slots of links_of: 0 tree, 1 links, 2 tops, 3 place, 4 branches, 5 left, 6 right -/
def b_links_of_1 : Ss :=
 (.cons (.set 4 (.ix (.ix (.var 0) (.var 3)) (.int 0)))
 (.cons (.set 5 .non)
 (.cons (.set 6 .non)
 (.cons (.ife (.cmp .ge (.var 4) (.int 2)) (.cons (.set 6 (.meth .pop (.var 2) .nil))
 .nil) .nil)
 (.cons (.ife (.or (.cons (.cmp .eq (.var 4) (.int 1)) (.cons (.cmp .eq (.var 4) (.int 3)) .nil))) (.cons (.set 5 (.meth .pop (.var 2) .nil))
 .nil) .nil)
 (.cons (.ex (.meth .append (.var 1) (.cons (.tup (.cons (.var 5) (.cons (.var 6) .nil))) .nil)))
 (.cons (.ex (.meth .append (.var 2) (.cons (.var 3) .nil)))
 .nil)))))))
def b_links_of : Ss :=
 (.cons (.set 1 (.list .nil))
 (.cons (.set 2 (.list .nil))
 (.cons (.forr (.name 3) (.range (.cons (.blt .len (.cons (.var 0) .nil)) .nil)) b_links_of_1)
 (.cons (.ret (.blt .tuple (.cons (.var 1) .nil)))
 .nil))))
/- slots of sizes_of: 0 tree, 1 sizes, 2 left, 3 right, 4 size -/
def b_sizes_of_1 : Ss :=
 (.cons (.set 4 (.int 1))
 (.cons (.ife (.cmp .isnot (.var 2) .non) (.cons (.set 4 (.bin .add (.var 4) (.ix (.var 1) (.var 2))))
 .nil) .nil)
 (.cons (.ife (.cmp .isnot (.var 3) .non) (.cons (.set 4 (.bin .add (.var 4) (.ix (.var 1) (.var 3))))
 .nil) .nil)
 (.cons (.ex (.meth .append (.var 1) (.cons (.var 4) .nil)))
 .nil))))
def b_sizes_of : Ss :=
 (.cons (.set 1 (.list .nil))
 (.cons (.forr (.tup (.cons (.name 2) (.cons (.name 3) .nil))) (.val (.call "links_of" (.cons (.var 0) .nil))) b_sizes_of_1)
 (.cons (.ret (.blt .tuple (.cons (.var 1) .nil)))
 .nil)))
/- slots of _law_cell: 0 _law_script, 1 _law_k -/
def b__law_cell : Ss :=
 (.cons (.ife (.cmp .eq (.blt .len (.cons (.var 0) .nil)) (.int 0)) (.cons (.ret (.int 0))
 .nil) .nil)
 (.cons (.ret (.ix (.var 0) (.bin .mod (.var 1) (.blt .len (.cons (.var 0) .nil)))))
 .nil))
/- slots of _law_mixed: 0 _law_cell_here, 1 _law_k, 2 _law_salt, 3 _law_first -/
def b__law_mixed : Ss :=
 (.cons (.set 3 (.bin .mod (.bin .mul (.bin .add (.bin .add (.bin .add (.var 0) (.bin .mul (.bin .mul (.int 7) (.var 1)) (.var 1))) (.bin .mul (.int 13) (.var 1))) (.var 2)) (.int 69621)) (.int 2147483647)))
 (.cons (.ret (.bin .mod (.bin .mul (.bin .mod (.bin .add (.bin .add (.bin .mul (.var 3) (.bin .add (.bin .fdiv (.var 3) (.int 1009)) (.int 3))) (.bin .mul (.int 31) (.var 1))) (.var 2)) (.int 2147483629)) (.int 48271)) (.int 1000000007)))
 .nil))
/- slots of _law_draws: 0 _law_cell_here, 1 _law_many, 2 _law_salt, 3 _law_found, 4 _law_rest, 5 _law_k -/
def b__law_draws_1 : Ss :=
 (.cons (.ife (.cmp .gt (.var 4) (.int 0)) (.cons (.ex (.meth .append (.var 3) (.cons (.bin .mod (.var 4) (.int 64)) .nil)))
 (.cons (.set 4 (.bin .fdiv (.var 4) (.int 64)))
 .nil)) (.cons (.ex (.meth .append (.var 3) (.cons (.call "_law_mixed" (.cons (.var 0) (.cons (.var 5) (.cons (.var 2) .nil)))) .nil)))
 .nil))
 .nil)
def b__law_draws : Ss :=
 (.cons (.set 3 (.list .nil))
 (.cons (.set 4 (.int 0))
 (.cons (.ife (.cmp .ge (.var 0) (.bin .pow (.int 10) (.int 18))) (.cons (.set 4 (.var 0))
 .nil) .nil)
 (.cons (.forr (.name 5) (.range (.cons (.var 1) .nil)) b__law_draws_1)
 (.cons (.ret (.var 3))
 .nil)))))
/- slots of _law_size: 0 _law_cell_here, 1 _law_salt, 2 _law_most, 3 _law_draws_here, 4 _law_size_here -/
def b__law_size : Ss :=
 (.cons (.set 3 (.frz (.call "_law_draws" (.cons (.var 0) (.cons (.int 3) (.cons (.var 1) .nil))))))
 (.cons (.set 4 (.bin .mod (.bin .add (.ix (.var 3) (.int 0)) (.bin .mul (.int 64) (.ix (.var 3) (.int 1)))) (.bin .add (.var 2) (.int 1))))
 (.cons (.ife (.cmp .eq (.bin .mod (.ix (.var 3) (.int 2)) (.int 3)) (.int 0)) (.cons (.ret (.bin .mod (.var 4) (.int 7)))
 .nil) .nil)
 (.cons (.ret (.var 4))
 .nil))))
/- slots of _law_same: 0 _law_found, 1 _law_due, 2 _law_k -/
def b__law_same_1 : Ss :=
 (.cons (.ife (.not (.call "_law_same" (.cons (.ix (.var 0) (.var 2)) (.cons (.ix (.var 1) (.var 2)) .nil)))) (.cons (.ret (.bl false))
 .nil) .nil)
 .nil)
def b__law_same : Ss :=
 (.cons (.ife (.isi .tup (.var 1)) (.cons (.ife (.or (.cons (.not (.isi .tup (.var 0))) (.cons (.cmp .ne (.blt .len (.cons (.var 0) .nil)) (.blt .len (.cons (.var 1) .nil))) .nil))) (.cons (.ret (.bl false))
 .nil) .nil)
 (.cons (.forr (.name 2) (.range (.cons (.blt .len (.cons (.var 1) .nil)) .nil)) b__law_same_1)
 (.cons (.ret (.bl true))
 .nil))) .nil)
 (.cons (.ife (.cmp .is (.var 1) .non) (.cons (.ret (.cmp .is (.var 0) .non))
 .nil) .nil)
 (.cons (.ife (.isi .bool (.var 1)) (.cons (.ret (.and (.cons (.isi .bool (.var 0)) (.cons (.cmp .eq (.var 0) (.var 1)) .nil))))
 .nil) .nil)
 (.cons (.ife (.isi .int (.var 1)) (.cons (.ret (.and (.cons (.isi .int (.var 0)) (.cons (.not (.isi .bool (.var 0))) (.cons (.cmp .eq (.var 0) (.var 1)) .nil)))))
 .nil) .nil)
 (.cons (.ret (.and (.cons (.isi .str (.var 0)) (.cons (.cmp .eq (.var 0) (.var 1)) .nil))))
 .nil)))))
/- slots of _law_pool: 0 _law_cell_here, 1 _law_many, 2 _law_salt, 3 _law_rest, 4 _law_found, 5 _law_d, 6 _law_at -/
def b__law_pool_1 : Ss :=
 (.cons (.set 6 (.bin .mod (.var 5) (.blt .len (.cons (.var 3) .nil))))
 (.cons (.set 4 (.bin .add (.var 4) (.ix (.var 3) (.var 6))))
 (.cons (.set 3 (.bin .add (.slice0 (.var 3) (.var 6)) (.slice1 (.var 3) (.bin .add (.var 6) (.int 1)))))
 .nil)))
def b__law_pool : Ss :=
 (.cons (.set 3 (.str [65, 66, 67, 68, 69, 70, 71, 72, 73, 74, 75, 76, 77, 78, 79, 80, 81, 82, 83, 84, 85, 86, 87, 88, 89, 90, 97, 98, 99, 100, 101, 102, 103, 104, 105, 106, 107, 108, 109, 110, 111, 112, 113, 114, 115, 116, 117, 118, 119, 120, 121, 122]))
 (.cons (.set 4 (.str []))
 (.cons (.forr (.name 5) (.val (.call "_law_draws" (.cons (.var 0) (.cons (.var 1) (.cons (.var 2) .nil))))) b__law_pool_1)
 (.cons (.ret (.var 4))
 .nil))))
/- slots of _law_marks: 0 _law_pool_here, 1 _law_number, 2 _law_k -/
def x__law_marks_1 : E :=
 (.ix (.var 0) (.var 2))
def y__law_marks_1 : Es :=
 (.cons (.cmp .eq (.bin .band (.bin .shr (.var 1) (.var 2)) (.int 1)) (.int 1)) .nil)
def b__law_marks : Ss :=
 (.cons (.ret (.meth .join (.str []) (.cons (.blt .sorted (.cons (.lc x__law_marks_1 (.name 2) (.range (.cons (.blt .len (.cons (.var 0) .nil)) .nil)) y__law_marks_1) .nil)) .nil)))
 .nil)
/- slots of _law_wood: 0 _law_draws_here, 1 _law_pool_here, 2 _law_most, 3 _law_found, 4 _law_high, 5 _law_d, 6 _law_branches, 7 _law_many -/
def b__law_wood_1 : Ss :=
 (.cons (.set 6 (.bin .mod (.var 5) (.int 4)))
 (.cons (.ife (.cmp .gt (.bin .fdiv (.bin .add (.var 6) (.int 1)) (.int 2)) (.var 4)) (.cons (.set 6 (.int 0))
 .nil) .nil)
 (.cons (.ife (.and (.cons (.cmp .gt (.bin .sub (.bin .add (.bin .add (.blt .len (.cons (.var 3) .nil)) (.var 4)) (.int 1)) (.bin .fdiv (.bin .add (.var 6) (.int 1)) (.int 2))) (.var 2)) (.cons (.cmp .gt (.var 4) (.int 1)) .nil))) (.cons (.set 6 (.int 3))
 .nil) .nil)
 (.cons (.set 7 (.bin .fdiv (.bin .add (.var 6) (.int 1)) (.int 2)))
 (.cons (.ife (.cmp .le (.bin .sub (.bin .add (.bin .add (.blt .len (.cons (.var 3) .nil)) (.var 4)) (.int 1)) (.var 7)) (.var 2)) (.cons (.ex (.meth .append (.var 3) (.cons (.tup (.cons (.var 6) (.cons (.call "_law_marks" (.cons (.var 1) (.cons (.bin .mod (.bin .fdiv (.var 5) (.int 4)) (.int 16)) .nil))) .nil))) .nil)))
 (.cons (.set 4 (.bin .sub (.bin .add (.var 4) (.int 1)) (.var 7)))
 .nil)) .nil)
 .nil)))))
def t__law_wood_2 : E :=
 (.cmp .gt (.var 4) (.int 1))
def b__law_wood_3 : Ss :=
 (.cons (.ex (.meth .append (.var 3) (.cons (.tup (.cons (.int 3) (.cons (.ix (.ix (.var 3) (.bin .sub (.var 4) (.int 1))) (.int 1)) .nil))) .nil)))
 (.cons (.set 4 (.bin .sub (.var 4) (.int 1)))
 .nil))
def b__law_wood : Ss :=
 (.cons (.set 3 (.list .nil))
 (.cons (.set 4 (.int 0))
 (.cons (.forr (.name 5) (.val (.var 0)) b__law_wood_1)
 (.cons (.whil t__law_wood_2 b__law_wood_3)
 (.cons (.ret (.blt .tuple (.cons (.var 3) .nil)))
 .nil)))))
end Pv

/-! The evaluator's rows, as simp reads them. -/
namespace Pv
open PySem
def optR (o : Option Bool) (s : Store) : R Bool := match o with
  | some b => .ok b s
  | none => .err
def optV (o : Option Bool) (s : Store) : R Val := match o with
  | some b => .ok (.d (.bl b)) s
  | none => .err
@[simp] theorem optR_some (b : Bool) (s : Store) : optR (some b) s = .ok b s := nr rfl
@[simp] theorem optV_some (b : Bool) (s : Store) : optV (some b) s = .ok (.d (.bl b)) s := nr rfl
def SR.seq (r : SR) (f : Env → Store → SR) : SR := match r with
  | .nx e s => f e s
  | r => r
@[simp] theorem seq_nx (e : Env) (s : Store) (f : Env → Store → SR) : (SR.nx e s).seq f = f e s := nr rfl
@[simp] theorem seq_rt (v : Val) (s : Store) (f : Env → Store → SR) : (SR.rt v s).seq f = .rt v s := nr rfl
@[simp] theorem seq_ct (e : Env) (s : Store) (f : Env → Store → SR) : (SR.ct e s).seq f = .ct e s := nr rfl
@[simp] theorem seq_exc (c : String) (e : Env) (s : Store) (f : Env → Store → SR) : (SR.exc c e s).seq f = .exc c e s := nr rfl
def R.test (r : R Bool) (env : Env) (f g : Store → SR) : SR := match r with
  | .ok true s => f s
  | .ok false s => g s
  | .exc c s => .exc c env s
  | .err => .err
@[simp] theorem test_ok (b : Bool) (s : Store) (env : Env) (f g : Store → SR) : (R.ok b s).test env f g = if b = true then f s else g s := by cases b <;> rfl
@[simp] theorem test_exc (c : String) (s : Store) (env : Env) (f g : Store → SR) : (R.exc c s).test env f g = .exc c env s := nr rfl
def R.setR (r : R Val) (i : Nat) (env : Env) : SR := match r with
  | .ok (.new xs) s1 => .nx (env.set i (some (.ref s1.length))) (s1 ++ [.lst xs])
  | .ok v s1 => .nx (env.set i (some v)) s1
  | .exc c s1 => .exc c env s1
  | .err => .err
@[simp] theorem setR_d (d : D) (s : Store) (i : Nat) (env : Env) : (R.ok (.d d) s).setR i env = .nx (env.set i (some (.d d))) s := nr rfl
@[simp] theorem setR_ref (j : Nat) (s : Store) (i : Nat) (env : Env) : (R.ok (.ref j) s).setR i env = .nx (env.set i (some (.ref j))) s := nr rfl
@[simp] theorem setR_new (xs : List D) (s : Store) (i : Nat) (env : Env) : (R.ok (.new xs) s).setR i env = .nx (env.set i (some (.ref s.length))) (s ++ [.lst xs]) := nr rfl
@[simp] theorem setR_exc (c : String) (s : Store) (i : Nat) (env : Env) : (R.exc c s).setR i env = .exc c env s := nr rfl
def R.asgR (r : R Val) (tg : Tg) (env : Env) : SR := match r with
  | .ok (.d d) s1 => match bindT tg d env with
    | some e1 => .nx e1 s1
    | none => .err
  | .exc c s1 => .exc c env s1
  | _ => .err
@[simp] theorem asgR_d (d : D) (s : Store) (tg : Tg) (env : Env) : (R.ok (.d d) s).asgR tg env = match bindT tg d env with | some e1 => .nx e1 s | none => .err := nr rfl
@[simp] theorem asgR_exc (c : String) (s : Store) (tg : Tg) (env : Env) : (R.exc c s).asgR tg env = .exc c env s := nr rfl
def R.parR (r : R (Val × Val)) (i j : Nat) (env : Env) : SR := match r with
  | .ok (.d x, .d y) s1 => .nx ((env.set i (some (.d x))).set j (some (.d y))) s1
  | .exc c s1 => .exc c env s1
  | _ => .err
@[simp] theorem parR_ok (x y : D) (s : Store) (i j : Nat) (env : Env) : (R.ok (Val.d x, Val.d y) s).parR i j env = .nx ((env.set i (some (.d x))).set j (some (.d y))) s := nr rfl
def R.drop (r : R Val) (env : Env) : SR := match r with
  | .ok _ s1 => .nx env s1
  | .exc c s1 => .exc c env s1
  | .err => .err
@[simp] theorem drop_ok (v : Val) (s : Store) (env : Env) : (R.ok v s).drop env = .nx env s := nr rfl
@[simp] theorem drop_exc (c : String) (s : Store) (env : Env) : (R.exc c s : R Val).drop env = .exc c env s := nr rfl
def R.retR (r : R Val) (env : Env) : SR := match r with
  | .ok v s1 => .rt v s1
  | .exc c s1 => .exc c env s1
  | .err => .err
@[simp] theorem retR_ok (v : Val) (s : Store) (env : Env) : (R.ok v s).retR env = .rt v s := nr rfl
@[simp] theorem retR_exc (c : String) (s : Store) (env : Env) : (R.exc c s : R Val).retR env = .exc c env s := nr rfl
def R.walk (r : R Walk) (env : Env) (f : Walk → Store → SR) : SR := match r with
  | .ok w s1 => f w s1
  | .exc c s1 => .exc c env s1
  | .err => .err
@[simp] theorem walk_ok' (w : Walk) (s : Store) (env : Env) (f : Walk → Store → SR) : (R.ok w s).walk env f = f w s := nr rfl
@[simp] theorem walk_exc (c : String) (s : Store) (env : Env) (f : Walk → Store → SR) : (R.exc c s : R Walk).walk env f = .exc c env s := nr rfl
def D.shut (o : Option (D × Store)) : R Val := match o with
  | some (d, s2) => .ok (.d d) s2
  | none => .err
@[simp] theorem shut_some (d : D) (s : Store) : D.shut (some (d, s)) = .ok (.d d) s := nr rfl

def guardL (ds : List D) (r : R Val) : R Val := if ds.length ≤ line then r else .err
@[simp] theorem guardL_ok (ds : List D) (r : R Val) (h : ds.length ≤ line) : guardL ds r = r := if_pos h
def appG (xs : List D) (r : R Val) : R Val := if xs.length < line then r else .err
@[simp] theorem appG_ok (xs : List D) (r : R Val) (h : xs.length < line) : appG xs r = r := if_pos h
section
variable (cx : Cxt) (env : Env) (s : Store)
@[simp] theorem e_var (i : Nat) : evE cx (.var i) env s = match env[i]? with | some (some v) => .ok v s | _ => .err := by rw [evE] <;> rfl
@[simp] theorem e_int (i : Int) : evE cx (.int i) env s = .ok (.d (.int i)) s := by rw [evE]
@[simp] theorem e_str (x : Tx) : evE cx (.str x) env s = .ok (.d (.str x)) s := by rw [evE]
@[simp] theorem e_bl (b : Bool) : evE cx (.bl b) env s = .ok (.d (.bl b)) s := by rw [evE]
@[simp] theorem e_non : evE cx .non env s = .ok (.d .non) s := by rw [evE]
@[simp] theorem e_glob (g : String) : evE cx (.glob g) env s = match cx.glob g with | some d => .ok (.d d) s | none => .err := by rw [evE] <;> rfl
@[simp] theorem e_bin (o : Bop) (a b : E) : evE cx (.bin o a b) env s = (evE cx a env s).bind fun x s1 => (evE cx b env s1).bind fun y s2 => binV o x y s2 := by rw [evE]
@[simp] theorem e_neg (a : E) : evE cx (.neg a) env s = (evE cx a env s).bind fun x s1 => match x with | .d (.int i) => .ok (.d (.int (-i))) s1 | _ => .err := by rw [evE] <;> rfl
@[simp] theorem e_inv (a : E) : evE cx (.inv a) env s = (evE cx a env s).bind fun x s1 => match x with | .d (.int i) => .ok (.d (.int (Builtin.bitNot i))) s1 | _ => .err := by rw [evE] <;> rfl
@[simp] theorem e_not (a : E) : evE cx (.not a) env s = (evE cx a env s).bind fun x s1 => match x with | .d (.bl b) => .ok (.d (.bl (!b))) s1 | _ => .err := by rw [evE] <;> rfl
@[simp] theorem e_cmp (o : Cop) (a b : E) : evE cx (.cmp o a b) env s = (evE cx a env s).bind fun x s1 => (evE cx b env s1).bind fun y s2 => optV (cmpV o x y s2) s2 := by rw [evE] <;> rfl
@[simp] theorem e_chain (o1 o2 : Cop) (a b c : E) : evE cx (.chain o1 o2 a b c) env s = (evE cx a env s).bind fun x s1 => (evE cx b env s1).bind fun y s2 => match cmpV o1 x y s2 with
    | some true => (evE cx c env s2).bind fun z s3 => optV (cmpV o2 y z s3) s3
    | some false => .ok (.d (.bl false)) s2
    | none => .err := by rw [evE] <;> rfl
@[simp] theorem e_and (es : Es) : evE cx (.and es) env s = evAnd cx es env s := by rw [evE]
@[simp] theorem e_or (es : Es) : evE cx (.or es) env s = evOr cx es env s := by rw [evE]
@[simp] theorem e_ite (t a b : E) : evE cx (.ite t a b) env s = (evT cx t env s).bind fun k s1 => if k = true then evE cx a env s1 else evE cx b env s1 := by rw [evE]
@[simp] theorem e_tup (es : Es) : evE cx (.tup es) env s = (evEs cx es env s).bind fun vs s1 => match toDs vs s1 with
    | some (ds, s2) => guardL ds (.ok (.d (.tup ds)) s2)
    | none => .err := by rw [evE] <;> rfl
@[simp] theorem e_list (es : Es) : evE cx (.list es) env s = (evEs cx es env s).bind fun vs s1 => match toDs vs s1 with
    | some (ds, s2) => guardL ds (.ok (.new ds) s2)
    | none => .err := by rw [evE] <;> rfl
@[simp] theorem e_ix (a i : E) : evE cx (.ix a i) env s = (evE cx a env s).bind fun x s1 => (evE cx i env s1).bind fun y s2 => ixV x y s2 := by rw [evE]
@[simp] theorem e_slice (a lo hi : E) : evE cx (.slice a lo hi) env s = (evE cx a env s).bind fun x s1 => (evE cx lo env s1).bind fun l s2 => match l with
    | .d (.int i) => (evE cx hi env s2).bind fun h s3 => match h with
      | .d (.int j) => sliceV x (some i) (some j) s3
      | _ => .err
    | _ => .err := by rw [evE] <;> rfl
@[simp] theorem e_slice0 (a hi : E) : evE cx (.slice0 a hi) env s = (evE cx a env s).bind fun x s1 => (evE cx hi env s1).bind fun h s2 => match h with
    | .d (.int j) => sliceV x none (some j) s2
    | _ => .err := by rw [evE] <;> rfl
@[simp] theorem e_slice1 (a lo : E) : evE cx (.slice1 a lo) env s = (evE cx a env s).bind fun x s1 => (evE cx lo env s1).bind fun l s2 => match l with
    | .d (.int i) => sliceV x (some i) none s2
    | _ => .err := by rw [evE] <;> rfl
@[simp] theorem e_rev (a : E) : evE cx (.rev a) env s = (evE cx a env s).bind fun x s1 => revV x s1 := by rw [evE]
theorem e_call' (f : String) (es : Es) : evE cx (.call f es) env s = if cx.has f = true then (evEs cx es env s).bind fun vs s1 => cx.call f (vs.map argV) s1 else .err := by rw [evE]
@[simp] theorem e_call (Δ : Prog) (m d : Nat) (f : String) (es : Es) : evE (cxΔ Δ m d) (.call f es) env s = if (cxΔ Δ m d).has f = true then (evEs (cxΔ Δ m d) es env s).bind fun vs s1 => Φ Δ m d f (vs.map argV) s1 else .err := by rw [evE] <;> rfl
@[simp] theorem e_blt (f : Blt) (es : Es) : evE cx (.blt f es) env s = (evEs cx es env s).bind fun vs s1 => bltV f vs s1 := by rw [evE]
@[simp] theorem e_meth (mm : Mt) (a : E) (es : Es) : evE cx (.meth mm a es) env s = (evE cx a env s).bind fun x s1 => if recvOk mm x s1 = true then (evEs cx es env s1).bind fun vs s2 => methV mm x vs s2 else .err := by rw [evE]
@[simp] theorem e_lc (elt : E) (tg : Tg) (it : It) (ifs : Es) : evE cx (.lc elt tg it ifs) env s = (evI cx it env s).bind fun w s1 =>
      (lcL w tg (fun e s => evC cx ifs e s) (fun e s => evE cx elt e s) (wipeE env (slotsT tg)) w.items [] s1).bind fun ds s2 => .ok (.new ds) s2 := by rw [evE]
@[simp] theorem e_frz (a : E) : evE cx (.frz a) env s = (evE cx a env s).bind fun v s1 => D.shut (toD v s1) := by rw [evE] <;> rfl
@[simp] theorem e_isi (t : Ty) (a : E) : evE cx (.isi t a) env s = (evE cx a env s).bind fun v s1 => optV (isiV t v) s1 := by rw [evE] <;> rfl
@[simp] theorem es_nil : evEs cx .nil env s = .ok [] s := by rw [evEs]
@[simp] theorem es_cons (e : E) (es : Es) : evEs cx (.cons e es) env s = (evE cx e env s).bind fun v s1 => (evEs cx es env s1).bind fun vs s2 => .ok (v :: vs) s2 := by rw [evEs]
@[simp] theorem and_one (e : E) : evAnd cx (.cons e .nil) env s = evE cx e env s := by rw [evAnd]
@[simp] theorem and_more (e e1 : E) (es : Es) : evAnd cx (.cons e (.cons e1 es)) env s = (evE cx e env s).bind fun x s1 => match x with
      | .d (.bl true) => evAnd cx (.cons e1 es) env s1
      | .d (.bl false) => .ok (.d (.bl false)) s1
      | _ => .err := by rw [evAnd] <;> rfl
@[simp] theorem or_one (e : E) : evOr cx (.cons e .nil) env s = evE cx e env s := by rw [evOr]
@[simp] theorem or_more (e e1 : E) (es : Es) : evOr cx (.cons e (.cons e1 es)) env s = (evE cx e env s).bind fun x s1 => match x with
      | .d (.bl true) => .ok (.d (.bl true)) s1
      | .d (.bl false) => evOr cx (.cons e1 es) env s1
      | _ => .err := by rw [evOr] <;> rfl
@[simp] theorem i_val' (e : E) : evI cx (.val e) env s = (evE cx e env s).bind fun v s1 => walkV v s1 := by rw [evI]
@[simp] theorem i_range' (es : Es) : evI cx (.range es) env s = (evEs cx es env s).bind fun vs s1 => rangeV vs s1 := by rw [evI]
@[simp] theorem t_not' (a : E) : evT cx (.not a) env s = (evT cx a env s).bind fun k s1 => .ok (!k) s1 := by rw [evT]
@[simp] theorem t_and' (es : Es) : evT cx (.and es) env s = evTA cx es env s := by rw [evT]
@[simp] theorem t_or' (es : Es) : evT cx (.or es) env s = evTO cx es env s := by rw [evT]
@[simp] theorem t_cmp' (o : Cop) (a b : E) : evT cx (.cmp o a b) env s = (evE cx a env s).bind fun x s1 => (evE cx b env s1).bind fun y s2 => optR (cmpV o x y s2) s2 := by rw [evT] <;> rfl
@[simp] theorem t_chain' (o1 o2 : Cop) (a b c : E) : evT cx (.chain o1 o2 a b c) env s = (evE cx a env s).bind fun x s1 => (evE cx b env s1).bind fun y s2 => match cmpV o1 x y s2 with
    | some true => (evE cx c env s2).bind fun z s3 => optR (cmpV o2 y z s3) s3
    | some false => .ok false s2
    | none => .err := by rw [evT] <;> rfl
@[simp] theorem t_isi' (t : Ty) (a : E) : evT cx (.isi t a) env s = (evE cx a env s).bind fun v s1 => optR (isiV t v) s1 := by rw [evT] <;> rfl
@[simp] theorem t_var' (i : Nat) : evT cx (.var i) env s = match env[i]? with | some (some v) => optR (truV v s) s | _ => .err := by rw [evT] <;> rfl
@[simp] theorem t_ix' (a i : E) : evT cx (.ix a i) env s = (evE cx a env s).bind fun x s1 => (evE cx i env s1).bind fun y s2 => (ixV x y s2).bind fun v s3 => optR (truV v s3) s3 := by rw [evT] <;> rfl
@[simp] theorem t_call' (Δ : Prog) (m d : Nat) (f : String) (es : Es) : evT (cxΔ Δ m d) (.call f es) env s = if (cxΔ Δ m d).has f = true then (evEs (cxΔ Δ m d) es env s).bind fun vs s1 => (Φ Δ m d f (vs.map argV) s1).bind fun v s2 => optR (truV v s2) s2 else .err := by rw [evT] <;> rfl
@[simp] theorem t_blt' (f : Blt) (es : Es) : evT cx (.blt f es) env s = (evEs cx es env s).bind fun vs s1 => (bltV f vs s1).bind fun v s2 => optR (truV v s2) s2 := by rw [evT] <;> rfl
@[simp] theorem ta_nil' : evTA cx .nil env s = .ok true s := by rw [evTA]
@[simp] theorem ta_cons' (e : E) (es : Es) : evTA cx (.cons e es) env s = (evT cx e env s).bind fun k s1 => if k = true then evTA cx es env s1 else .ok false s1 := by rw [evTA]
@[simp] theorem to_nil' : evTO cx .nil env s = .ok false s := by rw [evTO]
@[simp] theorem to_cons' (e : E) (es : Es) : evTO cx (.cons e es) env s = (evT cx e env s).bind fun k s1 => if k = true then .ok true s1 else evTO cx es env s1 := by rw [evTO]
@[simp] theorem c_nil' : evC cx .nil env s = .ok true s := by rw [evC]
@[simp] theorem c_one' (e : E) : evC cx (.cons e .nil) env s = evT cx e env s := by rw [evC]
@[simp] theorem s_set' (i : Nat) (e : E) : evS cx (.set i e) env s = (evE cx e env s).setR i env := by rw [evS] <;> rfl
@[simp] theorem s_asg' (tg : Tg) (e : E) : evS cx (.asg tg e) env s = (evE cx e env s).asgR tg env := by rw [evS] <;> rfl
@[simp] theorem s_par' (i j : Nat) (a b : E) : evS cx (.par i j a b) env s = ((evE cx a env s).bind fun x s1 => (evE cx b env s1).bind fun y s2 => .ok (x, y) s2).parR i j env := by
  rw [evS]
  generalize ((evE cx a env s).bind fun x s1 => (evE cx b env s1).bind fun y s2 => R.ok (x, y) s2) = z
  rcases z with ⟨⟨x, y⟩, s1⟩ | ⟨c, s1⟩ | _
  · cases x <;> cases y <;> rfl
  · rfl
  · rfl
@[simp] theorem s_setix' (a i v : E) : evS cx (.setix a i v) env s = ((evE cx v env s).bind fun x s1 => (evE cx a env s1).bind fun o s2 => (evE cx i env s2).bind fun k s3 => setV x o k s3).drop env := by rw [evS] <;> rfl
@[simp] theorem s_ex' (e : E) : evS cx (.ex e) env s = (evE cx e env s).drop env := by rw [evS] <;> rfl
@[simp] theorem s_ret' (e : E) : evS cx (.ret e) env s = (evE cx e env s).retR env := by rw [evS] <;> rfl
@[simp] theorem s_retN' : evS cx .retN env s = .rt (.d .non) s := by rw [evS]
@[simp] theorem s_ife' (t : E) (a b : Ss) : evS cx (.ife t a b) env s = (evT cx t env s).test env (fun s1 => evSs cx a env s1) (fun s1 => evSs cx b env s1) := by rw [evS] <;> rfl
@[simp] theorem s_for' (tg : Tg) (it : It) (b : Ss) : evS cx (.forr tg it b) env s = (evI cx it env s).walk env fun w s1 => forL w s1.length tg (fun e s => evSs cx b e s) w.items env s1 := by rw [evS] <;> rfl
@[simp] theorem s_whil' (t : E) (b : Ss) : evS cx (.whil t b) env s = whileL s.length (fun e s => evT cx t e s) (fun e s => evSs cx b e s) cx.fuel env s := by rw [evS]
@[simp] theorem s_rais' (c : String) : evS cx (.rais c) env s = if cx.isx c = true then .exc c env s else .err := by rw [evS]
@[simp] theorem s_pass' : evS cx .pass env s = .nx env s := by rw [evS]
@[simp] theorem s_cont' : evS cx .cont env s = .ct env s := by rw [evS]
@[simp] theorem ss_nil' : evSs cx .nil env s = .nx env s := by rw [evSs]
@[simp] theorem ss_cons' (st : S) (ss : Ss) : evSs cx (.cons st ss) env s = (evS cx st env s).seq (evSs cx ss) := by rw [evSs] <;> rfl
end

@[simp] theorem cx_isx (Δ : Prog) (m n : Nat) (c : String) : (cxΔ Δ m n).isx c = Δ.isx c := nr rfl
@[simp] theorem cx_sub (Δ : Prog) (m n : Nat) (c t : String) : (cxΔ Δ m n).sub c t = Δ.sub c t := nr rfl
@[simp] theorem cx_hnd (Δ : Prog) (m n : Nat) (c t : String) : (cxΔ Δ m n).hnd c t = Δ.hnd c t := nr rfl
@[simp] theorem cx_knd (Δ : Prog) (m n : Nat) (f : String) : (cxΔ Δ m n).knd f = Δ.knd f := nr rfl
/-- a body that runs through -/
theorem tryN {cx : Cxt} {b : Ss} {c : String} {i : Nat} {h : List HS} {env e1 : Env} {s s1 : Store} (hc : (cx.hnd c c).isSome = true) (e : evSs cx b env s = .nx e1 s1) : evS cx (.trye b c i h) env s = .nx e1 s1 := by
  rw [evS, if_pos hc, e]
theorem tryX {cx : Cxt} {b : Ss} {c c' : String} {i : Nat} {h : List HS} {env e1 : Env} {s s1 : Store} (hc : (cx.hnd c c).isSome = true) (e : evSs cx b env s = .exc c' e1 s1) (hh : cx.hnd c' c = some true) (hi : i < e1.length) :
    evS cx (.trye b c i h) env s = evHS cx c' h (e1.set i none) s1 := by
  rw [evS, if_pos hc, e]
  simp only [hh]
  rw [if_pos hi]
/-- return ('refused', kinds(e)) -/
theorem hs_kinds {cx : Cxt} {c f : String} {x : Tx} {ts : List String} {bs : List D} {env : Env} {s : Store} (hk : cx.knd f = some ts) (hb : subs cx c ts = some bs) (hl : bs.length ≤ line) :
    evHS cx c [.ret (.tup (.cons (.str x) (.cons (.kinds f) .nil)))] env s = .rt (.d (.tup [.str x, .tup bs])) s := by
  have h1 : evH cx c env (.kinds f) = some (.tup bs) := by
    rw [evH, hk]
    simp only [hb]
    rw [if_pos hl]
  have h2 : evHs cx c env (.cons (.str x) (.cons (.kinds f) .nil)) = some [.str x, .tup bs] := by
    rw [evHs, evH]
    simp only []
    rw [evHs, h1]
    simp only []
    rw [evHs]
  have h3 : evH cx c env (.tup (.cons (.str x) (.cons (.kinds f) .nil))) = some (.tup [.str x, .tup bs]) := by
    rw [evH, h2]
    simp only []
    exact if_pos (show 2 ≤ line by decide)
  rw [evHS, h3]
theorem seqE {cx : Cxt} {st : S} {ss : Ss} {env e1 : Env} {s s1 : Store} (h : evS cx st env s = .nx e1 s1) : evSs cx (.cons st ss) env s = evSs cx ss e1 s1 := by
  rw [ss_cons', h, seq_nx]
theorem seqR {cx : Cxt} {st : S} {ss : Ss} {env : Env} {s s1 : Store} {v : Val} (h : evS cx st env s = .rt v s1) : evSs cx (.cons st ss) env s = .rt v s1 := by
  rw [ss_cons', h, seq_rt]
theorem ifT {cx : Cxt} {t : E} {a b : Ss} {env : Env} {s s1 : Store} (h : evT cx t env s = .ok true s1) : evS cx (.ife t a b) env s = evSs cx a env s1 := by
  rw [s_ife', h, test_ok, if_pos rfl]
theorem ifF {cx : Cxt} {t : E} {a b : Ss} {env : Env} {s s1 : Store} (h : evT cx t env s = .ok false s1) : evS cx (.ife t a b) env s = evSs cx b env s1 := by
  rw [s_ife', h, test_ok, if_neg (by simp)]
/-! ### operators -/
section
variable (s t : Store) (i j : Int) (x y : Tx) (xs ys : List D) (d : D) (r : Nat) (b : Bool)
@[simp] theorem bin_add : binV .add (.d (.int i)) (.d (.int j)) s = .ok (.d (.int (i + j))) s := nr rfl
@[simp] theorem bin_sub : binV .sub (.d (.int i)) (.d (.int j)) s = .ok (.d (.int (i - j))) s := nr rfl
@[simp] theorem bin_mul (h : okMul i j = true) : binV .mul (.d (.int i)) (.d (.int j)) s = .ok (.d (.int (i * j))) s := by
  show (match (if okMul i j = true then some (i * j) else none) with | some k => _ | none => _) = _
  rw [if_pos h]
theorem okDiv1 {j : Int} (h1 : 0 < j) (h2 : j < 1073741824) : okDiv j = true := by
  unfold okDiv
  rw [Bool.and_eq_true, decide_eq_true_eq, decide_eq_true_eq]
  refine ⟨h1, ?_⟩
  have : j.natAbs.log2 < 30 := (Nat.log2_lt (by omega)).2 (by show j.natAbs < 1073741824; omega)
  omega
theorem bin_fdiv' (h : okDiv j = true) : binV .fdiv (.d (.int i)) (.d (.int j)) s = .ok (.d (.int (i / j))) s := by
  show (match (if okDiv j = true then some (i / j) else none) with | some k => _ | none => _) = _
  rw [if_pos h]
@[simp] theorem bin_fdiv (h1 : 0 < j) (h2 : j < 1073741824) : binV .fdiv (.d (.int i)) (.d (.int j)) s = .ok (.d (.int (i / j))) s := bin_fdiv' s i j (okDiv1 h1 h2)
@[simp] theorem bin_mod (h : 0 < j) : binV .mod (.d (.int i)) (.d (.int j)) s = .ok (.d (.int (i % j))) s := by
  show (match (if 0 < j then some (i % j) else none) with | some k => _ | none => _) = _
  rw [if_pos h]
@[simp] theorem bin_pow (h : okPow i j = true) : binV .pow (.d (.int i)) (.d (.int j)) s = .ok (.d (.int (i ^ j.toNat))) s := by
  show (match (if okPow i j = true then some (i ^ j.toNat) else none) with | some k => _ | none => _) = _
  rw [if_pos h]
@[simp] theorem bin_shl (h : okShl i j = true) : binV .shl (.d (.int i)) (.d (.int j)) s = .ok (.d (.int (i * 2 ^ j.toNat))) s := by
  show (match (if okShl i j = true then some (i * 2 ^ j.toNat) else none) with | some k => _ | none => _) = _
  rw [if_pos h]
@[simp] theorem bin_shr (h : 0 ≤ j) : binV .shr (.d (.int i)) (.d (.int j)) s = .ok (.d (.int (i / 2 ^ j.toNat))) s := by
  show (match (if 0 ≤ j then some (i / 2 ^ j.toNat) else none) with | some k => _ | none => _) = _
  rw [if_pos h]
@[simp] theorem bin_band : binV .band (.d (.int i)) (.d (.int j)) s = .ok (.d (.int (Builtin.bitAnd i j))) s := nr rfl
@[simp] theorem bin_bor : binV .bor (.d (.int i)) (.d (.int j)) s = .ok (.d (.int (Builtin.bitOr i j))) s := nr rfl
@[simp] theorem bin_bxor : binV .bxor (.d (.int i)) (.d (.int j)) s = .ok (.d (.int (Builtin.bitXor i j))) s := nr rfl
@[simp] theorem bin_str (h : x.length + y.length ≤ line) : binV .add (.d (.str x)) (.d (.str y)) s = .ok (.d (.str (x ++ y))) s := if_pos h
@[simp] theorem bin_tup (h : xs.length + ys.length ≤ line) : binV .add (.d (.tup xs)) (.d (.tup ys)) s = .ok (.d (.tup (xs ++ ys))) s := if_pos h
/-- lists put together -/
def catR (a b : Option (List D)) (s : Store) : R Val := match a, b with
  | some a, some b => if a.length + b.length ≤ line then .ok (.new (a ++ b)) s else .err
  | _, _ => .err
@[simp] theorem catR_some (h : xs.length + ys.length ≤ line) : catR (some xs) (some ys) s = .ok (.new (xs ++ ys)) s := if_pos h
@[simp] theorem lo_d : lstOf (.d (.lst xs)) s = some xs := nr rfl
@[simp] theorem lo_new : lstOf (.new xs) s = some xs := nr rfl
@[simp] theorem lo_ref : lstOf (.ref r) s = (s[r]?).map Cell.items := nr rfl
@[simp] theorem so_tup : seqOf (.d (.tup xs)) s = some xs := nr rfl
@[simp] theorem so_d : seqOf (.d (.lst xs)) s = some xs := nr rfl
@[simp] theorem so_new : seqOf (.new xs) s = some xs := nr rfl
@[simp] theorem so_ref : seqOf (.ref r) s = (s[r]?).map Cell.items := nr rfl
@[simp] theorem pk_d : peek (.d d) s = some d := nr rfl
@[simp] theorem pk_new : peek (.new xs) s = some (.lst xs) := nr rfl
@[simp] theorem pk_ref : peek (.ref r) s = (s[r]?).map fun c => D.lst c.items := nr rfl
@[simp] theorem it_l : (Cell.lst xs).items = xs := nr rfl
@[simp] theorem it_f : (Cell.flst xs).items = xs := nr rfl
@[simp] theorem bin_rd (v : Nat) : binV .add (.ref v) (.d (.lst ys)) s = catR ((s[v]?).map Cell.items) (some ys) s := nr rfl
@[simp] theorem bin_rn (v : Nat) : binV .add (.ref v) (.new ys) s = catR ((s[v]?).map Cell.items) (some ys) s := nr rfl
@[simp] theorem bin_rr (v w : Nat) : binV .add (.ref v) (.ref w) s = catR ((s[v]?).map Cell.items) ((s[w]?).map Cell.items) s := nr rfl
@[simp] theorem bin_dr (w : Nat) : binV .add (.d (.lst xs)) (.ref w) s = catR (some xs) ((s[w]?).map Cell.items) s := nr rfl
@[simp] theorem bin_nr (w : Nat) : binV .add (.new xs) (.ref w) s = catR (some xs) ((s[w]?).map Cell.items) s := nr rfl
@[simp] theorem bin_dd : binV .add (.d (.lst xs)) (.d (.lst ys)) s = catR (some xs) (some ys) s := nr rfl
@[simp] theorem bin_dn : binV .add (.d (.lst xs)) (.new ys) s = catR (some xs) (some ys) s := nr rfl
@[simp] theorem bin_nd : binV .add (.new xs) (.d (.lst ys)) s = catR (some xs) (some ys) s := nr rfl
@[simp] theorem bin_nn : binV .add (.new xs) (.new ys) s = catR (some xs) (some ys) s := nr rfl
@[simp] theorem bin_reps (x : Tx) : binV .mul (.d (.str x)) (.d (.int i)) s = if x.length * i.toNat ≤ line ∧ i < 9223372036854775808 ∧ -9223372036854775808 ≤ i then .ok (.d (.str (List.replicate i.toNat x).flatten)) s else .err := nr rfl
@[simp] theorem bin_rep : binV .mul (.new xs) (.d (.int i)) s = if xs.length * i.toNat ≤ line ∧ i < 9223372036854775808 ∧ -9223372036854775808 ≤ i then .ok (.new (List.replicate i.toNat xs).flatten) s else .err := nr rfl
@[simp] theorem td_d : toD (.d d) s = some (d, s) := nr rfl
@[simp] theorem td_new : toD (.new xs) s = some (.lst xs, s) := nr rfl
@[simp] theorem td_ref : toD (.ref r) s = match s[r]? with
    | some (.lst xs) => some (.lst xs, s.set r (.flst xs))
    | some (.flst xs) => some (.lst xs, s)
    | none => none := by unfold toD; rfl
@[simp] theorem tds_nil : toDs [] s = some ([], s) := nr rfl
@[simp] theorem tds_cons (v : Val) (vs : List Val) : toDs (v :: vs) s = match toD v s with
    | none => none
    | some (d, s1) => match toDs vs s1 with
      | none => none
      | some (ds, s2) => some (d :: ds, s2) := by rw [toDs] <;> rfl
@[simp] theorem av_d : argV (.d d) = .d d := nr rfl
@[simp] theorem av_ref : argV (.ref r) = .ref r := nr rfl
@[simp] theorem av_new : argV (.new xs) = .d (.lst xs) := nr rfl
@[simp] theorem cmp_lt : cmpV .lt (.d (.int i)) (.d (.int j)) s = some (decide (i < j)) := nr rfl
@[simp] theorem cmp_le : cmpV .le (.d (.int i)) (.d (.int j)) s = some (decide (i ≤ j)) := nr rfl
@[simp] theorem cmp_gt : cmpV .gt (.d (.int i)) (.d (.int j)) s = some (decide (j < i)) := nr rfl
@[simp] theorem cmp_ge : cmpV .ge (.d (.int i)) (.d (.int j)) s = some (decide (j ≤ i)) := nr rfl
@[simp] theorem cmp_lts : cmpV .lt (.d (.str x)) (.d (.str y)) s = some (decide (x < y)) := nr rfl
@[simp] theorem cmp_eqi : cmpV .eq (.d (.int i)) (.d (.int j)) s = some (decide (i = j)) := by
  have e : decide ((D.int i) = (D.int j)) = decide (i = j) := decide_eq_decide.mpr ⟨fun h => by cases h; rfl, fun h => by rw [h]⟩
  exact congrArg some e
@[simp] theorem cmp_nei : cmpV .ne (.d (.int i)) (.d (.int j)) s = some (!decide (i = j)) := by
  have e : decide ((D.int i) = (D.int j)) = decide (i = j) := decide_eq_decide.mpr ⟨fun h => by cases h; rfl, fun h => by rw [h]⟩
  exact congrArg (fun z => some (!z)) e
@[simp] theorem cmp_eqs : cmpV .eq (.d (.str x)) (.d (.str y)) s = some (decide (x = y)) := by
  have e : decide ((D.str x) = (D.str y)) = decide (x = y) := decide_eq_decide.mpr ⟨fun h => by cases h; rfl, fun h => by rw [h]⟩
  exact congrArg some e
@[simp] theorem cmp_nes : cmpV .ne (.d (.str x)) (.d (.str y)) s = some (!decide (x = y)) := by
  have e : decide ((D.str x) = (D.str y)) = decide (x = y) := decide_eq_decide.mpr ⟨fun h => by cases h; rfl, fun h => by rw [h]⟩
  exact congrArg (fun z => some (!z)) e
@[simp] theorem cmp_eqb (a : Bool) : cmpV .eq (.d (.bl a)) (.d (.bl b)) s = some (decide (a = b)) := by
  have e : decide ((D.bl a) = (D.bl b)) = decide (a = b) := decide_eq_decide.mpr ⟨fun h => by cases h; rfl, fun h => by rw [h]⟩
  exact congrArg some e
@[simp] theorem cmp_neb (a : Bool) : cmpV .ne (.d (.bl a)) (.d (.bl b)) s = some (!decide (a = b)) := by
  have e : decide ((D.bl a) = (D.bl b)) = decide (a = b) := decide_eq_decide.mpr ⟨fun h => by cases h; rfl, fun h => by rw [h]⟩
  exact congrArg (fun z => some (!z)) e
@[simp] theorem cmp_isn : cmpV .is (.d .non) (.d .non) s = some true := nr rfl
@[simp] theorem cmp_isi : cmpV .is (.d (.int i)) (.d .non) s = some false := nr rfl
@[simp] theorem cmp_iss : cmpV .is (.d (.str x)) (.d .non) s = some false := nr rfl
@[simp] theorem cmp_isb : cmpV .is (.d (.bl b)) (.d .non) s = some false := nr rfl
@[simp] theorem cmp_ist : cmpV .is (.d (.tup xs)) (.d .non) s = some false := nr rfl
@[simp] theorem cmp_isl : cmpV .is (.d (.lst xs)) (.d .non) s = some false := nr rfl
@[simp] theorem cmp_isr : cmpV .is (.ref r) (.d .non) s = some false := nr rfl
@[simp] theorem cmp_nsn : cmpV .isnot (.d .non) (.d .non) s = some false := nr rfl
@[simp] theorem cmp_nsi : cmpV .isnot (.d (.int i)) (.d .non) s = some true := nr rfl
@[simp] theorem cmp_nss : cmpV .isnot (.d (.str x)) (.d .non) s = some true := nr rfl
@[simp] theorem cmp_nst : cmpV .isnot (.d (.tup xs)) (.d .non) s = some true := nr rfl
@[simp] theorem cmp_nsl : cmpV .isnot (.d (.lst xs)) (.d .non) s = some true := nr rfl
@[simp] theorem cmp_in : cmpV .isin (.d (.str [r])) (.d (.str y)) s = some (decide (r ∈ y)) := by
  simp only [cmpV, memV]
@[simp] theorem cmp_notin : cmpV .notin (.d (.str [r])) (.d (.str y)) s = some (!decide (r ∈ y)) := by
  simp only [cmpV, memV, Option.map_some]
theorem cmp_ini0 : cmpV .isin (.d (.int i)) (.d (.tup xs)) s = if xs.all flatD then some (inD (.int i) xs) else none := by
  simp [cmpV, memV, flatD]
@[simp] theorem cmp_ini : cmpV .isin (.d (.int i)) (.d (.tup xs)) s = if xs.all flatD = true then some (inD (.int i) xs) else none := by
  rw [cmp_ini0]
@[simp] theorem fl_i : flatD (.int i) = true := nr rfl
@[simp] theorem fl_s : flatD (.str x) = true := nr rfl
@[simp] theorem fl_n : flatD .non = true := nr rfl
@[simp] theorem fl_b : flatD (.bl b) = true := nr rfl
@[simp] theorem inD_nil (a : D) : inD a [] = false := nr rfl
@[simp] theorem inD_cons (a : D) : inD a (d :: xs) = (eqF d a || inD a xs) := nr rfl
@[simp] theorem eqF_ii : eqF (.int i) (.int j) = (i == j) := nr rfl
@[simp] theorem eqF_ss : eqF (.str x) (.str y) = (x == y) := nr rfl
/-- a piece of a list -/
def ixR (xs : Option (List D)) (i : Int) (s : Store) : R Val := match xs with
  | some xs => match L2.atI xs i with
    | some d => .ok (.d d) s
    | none => .err
  | none => .err
@[simp] theorem ixR_some : ixR (some xs) i s = match L2.atI xs i with | some d => .ok (.d d) s | none => .err := nr rfl
@[simp] theorem ix_str (h : x.length ≤ line) : ixV (.d (.str x)) (.d (.int i)) s = (match L2.atI x i with | some c => .ok (.d (.str [c])) s | none => .err) := if_pos h
@[simp] theorem ix_tup : ixV (.d (.tup xs)) (.d (.int i)) s = ixR (some xs) i s := nr rfl
@[simp] theorem ix_lst : ixV (.d (.lst xs)) (.d (.int i)) s = ixR (some xs) i s := nr rfl
@[simp] theorem ix_new : ixV (.new xs) (.d (.int i)) s = ixR (some xs) i s := nr rfl
@[simp] theorem ix_ref : ixV (.ref r) (.d (.int i)) s = ixR ((s[r]?).map Cell.items) i s := nr rfl
@[simp] theorem sl_s (lo hi : Option Int) (h : x.length ≤ line) : sliceV (.d (.str x)) lo hi s = .ok (.d (.str (cutL x lo hi))) s := if_pos h
@[simp] theorem sl_t (lo hi : Option Int) : sliceV (.d (.tup xs)) lo hi s = .ok (.d (.tup (cutL xs lo hi))) s := nr rfl
@[simp] theorem sl_l (lo hi : Option Int) : sliceV (.d (.lst xs)) lo hi s = .ok (.new (cutL xs lo hi)) s := nr rfl
@[simp] theorem sl_n (lo hi : Option Int) : sliceV (.new xs) lo hi s = .ok (.new (cutL xs lo hi)) s := nr rfl
@[simp] theorem sl_r (lo hi : Option Int) : sliceV (.ref r) lo hi s = match (s[r]?).map Cell.items with | some z => .ok (.new (cutL z lo hi)) s | none => .err := nr rfl
@[simp] theorem rev_l : revV (.d (.lst xs)) s = .ok (.new xs.reverse) s := nr rfl
@[simp] theorem rev_s (h : x.length ≤ line) : revV (.d (.str x)) s = .ok (.d (.str x.reverse)) s := if_pos h
@[simp] theorem rev_n : revV (.new xs) s = .ok (.new xs.reverse) s := nr rfl
@[simp] theorem rev_r : revV (.ref r) s = match (s[r]?).map Cell.items with | some z => .ok (.new z.reverse) s | none => .err := nr rfl
@[simp] theorem isi_d (ty : Ty) : isiV ty (.d d) = some (tyIs ty (.d d)) := nr rfl
@[simp] theorem ty_ii : tyIs .int (.d (.int i)) = true := nr rfl
@[simp] theorem ty_ib : tyIs .int (.d (.bl b)) = true := nr rfl
@[simp] theorem ty_is : tyIs .int (.d (.str x)) = false := nr rfl
@[simp] theorem ty_it : tyIs .int (.d (.tup xs)) = false := nr rfl
@[simp] theorem ty_in : tyIs .int (.d .non) = false := nr rfl
@[simp] theorem ty_bi : tyIs .bool (.d (.int i)) = false := nr rfl
@[simp] theorem ty_bb : tyIs .bool (.d (.bl b)) = true := nr rfl
@[simp] theorem ty_bs : tyIs .bool (.d (.str x)) = false := nr rfl
@[simp] theorem ty_bt : tyIs .bool (.d (.tup xs)) = false := nr rfl
@[simp] theorem ty_bn : tyIs .bool (.d .non) = false := nr rfl
@[simp] theorem ty_si : tyIs .str (.d (.int i)) = false := nr rfl
@[simp] theorem ty_sb : tyIs .str (.d (.bl b)) = false := nr rfl
@[simp] theorem ty_ss : tyIs .str (.d (.str x)) = true := nr rfl
@[simp] theorem ty_st : tyIs .str (.d (.tup xs)) = false := nr rfl
@[simp] theorem ty_sn : tyIs .str (.d .non) = false := nr rfl
@[simp] theorem ty_ti : tyIs .tup (.d (.int i)) = false := nr rfl
@[simp] theorem ty_tb : tyIs .tup (.d (.bl b)) = false := nr rfl
@[simp] theorem ty_ts : tyIs .tup (.d (.str x)) = false := nr rfl
@[simp] theorem ty_tt : tyIs .tup (.d (.tup xs)) = true := nr rfl
@[simp] theorem ty_tn : tyIs .tup (.d .non) = false := nr rfl
@[simp] theorem tru_b : truV (.d (.bl b)) s = some b := nr rfl
@[simp] theorem tru_i : truV (.d (.int i)) s = some (i != 0) := nr rfl
def lenR (o : Option (List D)) (s : Store) : R Val := match o with
  | some xs => .ok (.d (.int xs.length)) s
  | none => .err
@[simp] theorem lenR_some : lenR (some xs) s = .ok (.d (.int xs.length)) s := nr rfl
@[simp] theorem len_s (h : x.length ≤ line) : bltV .len [.d (.str x)] s = .ok (.d (.int x.length)) s := if_pos h
@[simp] theorem len_t : bltV .len [.d (.tup xs)] s = .ok (.d (.int xs.length)) s := nr rfl
@[simp] theorem len_l : bltV .len [.d (.lst xs)] s = .ok (.d (.int xs.length)) s := nr rfl
@[simp] theorem len_n : bltV .len [.new xs] s = .ok (.d (.int xs.length)) s := nr rfl
@[simp] theorem len_r : bltV .len [.ref r] s = lenR ((s[r]?).map Cell.items) s := nr rfl
def tupR (o : Option (List D)) (s : Store) : R Val := match o with
  | some xs => .ok (.d (.tup xs)) s
  | none => .err
@[simp] theorem tupR_some : tupR (some xs) s = .ok (.d (.tup xs)) s := nr rfl
@[simp] theorem tup_t : bltV .tuple [.d (.tup xs)] s = .ok (.d (.tup xs)) s := nr rfl
@[simp] theorem tup_l : bltV .tuple [.d (.lst xs)] s = .ok (.d (.tup xs)) s := nr rfl
@[simp] theorem tup_n : bltV .tuple [.new xs] s = .ok (.d (.tup xs)) s := nr rfl
@[simp] theorem tup_r : bltV .tuple [.ref r] s = tupR ((s[r]?).map Cell.items) s := nr rfl
def newR (o : Option (List D)) (s : Store) : R Val := match o with
  | some xs => .ok (.new xs) s
  | none => .err
@[simp] theorem newR_some : newR (some xs) s = .ok (.new xs) s := nr rfl
@[simp] theorem lst_t : bltV .list [.d (.tup xs)] s = .ok (.new xs) s := nr rfl
@[simp] theorem lst_l : bltV .list [.d (.lst xs)] s = .ok (.new xs) s := nr rfl
@[simp] theorem lst_n : bltV .list [.new xs] s = .ok (.new xs) s := nr rfl
@[simp] theorem lst_r : bltV .list [.ref r] s = newR ((s[r]?).map Cell.items) s := nr rfl
@[simp] theorem max_i : bltV .max [.d (.int i), .d (.int j)] s = .ok (.d (.int (if j > i then j else i))) s := nr rfl
@[simp] theorem min_i : bltV .min [.d (.int i), .d (.int j)] s = .ok (.d (.int (if j < i then j else i))) s := nr rfl
@[simp] theorem int_i : bltV .int [.d (.int i)] s = .ok (.d (.int i)) s := nr rfl
@[simp] theorem int_b : bltV .int [.d (.bl b)] s = .ok (.d (.int (if b then 1 else 0))) s := nr rfl
@[simp] theorem ord_s : bltV .ord [.d (.str [r])] s = .ok (.d (.int r)) s := nr rfl
theorem allM_txt : ∀ ts : List Tx, allM txOf (ts.map D.str) = some ts
  | [] => rfl
  | t :: ts => by
    have ih := allM_txt ts
    simp only [List.map_cons, allM, txOf, ih]
theorem allM_int : ∀ ts : List Int, allM intOf (ts.map D.int) = some ts
  | [] => rfl
  | t :: ts => by
    have ih := allM_int ts
    simp only [List.map_cons, allM, intOf, ih]
theorem sorted_sgn (z : Tx) (h : z.length < 64) : bltV .sorted [.d (.str z)] s = .ok (.new ((sortT (z.map fun c => [c])).map D.str)) s := if_pos h
theorem sorted_txt (ts : List Tx) (h : ts.length < 64) : bltV .sorted [.new (ts.map D.str)] s = .ok (.new ((sortT ts).map D.str)) s := by
  show (if (ts.map D.str).length < 64 then _ else _) = _
  rw [if_pos (by rw [List.length_map]; exact h), allM_txt]
@[simp] theorem join_tx (sep z : Tx) : methV .join (.d (.str sep)) [.d (.str z)] s = if z.length + z.length * sep.length ≤ line then .ok (.d (.str (joinT sep (z.map fun c => [c])))) s else .err := nr rfl
theorem joinR (sep : Tx) (ts : List Tx) (h : (ts.map List.length).sum + ts.length * sep.length ≤ line) : methV .join (.d (.str sep)) [.new (ts.map D.str)] s = .ok (.d (.str (joinT sep ts))) s := by
  show (match allM txOf (ts.map D.str) with | some ts => _ | none => _) = _
  rw [allM_txt]
  exact if_pos h
/-! ### lists that change -/
def appR (o : Option (D × Store)) (r : Nat) : R Val := match o with
  | some (d, s1) => match s1[r]? with
    | some (.lst xs) => if xs.length < line then .ok (.d .non) (s1.set r (.lst (xs ++ [d]))) else .err
    | _ => .err
  | none => .err
@[simp] theorem appR_some : appR (some (d, s)) r = match s[r]? with
    | some (.lst xs) => appG xs (.ok (.d .non) (s.set r (.lst (xs ++ [d]))))
    | _ => .err := nr rfl
@[simp] theorem m_app (v : Val) : methV .append (.ref r) [v] s = appR (toD v s) r := by
  simp only [methV, appR]
  cases toD v s with
  | none => rfl
  | some p => rfl
@[simp] theorem m_popAt (k : Int) : methV .pop (.ref r) [.d (.int k)] s = match s[r]? with
    | some (.lst xs) => if xs.length ≤ line then match L2.ixN xs.length k with
      | some j => match xs[j]? with
        | some d => .ok (.d d) (s.set r (.lst (xs.eraseIdx j)))
        | none => .err
      | none => .err
      else .err
    | _ => .err := nr rfl
@[simp] theorem m_pop : methV .pop (.ref r) [] s = match s[r]? with
    | some (.lst xs) => match xs.getLast? with
      | some d => .ok (.d d) (s.set r (.lst xs.dropLast))
      | none => .err
    | _ => .err := by
  simp only [methV] <;> rfl
def stR (o : Option (D × Store)) (r : Nat) (n : Int) : R Val := match o with
  | none => .err
  | some (d, s4) => match s4[r]? with
    | some (.lst xs) => match L2.ixN xs.length n with
      | some j => .ok (.d .non) (s4.set r (.lst (xs.set j d)))
      | none => .err
    | _ => .err
@[simp] theorem stR_some (n : Int) : stR (some (d, s)) r n = match s[r]? with
    | some (.lst xs) => match L2.ixN xs.length n with
      | some j => .ok (.d .non) (s.set r (.lst (xs.set j d)))
      | none => .err
    | _ => .err := nr rfl
@[simp] theorem set_r (v : Val) (n : Int) : setV v (.ref r) (.d (.int n)) s = stR (toD v s) r n := by
  unfold setV stR
  cases toD v s with
  | none => rfl
  | some p => rfl
@[simp] theorem rc_app : recvOk .append (.ref r) s = (s[r]?).isSome := by unfold recvOk; simp [isSup, isLm]
@[simp] theorem rc_pop : recvOk .pop (.ref r) s = (s[r]?).isSome := by unfold recvOk; simp [isSup, isLm]
@[simp] theorem m_split (c : Nat) (h : x.length + 2 ≤ line) : methV .split (.d (.str x)) [.d (.str [c])] s = .ok (.new ((splitC c x).map D.str)) s := if_pos h
@[simp] theorem rc_split : recvOk .split (.d (.str x)) s = true := nr rfl
@[simp] theorem m_find (c : Nat) : methV .find (.d (.str x)) [.d (.str [c])] s = .ok (.d (.int (findC c x))) s := nr rfl
@[simp] theorem rc_find : recvOk .find (.d (.str x)) s = true := nr rfl
@[simp] theorem m_count (c : Nat) : methV .count (.d (.str x)) [.d (.str [c])] s = .ok (.d (.int ((splitC c x).length - 1 : Nat))) s := nr rfl
@[simp] theorem rc_count : recvOk .count (.d (.str x)) s = true := nr rfl
@[simp] theorem rc_join : recvOk .join (.d (.str x)) s = true := nr rfl
@[simp] theorem rc_ins : recvOk .insert (.ref r) s = (s[r]?).isSome := by unfold recvOk; simp [isSup, isLm]
def insR (o : Option (D × Store)) (r : Nat) (k : Int) : R Val := match o with
  | some (d, s1) => match s1[r]? with
    | some (.lst xs) => if xs.length < line ∧ 0 ≤ k ∧ k < 9223372036854775808 then .ok (.d .non) (s1.set r (.lst (xs.take k.toNat ++ [d] ++ xs.drop k.toNat))) else .err
    | _ => .err
  | none => .err
@[simp] theorem m_ins (v : Val) (k : Int) : methV .insert (.ref r) [.d (.int k), v] s = insR (toD v s) r k := by
  simp only [methV, insR]
  cases toD v s with
  | none => rfl
  | some p => rfl
def insP (xs : List D) (k : Int) (a : R Val) : R Val := if xs.length < line ∧ 0 ≤ k ∧ k < 9223372036854775808 then a else .err
theorem insP_ok {xs : List D} {k : Int} {a : R Val} (h : xs.length < line) (h0 : 0 ≤ k) (h1 : k < 9223372036854775808) : insP xs k a = a := if_pos ⟨h, h0, h1⟩
@[simp] theorem insR_some (k : Int) : insR (some (d, s)) r k = match s[r]? with
    | some (.lst xs) => insP xs k (.ok (.d .non) (s.set r (.lst (xs.take k.toNat ++ [d] ++ xs.drop k.toNat))))
    | _ => .err := nr rfl
@[simp] theorem int_dig (c : Nat) (h0 : 48 ≤ c) (h1 : c < 58) : bltV .int [.d (.str [c])] s = .ok (.d (.int ((c : Int) - 48))) s := if_pos ⟨h0, h1⟩
@[simp] theorem str_dig (i : Int) (h0 : 0 ≤ i) (h1 : i < 10) : bltV .str [.d (.int i)] s = .ok (.d (.str [48 + i.toNat])) s := if_pos ⟨h0, h1⟩
@[simp] theorem kill_n (n : Nat) : kill n none = none := nr rfl
@[simp] theorem kill_d (n : Nat) : kill n (some (.d d)) = some (.d d) := nr rfl
@[simp] theorem kill_new (n : Nat) : kill n (some (.new xs)) = some (.new xs) := nr rfl
@[simp] theorem kill_r (n : Nat) : kill n (some (.ref r)) = if r < n then some (.ref r) else none := nr rfl
@[simp] theorem wlk_s : walkV (.d (.str x)) s = .ok ⟨x.map fun c => D.str [c], none⟩ s := nr rfl
@[simp] theorem wlk_t : walkV (.d (.tup xs)) s = .ok ⟨xs, none⟩ s := nr rfl
@[simp] theorem wlk_l : walkV (.d (.lst xs)) s = .ok ⟨xs, none⟩ s := nr rfl
@[simp] theorem wlk_n : walkV (.new xs) s = .ok ⟨xs, none⟩ s := nr rfl
@[simp] theorem wlk_r : walkV (.ref r) s = match s[r]? with | some c => .ok ⟨c.items, some (r, c.items)⟩ s | none => .err := nr rfl
@[simp] theorem rng1 (h : okR j = true) : rangeV [.d (.int j)] s = .ok ⟨rangeL 0 j.toNat, none⟩ s := if_pos h
@[simp] theorem rng2 (h : okR i = true) (h2 : okR j = true) : rangeV [.d (.int i), .d (.int j)] s = .ok ⟨rangeL i (j - i).toNat, none⟩ s := if_pos (by rw [h, h2]; rfl)
@[simp] theorem rng3 (h : okR i = true) (h2 : okR j = true) : rangeV [.d (.int i), .d (.int j), .d (.int (-1))] s = .ok ⟨rangeD i (-1) (i - j).toNat, none⟩ s := if_pos (by rw [h, h2]; rfl)
@[simp] theorem wok_n : Walk.ok ⟨xs, none⟩ s = true := nr rfl
@[simp] theorem wok_r : Walk.ok ⟨xs, some (r, ys)⟩ s = match s[r]? with | some c => decide (c.items = ys) | none => false := nr rfl
@[simp] theorem endF_nx (e : Env) (n : Nat) : endF (.nx e s) n = .ok (.d .non) (s.take n) := nr rfl
@[simp] theorem endF_rt (v : Val) (n : Nat) : endF (.rt v s) n = retV v n s := nr rfl
@[simp] theorem endF_exc (c : String) (e : Env) (n : Nat) : endF (.exc c e s) n = .exc c (s.take n) := nr rfl
@[simp] theorem retV_d (n : Nat) : retV (.d d) n s = .ok (.d d) (s.take n) := nr rfl
@[simp] theorem retV_n (n : Nat) : retV (.new xs) n s = .ok (.new xs) (s.take n) := nr rfl
@[simp] theorem retV_r (n : Nat) : retV (.ref r) n s = if r < n then .ok (.ref r) (s.take n) else match s[r]? with
    | some (.lst xs) => .ok (.new xs) (s.take n)
    | some (.flst xs) => .ok (.d (.lst xs)) (s.take n)
    | none => .err := nr rfl
@[simp] theorem bT_name (k : Nat) (env : Env) : bindT (.name k) d env = some (env.set k (some (.d d))) := by rw [bindT]
@[simp] theorem bT_tup (ts : Tgs) (env : Env) : bindT (.tup ts) (.tup xs) env = bindTs ts xs env := by rw [bindT]
@[simp] theorem bTs_nil (env : Env) : bindTs .nil [] env = some env := by rw [bindTs]
@[simp] theorem bTs_cons (tg : Tg) (ts : Tgs) (env : Env) : bindTs (.cons tg ts) (d :: xs) env = match bindT tg d env with | some e1 => bindTs ts xs e1 | none => none := by rw [bindTs] <;> rfl
@[simp] theorem slT_name (k : Nat) : slotsT (.name k) = [k] := by rw [slotsT]
@[simp] theorem wp_nil (env : Env) : wipeE env [] = env := nr rfl
@[simp] theorem wp_cons (env : Env) (v : Nat) (vs : List Nat) : wipeE env (v :: vs) = (wipeE env vs).set v none := nr rfl
@[simp] theorem rl_len (n : Nat) : (rangeL i n).length = n := by unfold rangeL; simp
@[simp] theorem rd_len (c : Int) (n : Nat) : (rangeD i c n).length = n := by unfold rangeD; simp
theorem rl_get {n k : Nat} {d : D} (h : (rangeL i n)[k]? = some d) : k < n ∧ d = .int (i + k) := by
  unfold rangeL at h
  rw [List.getElem?_map] at h
  by_cases hk : k < n
  · rw [List.getElem?_range hk] at h
    exact ⟨hk, by cases h; rfl⟩
  · rw [List.getElem?_eq_none (by simp; omega)] at h
    cases h
theorem rd_get {c : Int} {n k : Nat} {d : D} (h : (rangeD i c n)[k]? = some d) : k < n ∧ d = .int (i + k * c) := by
  unfold rangeD at h
  rw [List.getElem?_map] at h
  by_cases hk : k < n
  · rw [List.getElem?_range hk] at h
    exact ⟨hk, by cases h; rfl⟩
  · rw [List.getElem?_eq_none (by simp; omega)] at h
    cases h
theorem atI_nat {α : Type} {l : List α} {k : Nat} (hk : k < l.length) : L2.atI l (k : Int) = l[k]? := by
  unfold L2.atI L2.ixN
  rw [if_pos (Int.natCast_nonneg k), if_pos (by omega)]
  rfl
theorem atI_pos {α : Type} {l : List α} {i : Int} (h0 : 0 ≤ i) (h1 : i < l.length) : L2.atI l i = l[i.toNat]? := by
  unfold L2.atI L2.ixN
  rw [if_pos h0, if_pos h1]
  rfl
theorem atI_mp {α β : Type} (f : α → β) (l : List α) (i : Int) : L2.atI (l.map f) i = (L2.atI l i).map f := by
  unfold L2.atI
  rw [List.length_map]
  cases L2.ixN l.length i with
  | none => rfl
  | some j => show (l.map f)[j]? = (l[j]?).map f; rw [List.getElem?_map]
theorem atI_some {α : Type} {l : List α} {i : Int} (h0 : 0 ≤ i) (h1 : i < l.length) : ∃ a, L2.atI l i = some a ∧ l[i.toNat]? = some a := by
  rw [atI_pos h0 h1]
  have : i.toNat < l.length := by omega
  exact ⟨l[i.toNat], List.getElem?_eq_getElem this, List.getElem?_eq_getElem this⟩
end
end Pv

/-! What the laws' common defs answer. -/
namespace Pv
open PySem
theorem okM1 {i j : Int} (h : -18446744073709551616 < i ∧ i < 18446744073709551616) : okMul i j = true := by
  unfold okMul
  simp [h.1, h.2]
theorem okM2 {i j : Int} (h : -18446744073709551616 < j ∧ j < 18446744073709551616) : okMul i j = true := by
  unfold okMul
  simp [h.1, h.2]
theorem okR1 {j : Int} (h1 : -4611686018427387904 ≤ j) (h2 : j < 4611686018427387904) : okR j = true := by
  unfold okR
  simp [h1, h2]
section
variable {Δ : Prog} {m d : Nat}
/-- the script's cell -/
theorem sp_cell (h : Has Δ "_law_cell" 2 2 b__law_cell) (ns : List Int) (k : Int) : ∃ c : Int, ∀ s, Φ Δ m (d + 1) "_law_cell" [.d (.lst (ns.map .int)), .d (.int k)] s = .ok (.d (.int c)) s := by
  cases ns with
  | nil =>
    refine ⟨0, fun s => ?_⟩
    rw [h.run rfl]
    unfold b__law_cell
    simp
  | cons n r =>
    have hp : (0 : Int) < (r.length : Int) + 1 := by omega
    obtain ⟨a, ha, _⟩ := atI_some (l := (n :: r)) (i := k % ((r.length : Int) + 1)) (Int.emod_nonneg _ (by omega)) (by have := Int.emod_lt_of_pos k hp; simpa using this)
    refine ⟨a, fun s => ?_⟩
    rw [h.run rfl]
    unfold b__law_cell
    have e : L2.atI (D.int n :: r.map D.int) (k % ((r.length : Int) + 1)) = some (.int a) := by
      have := atI_mp D.int (n :: r) (k % ((r.length : Int) + 1))
      rw [ha] at this
      exact this
    have hne : ¬ ((r.length : Int) + 1 = 0) := by omega
    simp [hp, e, hne]
def mixF (c k t : Int) : Int := (c + 7 * k * k + 13 * k + t) * 69621 % 2147483647
def mixI (c k t : Int) : Int := (mixF c k t * (mixF c k t / 1009 + 3) + 31 * k + t) % 2147483629 * 48271 % 1000000007
theorem mixI_nn (c k t : Int) : 0 ≤ mixI c k t ∧ mixI c k t < 1000000007 := by
  unfold mixI
  exact ⟨Int.emod_nonneg _ (by omega), Int.emod_lt_of_pos _ (by omega)⟩
theorem sp_mixed (h : Has Δ "_law_mixed" 3 4 b__law_mixed) (c k t : Int) (hk : 0 ≤ k) (hk2 : k < 1000000000) (s : Store) :
    Φ Δ m (d + 1) "_law_mixed" [.d (.int c), .d (.int k), .d (.int t)] s = .ok (.d (.int (mixI c k t))) s := by
  rw [h.run rfl]
  unfold b__law_mixed
  have f1 : 0 ≤ mixF c k t := Int.emod_nonneg _ (by omega)
  have f2 : mixF c k t < 2147483647 := Int.emod_lt_of_pos _ (by omega)
  have e1 : okMul (7 * k) k = true := okM2 (by omega)
  have e2 : okMul 13 k = true := okM1 (by omega)
  have e3 : okMul 7 k = true := okM1 (by omega)
  have e4 : ∀ x, okMul x 69621 = true := fun x => okM2 (by omega)
  have e5 : okMul (mixF c k t) (mixF c k t / 1009 + 3) = true := okM1 (by omega)
  have e6 : okMul 31 k = true := okM1 (by omega)
  have e7 : ∀ x, okMul x 48271 = true := fun x => okM2 (by omega)
  unfold mixF at e5
  simp [e1, e2, e3, e4, e5, e6, e7, mixI, mixF]
/-- the row of draws: what is left, what is found -/
def drawSt (c t r0 : Int) : Nat → Int × List Int
  | 0 => (r0, [])
  | i + 1 => if 0 < (drawSt c t r0 i).1 then ((drawSt c t r0 i).1 / 64, (drawSt c t r0 i).2 ++ [(drawSt c t r0 i).1 % 64]) else ((drawSt c t r0 i).1, (drawSt c t r0 i).2 ++ [mixI c i t])
theorem drawSt_len (c t r0 : Int) : ∀ i, (drawSt c t r0 i).2.length = i
  | 0 => rfl
  | i + 1 => by
    rw [drawSt]
    split <;> simp [drawSt_len c t r0 i]
theorem drawSt_nn (c t r0 : Int) : ∀ i, ∀ x ∈ (drawSt c t r0 i).2, 0 ≤ x ∧ x < 1000000007
  | 0 => fun x h => by cases h
  | i + 1 => fun x h => by
    rw [drawSt] at h
    split at h
    · simp only [List.mem_append, List.mem_singleton] at h
      rcases h with h | h
      · exact drawSt_nn c t r0 i x h
      · omega
    · simp only [List.mem_append, List.mem_singleton] at h
      rcases h with h | h
      · exact drawSt_nn c t r0 i x h
      · rw [h]; exact mixI_nn c i t
def drawsI (c n t : Int) : List Int := (drawSt c t (if 1000000000000000000 ≤ c then c else 0) n.toNat).2
theorem drawsI_len (c n t : Int) : (drawsI c n t).length = n.toNat := drawSt_len _ _ _ _
theorem drawsI_nn (c n t : Int) : ∀ x ∈ drawsI c n t, 0 ≤ x ∧ x < 1000000007 := drawSt_nn _ _ _ _
theorem sp_draws (h : Has Δ "_law_draws" 3 6 b__law_draws) (hm : Has Δ "_law_mixed" 3 4 b__law_mixed) (c n t : Int) (hn : n < 10000000) (hn0 : -10000000 < n) (s : Store) :
    Φ Δ m (d + 2) "_law_draws" [.d (.int c), .d (.int n), .d (.int t)] s = .ok (.new ((drawsI c n t).map .int)) s := by
  rw [h.run rfl]
  unfold b__law_draws
  have loop : ∀ r0 g, ∃ env', forL ⟨rangeL 0 n.toNat, none⟩ (s.length + 1) (.name 5) (fun e s => evSs (cxΔ Δ m (d + 1)) b__law_draws_1 e s) (rangeL 0 n.toNat)
      [some (.d (.int c)), some (.d (.int n)), some (.d (.int t)), some (.ref s.length), some (.d (.int r0)), g] (s ++ [.lst []]) = .nx env' (s ++ [.lst ((drawSt c t r0 n.toNat).2.map .int)]) ∧ env'[3]? = some (some (.ref s.length)) := by
    intro r0 g
    have key := forL_inv (w := ⟨rangeL 0 n.toNat, none⟩) (n := s.length + 1) (tg := .name 5) (body := fun e s => evSs (cxΔ Δ m (d + 1)) b__law_draws_1 e s)
      (env := [some (.d (.int c)), some (.d (.int n)), some (.d (.int t)), some (.ref s.length), some (.d (.int r0)), g]) (s := s ++ [.lst []])
      (fun i env s1 => ∃ g, env = [some (.d (.int c)), some (.d (.int n)), some (.d (.int t)), some (.ref s.length), some (.d (.int (drawSt c t r0 i).1)), g] ∧ s1 = s ++ [.lst ((drawSt c t r0 i).2.map .int)])
      ⟨g, rfl, rfl⟩ (by
      rintro i dd env s1 hd ⟨g, rfl, rfl⟩
      obtain ⟨hi, rfl⟩ := rl_get _ hd
      have hl : (drawSt c t r0 i).2.length < line := by rw [drawSt_len]; show i < 16777216; omega
      refine ⟨rfl, _, rfl, ?_⟩
      unfold b__law_draws_1
      by_cases hr : 0 < (drawSt c t r0 i).1
      · simp [hr, st0, set0, takj, hl, drawSt]
      · have hm := sp_mixed (m := m) (d := d) hm c i t (by omega) (by omega)
        simp [hr, st0, set0, takj, hl, drawSt, hm, Has.has ‹Has Δ "_law_mixed" 3 4 b__law_mixed›]) (fun _ _ _ => rfl)
    obtain ⟨env', s', h1, g', h2, h3⟩ := key
    simp only [rl_len] at h2 h3
    subst h2 h3
    exact ⟨_, h1, rfl⟩
  have hr := okR1 (j := n) (by omega) (by omega)
  have hp : okPow 10 18 = true := by decide
  by_cases hc : 1000000000000000000 ≤ c
  · obtain ⟨env', h1, h2⟩ := loop c none
    simp [hr, hp, hc, h1, h2, st0, tak0, drawsI]
  · obtain ⟨env', h1, h2⟩ := loop 0 none
    simp [hr, hp, hc, h1, h2, st0, tak0, drawsI]
theorem len3 {α : Type} {l : List α} (h : l.length = 3) : ∃ a b c, l = [a, b, c] := by
  match l, h with
  | [a, b, c], _ => exact ⟨a, b, c, rfl⟩
def sizeI (c t n : Int) : Int := match drawsI c 3 t with
  | [a, b, e] => if e % 3 = 0 then (a + 64 * b) % (n + 1) % 7 else (a + 64 * b) % (n + 1)
  | _ => 0
theorem sp_size (h : Has Δ "_law_size" 3 5 b__law_size) (hd : Has Δ "_law_draws" 3 6 b__law_draws) (hm : Has Δ "_law_mixed" 3 4 b__law_mixed) (c t n : Int) (hn : 0 ≤ n) (s : Store) :
    0 ≤ sizeI c t n ∧ sizeI c t n ≤ n ∧ Φ Δ m (d + 3) "_law_size" [.d (.int c), .d (.int t), .d (.int n)] s = .ok (.d (.int (sizeI c t n))) s := by
  obtain ⟨a, b, e, hl⟩ := len3 (drawsI_len c 3 t)
  have hr := sp_draws (m := m) (d := d) hd hm c 3 t (by omega) (by omega)
  rw [hl] at hr
  unfold sizeI
  rw [hl]
  have h1 : 0 ≤ (a + 64 * b) % (n + 1) := Int.emod_nonneg _ (by omega)
  have h2 : (a + 64 * b) % (n + 1) < n + 1 := Int.emod_lt_of_pos _ (by omega)
  have hp : 0 < n + 1 := by omega
  have e1 : okMul 64 b = true := okM1 (by omega)
  have a0 : L2.atI [D.int a, D.int b, D.int e] 0 = some (D.int a) := rfl
  have a1 : L2.atI [D.int a, D.int b, D.int e] 1 = some (D.int b) := rfl
  have a2 : L2.atI [D.int a, D.int b, D.int e] 2 = some (D.int e) := rfl
  rw [h.run rfl]
  unfold b__law_size
  by_cases he : e % 3 = 0
  · simp only [he, if_true]
    refine ⟨by omega, by omega, ?_⟩
    simp [hr, hd.has, a0, a1, a2, e1, hp, he]
  · simp only [he, if_false]
    refine ⟨by omega, by omega, ?_⟩
    simp [hr, hd.has, a0, a1, a2, e1, hp, he]
/-- plain data of so many levels -/
def okD : Nat → D → Prop
  | 0, _ => False
  | n + 1, x => match x with
    | .tup xs => xs.length ≤ line ∧ ∀ y ∈ xs, okD n y
    | .lst _ => False
    | _ => True
theorem lenR_ok {n : Nat} (h : n ≤ line) : okR (n : Int) = true := by
  have h : n ≤ 16777216 := h
  exact okR1 (by omega) (by omega)
theorem sp_same (h : Has Δ "_law_same" 2 3 b__law_same) (n : Nat) : ∀ (x : D) (s : Store), okD n x → Φ Δ m (d + n) "_law_same" [.d x, .d x] s = .ok (.d (.bl true)) s := by
  induction n with
  | zero => exact fun x s h0 => h0.elim
  | succ n ih =>
    intro x s h0
    show Φ Δ m (d + n + 1) "_law_same" _ s = _
    rw [h.run rfl]
    unfold b__law_same
    cases x with
    | non => simp
    | bl b => simp
    | int i => simp
    | str t => simp
    | lst xs => exact h0.elim
    | tup xs =>
      obtain ⟨hl, hx⟩ := h0
      have key := forL_inv (w := ⟨rangeL 0 xs.length, none⟩) (n := s.length) (tg := .name 2) (body := fun e s => evSs (cxΔ Δ m (d + n)) b__law_same_1 e s)
        (env := [some (.d (.tup xs)), some (.d (.tup xs)), none]) (s := s) (fun i env s1 => (∃ g, env = [some (.d (.tup xs)), some (.d (.tup xs)), g]) ∧ s1 = s) ⟨⟨_, rfl⟩, rfl⟩ (by
        rintro i dd env s1 hd ⟨⟨g, rfl⟩, rfl⟩
        obtain ⟨hi, rfl⟩ := rl_get _ hd
        refine ⟨rfl, _, rfl, ?_⟩
        unfold b__law_same_1
        obtain ⟨y, hy, hy'⟩ := atI_some (l := xs) (i := (i : Int)) (by omega) (by omega)
        have ih := ih y s1 (hx y (List.mem_of_getElem? hy'))
        simp [hy, ih, h.has]) (fun _ _ _ => rfl)
      obtain ⟨env', s', h1, ⟨g, h2⟩, h3⟩ := key
      have hr := lenR_ok hl
      subst h2 h3
      simp [hr, h1]
def LETTERS : Tx := [65, 66, 67, 68, 69, 70, 71, 72, 73, 74, 75, 76, 77, 78, 79, 80, 81, 82, 83, 84, 85, 86, 87, 88, 89, 90, 97, 98, 99, 100, 101, 102, 103, 104, 105, 106, 107, 108, 109, 110, 111, 112, 113, 114, 115, 116, 117, 118, 119, 120, 121, 122]
theorem cut_to {α : Type} (l : List α) {j : Int} (h0 : 0 ≤ j) : cutL l none (some j) = l.take j.toNat := by
  unfold cutL
  rw [HT.sIx_none, show j = ((j.toNat : Nat) : Int) by omega, HT.sIx_nat, Nat.sub_zero, List.drop_zero, Int.toNat_natCast]
  rcases Nat.le_total j.toNat l.length with h | h
  · rw [Nat.min_eq_left h]
  · rw [Nat.min_eq_right h, List.take_length, List.take_of_length_le h]
theorem cut_from {α : Type} (l : List α) {j : Int} (h0 : 0 ≤ j) : cutL l (some j) none = l.drop j.toNat := by
  unfold cutL
  rw [HT.sIx_none, show j = ((j.toNat : Nat) : Int) by omega, HT.sIx_nat, Int.toNat_natCast]
  rcases Nat.le_total j.toNat l.length with h | h
  · rw [Nat.min_eq_left h, List.take_of_length_le (by rw [List.length_drop]; exact Nat.le_refl _)]
  · rw [Nat.min_eq_right h, Nat.sub_self, List.take_zero, List.drop_of_length_le h]
theorem cut_mid {α : Type} (l : List α) {i j : Int} (h0 : 0 ≤ i) (h1 : 0 ≤ j) : cutL l (some i) (some j) = (l.take j.toNat).drop i.toNat := by
  unfold cutL
  rw [show i = ((i.toNat : Nat) : Int) by omega, show j = ((j.toNat : Nat) : Int) by omega, HT.sIx_nat, HT.sIx_nat, Int.toNat_natCast, Int.toNat_natCast, List.drop_take]
  rcases Nat.le_total i.toNat l.length with h | h
  · rw [Nat.min_eq_left h]
    rcases Nat.le_total j.toNat l.length with h2 | h2
    · rw [Nat.min_eq_left h2]
    · rw [Nat.min_eq_right h2, List.take_of_length_le (by rw [List.length_drop]; exact Nat.le_refl _), List.take_of_length_le (by rw [List.length_drop]; omega)]
  · rw [Nat.min_eq_right h, List.drop_of_length_le (Nat.le_refl _), List.drop_of_length_le h]
    simp
theorem perm_out {α : Type} {l : List α} {k : Nat} (h : k < l.length) : (l[k] :: l.eraseIdx k).Perm l := by
  rw [List.eraseIdx_eq_take_drop_succ]
  have e : l = l.take k ++ l[k] :: l.drop (k + 1) := by rw [← List.drop_eq_getElem_cons h, List.take_append_drop]
  exact (List.perm_middle.symm).trans (by rw [← e])
/-- letters drawn: found, left -/
def poolSt (ds : List Int) : Nat → Tx × Tx
  | 0 => ([], LETTERS)
  | i + 1 => ((poolSt ds i).1 ++ [(poolSt ds i).2.getD ((ds.getD i 0) % ((poolSt ds i).2.length : Int)).toNat 0], (poolSt ds i).2.eraseIdx ((ds.getD i 0) % ((poolSt ds i).2.length : Int)).toNat)
theorem poolSt_perm (ds : List Int) : ∀ i, i ≤ 52 → ((poolSt ds i).1 ++ (poolSt ds i).2).Perm LETTERS ∧ (poolSt ds i).1.length = i
  | 0, _ => ⟨List.Perm.refl _, rfl⟩
  | i + 1, h => by
    obtain ⟨ih, il⟩ := poolSt_perm ds i (by omega)
    have hl := ih.length_eq
    rw [List.length_append, il] at hl
    have hl : i + (poolSt ds i).2.length = 52 := hl
    rw [poolSt]
    generalize hk : ((ds.getD i 0) % ((poolSt ds i).2.length : Int)).toNat = k
    have hk2 : k < (poolSt ds i).2.length := by
      have h1 := Int.emod_lt_of_pos (ds.getD i 0) (b := ((poolSt ds i).2.length : Int)) (by omega)
      have h2 := Int.emod_nonneg (ds.getD i 0) (b := ((poolSt ds i).2.length : Int)) (by omega)
      omega
    refine ⟨?_, by rw [List.length_append, il]; rfl⟩
    have e : (poolSt ds i).2.getD k 0 = (poolSt ds i).2[k] := by rw [List.getD_eq_getElem?_getD, List.getElem?_eq_getElem hk2]; rfl
    show ((poolSt ds i).1 ++ [(poolSt ds i).2.getD k 0] ++ (poolSt ds i).2.eraseIdx k).Perm LETTERS
    rw [e, List.append_assoc]
    exact (List.Perm.append_left (poolSt ds i).1 (perm_out hk2)).trans ih
def poolI (c n t : Int) : Tx := (poolSt (drawsI c n t) n.toNat).1
theorem poolI_len (c n t : Int) (h : n ≤ 52) : (poolI c n t).length = n.toNat := (poolSt_perm _ _ (by omega)).2
theorem sp_pool (h : Has Δ "_law_pool" 3 7 b__law_pool) (hd : Has Δ "_law_draws" 3 6 b__law_draws) (hm : Has Δ "_law_mixed" 3 4 b__law_mixed) (c n t : Int) (h0 : 0 ≤ n) (hn : n ≤ 52) (s : Store) :
    Φ Δ m (d + 3) "_law_pool" [.d (.int c), .d (.int n), .d (.int t)] s = .ok (.d (.str (poolI c n t))) s := by
  rw [h.run rfl]
  unfold b__law_pool
  have hr := sp_draws (m := m) (d := d) hd hm c n t (by omega) (by omega)
  have hl := drawsI_len c n t
  unfold poolI
  generalize drawsI c n t = ds at hr hl
  have key := forL_inv (w := ⟨ds.map .int, none⟩) (n := s.length) (tg := .name 5) (body := fun e s => evSs (cxΔ Δ m (d + 2)) b__law_pool_1 e s)
    (env := [some (.d (.int c)), some (.d (.int n)), some (.d (.int t)), some (.d (.str LETTERS)), some (.d (.str [])), none, none]) (s := s)
    (fun i env s1 => (∃ g g', env = [some (.d (.int c)), some (.d (.int n)), some (.d (.int t)), some (.d (.str (poolSt ds i).2)), some (.d (.str (poolSt ds i).1)), g, g']) ∧ s1 = s) ⟨⟨_, _, rfl⟩, rfl⟩ (by
    rintro i dd env s1 hdd ⟨⟨g, g', rfl⟩, rfl⟩
    have hdd : (ds.map D.int)[i]? = some dd := hdd
    rw [List.getElem?_map] at hdd
    have hi : i < ds.length := by
      rcases Nat.lt_or_ge i ds.length with q | q
      · exact q
      · rw [List.getElem?_eq_none q] at hdd; cases hdd
    rw [List.getElem?_eq_getElem hi] at hdd
    cases hdd
    refine ⟨rfl, _, rfl, ?_⟩
    obtain ⟨ih, il⟩ := poolSt_perm ds i (by omega)
    have hl2 := ih.length_eq
    rw [List.length_append, il] at hl2
    have hl2 : i + (poolSt ds i).2.length = 52 := hl2
    have hgd : ds.getD i 0 = ds[i] := by rw [List.getD_eq_getElem?_getD, List.getElem?_eq_getElem hi]; rfl
    rw [show poolSt ds (i + 1) = ((poolSt ds i).1 ++ [(poolSt ds i).2.getD (ds[i] % ((poolSt ds i).2.length : Int)).toNat 0], (poolSt ds i).2.eraseIdx (ds[i] % ((poolSt ds i).2.length : Int)).toNat) by rw [poolSt, hgd]]
    generalize poolSt ds i = q at il hl2
    obtain ⟨f, re⟩ := q
    simp only at il hl2 ⊢
    have hp : (0 : Int) < (re.length : Int) := by omega
    have hpN : 0 < re.length := by omega
    have k1 := Int.emod_lt_of_pos ds[i] hp
    have k0 := Int.emod_nonneg ds[i] (b := (re.length : Int)) (by omega)
    generalize hk : ds[i] % (re.length : Int) = k at k0 k1
    obtain ⟨a, ha, ha'⟩ := atI_some (l := re) k0 k1
    have hla : re.length ≤ line := by show re.length ≤ 16777216; omega
    have hlb : f.length + 1 ≤ line := by show f.length + 1 ≤ 16777216; omega
    have hlc : (min k.toNat re.length) + (re.length - (k + 1).toNat) ≤ line := by show _ ≤ 16777216; omega
    have e1 : (k + 1).toNat = k.toNat + 1 := by omega
    have e2 : re.getD k.toNat 0 = a := by rw [List.getD_eq_getElem?_getD, ha']; rfl
    have c1 := cut_to re k0
    have c2 := cut_from re (j := k + 1) (by omega)
    unfold b__law_pool_1
    rw [e1] at c2 hlc
    simp [hla, hpN, hk, ha, ha', hlb, c1, c2, hlc, List.eraseIdx_eq_take_drop_succ]) (fun _ _ _ => rfl)
  obtain ⟨env', s', h1, ⟨g, g', h2⟩, h3⟩ := key
  simp only [List.length_map] at h2
  subst h2 h3
  unfold LETTERS at h1
  simp [hr, hd.has, h1, hl]
/-- the bit k of n -/
def bitP (n : Int) (k : Nat) : Bool := decide (Builtin.bitAnd (n / 2 ^ k) 1 = 1)
def chosenI (p : Tx) (n : Int) : List Tx := ((List.range p.length).filter (bitP n)).map fun k => [p.getD k 0]
def marksI (p : Tx) (n : Int) : Tx := joinT [] (sortT (chosenI p n))
theorem insG_len {α : Type} (lt : α → α → Bool) (x : α) : ∀ l : List α, (insG lt x l).length = l.length + 1
  | [] => rfl
  | y :: ys => by
    rw [insG]
    split
    · rw [List.length_cons, insG_len lt x ys]; rfl
    · rfl
theorem sortG_len {α : Type} (lt : α → α → Bool) : ∀ l : List α, (sortG lt l).length = l.length
  | [] => rfl
  | x :: xs => by rw [sortG, insG_len, sortG_len lt xs]; rfl
theorem sp_marks (h : Has Δ "_law_marks" 2 3 b__law_marks) (p : Tx) (n : Int) (hp : p.length < 64) (s : Store) :
    Φ Δ m (d + 1) "_law_marks" [.d (.str p), .d (.int n)] s = .ok (.d (.str (marksI p n))) s := by
  rw [h.run rfl]
  unfold b__law_marks
  have hl : p.length ≤ line := by show p.length ≤ 16777216; omega
  have key := lcL_map (w := ⟨rangeL 0 p.length, none⟩) (tg := .name 2) (test := fun e s => evC (cxΔ Δ m d) y__law_marks_1 e s) (elt := fun e s => evE (cxΔ Δ m d) x__law_marks_1 e s)
    (env := [some (.d (.str p)), some (.d (.int n)), none]) (s := s) (fun d => match d with | .int k => bitP n k.toNat | _ => false) (fun d => match d with | .int k => .str [p.getD k.toNat 0] | _ => .non)
    (rangeL 0 p.length) [] rfl (by rw [rl_len]; simpa using hl) (by
      intro x hx
      obtain ⟨i, hi⟩ := List.getElem?_of_mem hx
      obtain ⟨hi, rfl⟩ := rl_get _ hi
      refine ⟨_, rfl, ?_, fun _ => ⟨.d (.str [p.getD i 0]), ?_, ?_⟩⟩
      · unfold y__law_marks_1
        simp [bitP]
      · unfold x__law_marks_1
        obtain ⟨a, ha, ha'⟩ := atI_some (l := p) (i := (i : Int)) (by omega) (by omega)
        simp [hl, ha]
        rw [show p[i]? = some a by simpa using ha']
        rfl
      · simp)
  have e : (List.map (fun d => match d with | D.int k => D.str [p.getD k.toNat 0] | _ => .non) (List.filter (fun d => match d with | D.int k => bitP n k.toNat | _ => false) (rangeL 0 p.length))) = (chosenI p n).map .str := by
    unfold rangeL chosenI
    rw [List.filter_map, List.map_map, List.map_map]
    have e1 : ((fun d => match d with | D.int k => bitP n k.toNat | _ => false) ∘ fun (k : Nat) => D.int (0 + (k : Int))) = bitP n := by
      funext k
      show bitP n (0 + (k : Int)).toNat = _
      rw [Int.zero_add, Int.toNat_natCast]
    rw [e1]
    refine List.map_congr_left fun k _ => ?_
    show D.str [p.getD (0 + (k : Int)).toNat 0] = _
    rw [Int.zero_add, Int.toNat_natCast]
    rfl
  rw [List.nil_append, e] at key
  have hc : (chosenI p n).length ≤ p.length := by
    unfold chosenI
    rw [List.length_map]
    exact Nat.le_trans (List.length_filter_le _ _) (by rw [List.length_range]; exact Nat.le_refl _)
  have hs := sorted_txt s (chosenI p n) (by omega)
  have one : ∀ l : List Nat, (l.map fun k => ([p.getD k 0] : Tx)).map List.length = l.map fun _ => 1 := fun l => by rw [List.map_map]; rfl
  have hj := joinR s [] (sortT (chosenI p n)) (by
    have h1 := ((sortG_perm (lt := ltT) (chosenI p n)).map List.length).sum_nat
    have h2 : ((chosenI p n).map List.length).sum = (chosenI p n).length := by
      unfold chosenI
      rw [one, List.length_map]
      generalize (List.filter (bitP n) (List.range p.length)) = l
      induction l with
      | nil => rfl
      | cons x xs ih => rw [List.map_cons, List.sum_cons, ih, List.length_cons]; omega
    show (List.map List.length (sortG ltT (chosenI p n))).sum + _ ≤ 16777216
    rw [h1, h2]
    simp
    omega)
  have hr := lenR_ok hl
  simp [hl, hr, key, hs, hj, marksI]
end
end Pv

/-! Trees that are drawn. -/
namespace Pv
open PySem
/-- trees still to be put below something -/
def mny (b : Int) : Int := (b + 1) / 2
def hgt : List Int → Int
  | [] => 0
  | b :: bs => hgt bs + 1 - mny b
/-- places, the last one first: each has the branches that it wants -/
def Wd : List Int → Prop
  | [] => True
  | b :: bs => 0 ≤ b ∧ b ≤ 3 ∧ mny b ≤ hgt bs ∧ Wd bs
theorem hgt_le : ∀ {bs : List Int}, Wd bs → 0 ≤ hgt bs ∧ hgt bs ≤ bs.length
  | [], _ => by simp [hgt]
  | b :: bs, h => by
    obtain ⟨h0, h3, h1, h2⟩ := h
    have ih := hgt_le h2
    rw [hgt, List.length_cons]
    have : 0 ≤ mny b := by unfold mny; omega
    omega
abbrev Plc := Int × Tx
def plD (x : Plc) : D := .tup [.int x.1, .str x.2]
/-- found (the last one first), high -/
def woodStep (pool : Tx) (most : Int) (q : List Plc × Int) (dr : Int) : List Plc × Int :=
  let b0 := dr % 4
  let b1 := if mny b0 > q.2 then 0 else b0
  let b2 := if (q.1.length : Int) + q.2 + 1 - mny b1 > most ∧ q.2 > 1 then 3 else b1
  if (q.1.length : Int) + q.2 + 1 - mny b2 ≤ most then ((b2, marksI pool (dr / 4 % 16)) :: q.1, q.2 + 1 - mny b2) else q
def woodSt (pool : Tx) (most : Int) (ds : List Int) : Nat → List Plc × Int
  | 0 => ([], 0)
  | i + 1 => woodStep pool most (woodSt pool most ds i) (ds.getD i 0)
def WI (q : List Plc × Int) : Prop := Wd (q.1.map (·.1)) ∧ hgt (q.1.map (·.1)) = q.2
theorem woodStep_ok {pool : Tx} {most : Int} {q : List Plc × Int} (dr : Int) (h : WI q) : WI (woodStep pool most q dr) ∧ (woodStep pool most q dr).1.length ≤ q.1.length + 1 := by
  obtain ⟨f, hi⟩ := q
  obtain ⟨h1, h2⟩ := h
  have hh := hgt_le h1
  simp only at h1 h2 hh
  unfold woodStep
  have d0 : 0 ≤ dr % 4 := Int.emod_nonneg _ (by omega)
  have d1 : dr % 4 < 4 := Int.emod_lt_of_pos _ (by omega)
  simp only
  generalize hb1 : (if mny (dr % 4) > hi then 0 else dr % 4) = b1
  have q1 : 0 ≤ b1 ∧ b1 ≤ 3 ∧ mny b1 ≤ hi := by
    subst hb1
    split
    · refine ⟨by omega, by omega, ?_⟩
      unfold mny; omega
    · refine ⟨d0, by omega, by omega⟩
  generalize hb2 : (if (f.length : Int) + hi + 1 - mny b1 > most ∧ hi > 1 then 3 else b1) = b2
  have q2 : 0 ≤ b2 ∧ b2 ≤ 3 ∧ mny b2 ≤ hi := by
    subst hb2
    split
    · refine ⟨by omega, by omega, ?_⟩
      unfold mny; omega
    · exact q1
  split
  · refine ⟨⟨?_, ?_⟩, by simp⟩
    · exact ⟨q2.1, q2.2.1, by rw [h2]; exact q2.2.2, h1⟩
    · show hgt (List.map (·.1) f) + 1 - mny b2 = _
      rw [h2]
  · exact ⟨⟨h1, h2⟩, by simp⟩
theorem woodSt_ok (pool : Tx) (most : Int) (ds : List Int) : ∀ i, WI (woodSt pool most ds i) ∧ (woodSt pool most ds i).1.length ≤ i
  | 0 => ⟨⟨trivial, rfl⟩, Nat.le_refl _⟩
  | i + 1 => by
    obtain ⟨h1, h2⟩ := woodSt_ok pool most ds i
    have := woodStep_ok (pool := pool) (most := most) (ds.getD i 0) h1
    exact ⟨this.1, by have := this.2; rw [woodSt]; omega⟩
/-- two trees are made one till one is left -/
def woodEnd (f : List Plc) : Nat → List Plc
  | 0 => f
  | 1 => f
  | h + 2 => woodEnd ((3, ((f.reverse[h + 1]?).getD (0, [])).2) :: f) (h + 1)
theorem woodEnd_ok : ∀ (h : Nat) (f : List Plc), WI (f, (h : Int)) → Wd ((woodEnd f h).map (·.1)) ∧ hgt ((woodEnd f h).map (·.1)) = (if h = 0 then 0 else 1) ∧ (woodEnd f h).length ≤ f.length + h
  | 0, f, w => ⟨w.1, w.2, Nat.le_refl _⟩
  | 1, f, w => ⟨w.1, w.2, Nat.le_add_right _ _⟩
  | h + 2, f, w => by
    rw [woodEnd]
    have := woodEnd_ok (h + 1) ((3, ((f.reverse[h + 1]?).getD (0, [])).2) :: f) ⟨⟨by show (0 : Int) ≤ 3; omega, by show (3 : Int) ≤ 3; omega, by
      have := w.2
      simp only at this
      rw [this]
      show (3 + 1) / 2 ≤ _
      omega, w.1⟩, by
      have := w.2
      simp only at this
      show hgt (f.map (·.1)) + 1 - mny 3 = _
      rw [this]
      show _ - (3 + 1) / 2 = _
      omega⟩
    refine ⟨this.1, by rw [this.2.1]; simp, by have := this.2.2; simp only [List.length_cons] at this; omega⟩
/-- the places in their order -/
def woodI (pool : Tx) (most : Int) (ds : List Int) : List Plc := (woodEnd (woodSt pool most ds ds.length).1 (woodSt pool most ds ds.length).2.toNat).reverse
/-- a tree's places -/
def IsTree (t : List Plc) : Prop := Wd (t.map (·.1)).reverse ∧ hgt (t.map (·.1)).reverse = (if t = [] then 0 else 1)
theorem woodI_ok (pool : Tx) (most : Int) (ds : List Int) : IsTree (woodI pool most ds) ∧ (woodI pool most ds).length ≤ 2 * ds.length := by
  obtain ⟨h1, h2⟩ := woodSt_ok pool most ds ds.length
  unfold woodI
  generalize woodSt pool most ds ds.length = q at h1 h2
  obtain ⟨f, hi⟩ := q
  have hh := hgt_le h1.1
  have e : hgt (f.map (·.1)) = hi := h1.2
  rw [e] at hh
  simp only [List.length_map] at hh h2
  obtain ⟨w1, w2, w3⟩ := woodEnd_ok hi.toNat f ⟨h1.1, by rw [show ((hi.toNat : Nat) : Int) = hi by omega]; exact e⟩
  refine ⟨⟨?_, ?_⟩, by rw [List.length_reverse]; simp only; omega⟩
  · rw [List.map_reverse, List.reverse_reverse]; exact w1
  · rw [List.map_reverse, List.reverse_reverse, w2]
    by_cases hz : hi.toNat = 0
    · rw [if_pos hz]
      rw [hz] at w2 ⊢
      have : f = [] := by
        by_cases q : f = []
        · exact q
        · exfalso
          -- a wood that stands has a top
          have pos : ∀ bs : List Int, Wd bs → bs ≠ [] → 0 < hgt bs := by
            intro bs w n
            cases bs with
            | nil => exact absurd rfl n
            | cons b r =>
              obtain ⟨_, _, m1, w'⟩ := w
              rw [hgt]
              omega
          have := pos _ h1.1 (by simpa using q)
          rw [e] at this
          omega
      subst this
      simp [woodEnd]
    · rw [if_neg hz, if_neg]
      intro q
      have : woodEnd f hi.toNat = [] := by simpa using q
      rw [this] at w2
      simp [hgt, hz] at w2
section
variable {Δ : Prog} {m d : Nat}
theorem sp_wood (h : Has Δ "_law_wood" 3 8 b__law_wood) (hmk : Has Δ "_law_marks" 2 3 b__law_marks) (ds : List Int) (pool : Tx) (most : Int) (hp : pool.length < 64) (hl : ds.length ≤ 100000) (hf : 200000 < m) (s : Store) :
    Φ Δ m (d + 2) "_law_wood" [.d (.lst (ds.map .int)), .d (.str pool), .d (.int most)] s = .ok (.d (.tup ((woodI pool most ds).map plD))) s := by
  rw [h.run rfl]
  unfold b__law_wood
  have key := forL_inv (w := ⟨ds.map .int, none⟩) (n := s.length + 1) (tg := .name 5) (body := fun e s => evSs (cxΔ Δ m (d + 1)) b__law_wood_1 e s)
    (env := [some (.d (.lst (ds.map .int))), some (.d (.str pool)), some (.d (.int most)), some (.ref s.length), some (.d (.int 0)), none, none, none]) (s := s ++ [.lst []])
    (fun i env s1 => (∃ g1 g2 g3, env = [some (.d (.lst (ds.map .int))), some (.d (.str pool)), some (.d (.int most)), some (.ref s.length), some (.d (.int (woodSt pool most ds i).2)), g1, g2, g3]) ∧ s1 = s ++ [.lst ((woodSt pool most ds i).1.reverse.map plD)])
    ⟨⟨_, _, _, rfl⟩, rfl⟩ (by
    rintro i dd env s1 hdd ⟨⟨g1, g2, g3, rfl⟩, rfl⟩
    have hdd : (ds.map D.int)[i]? = some dd := hdd
    rw [List.getElem?_map] at hdd
    have hi : i < ds.length := by
      rcases Nat.lt_or_ge i ds.length with q | q
      · exact q
      · rw [List.getElem?_eq_none q] at hdd; cases hdd
    rw [List.getElem?_eq_getElem hi] at hdd
    cases hdd
    refine ⟨rfl, _, rfl, ?_⟩
    have hgd : ds.getD i 0 = ds[i] := by rw [List.getD_eq_getElem?_getD, List.getElem?_eq_getElem hi]; rfl
    rw [woodSt, hgd]
    have hlen := (woodSt_ok pool most ds i).2
    generalize woodSt pool most ds i = q at hlen
    obtain ⟨f, hi'⟩ := q
    simp only at hlen
    have hll : f.length < line := by show f.length < 16777216; omega
    have hlb : 2 ≤ line := by decide
    have mk := sp_marks (m := m) (d := d) hmk pool (ds[i] / 4 % 16) hp
    unfold woodStep b__law_wood_1
    simp only [mny]
    have mny3 : ((3 : Int) + 1) / 2 = 2 := by omega
    by_cases c1 : hi' < (ds[i] % 4 + 1) / 2
    · by_cases A : most < (f.length : Int) + hi' + 1
      · by_cases B : 1 < hi'
        · by_cases C : (f.length : Int) + hi' + 1 - 2 ≤ most
          · simp [c1, A, B, C, mk, hmk.has, st0, set0, takj, hll, hlb, plD]
          · simp [c1, A, B, C, mk, hmk.has, st0, set0, takj, hll, hlb, plD]
        · have C : ¬ (f.length : Int) + hi' + 1 ≤ most := by omega
          simp [c1, A, B, C, mk, hmk.has, st0, set0, takj, hll, hlb, plD]
      · have C : (f.length : Int) + hi' + 1 ≤ most := by omega
        have B := True.intro
        simp [c1, A, B, C, mk, hmk.has, st0, set0, takj, hll, hlb, plD]
    · by_cases A : most < (f.length : Int) + hi' + 1 - (ds[i] % 4 + 1) / 2
      · by_cases B : 1 < hi'
        · by_cases C : (f.length : Int) + hi' + 1 - 2 ≤ most
          · simp [c1, A, B, C, mk, hmk.has, st0, set0, takj, hll, hlb, plD]
          · simp [c1, A, B, C, mk, hmk.has, st0, set0, takj, hll, hlb, plD]
        · have C : ¬ (f.length : Int) + hi' + 1 - (ds[i] % 4 + 1) / 2 ≤ most := by omega
          simp [c1, A, B, C, mk, hmk.has, st0, set0, takj, hll, hlb, plD]
      · have C : (f.length : Int) + hi' + 1 - (ds[i] % 4 + 1) / 2 ≤ most := by omega
        have B := True.intro
        simp [c1, A, B, C, mk, hmk.has, st0, set0, takj, hll, hlb, plD]) (fun _ _ _ => rfl)
  obtain ⟨env', s', h1, ⟨g1, g2, g3, h2⟩, h3⟩ := key
  simp only [List.length_map] at h2 h3
  unfold woodI
  obtain ⟨w1, w2⟩ := woodSt_ok pool most ds ds.length
  generalize woodSt pool most ds ds.length = q at h2 h3 w1 w2
  obtain ⟨f, hi⟩ := q
  have hh := hgt_le w1.1
  have e : hgt (f.map (·.1)) = hi := w1.2
  rw [e] at hh
  simp only [List.length_map] at hh w2 h2 h3 ⊢
  subst h2 h3
  have k2 := whileL_inv (n := s.length + 1) (test := fun e s => evT (cxΔ Δ m (d + 1)) t__law_wood_2 e s) (body := fun e s => evSs (cxΔ Δ m (d + 1)) b__law_wood_3 e s)
    (I := fun h env s1 => ∃ (f' : List Plc), (∃ g1 g2 g3, env = [some (.d (.lst (ds.map .int))), some (.d (.str pool)), some (.d (.int most)), some (.ref s.length), some (.d (.int (h : Int))), g1, g2, g3]) ∧ s1 = s ++ [.lst (f'.reverse.map plD)] ∧ woodEnd f' h = woodEnd f hi.toNat ∧ h ≤ f'.length ∧ f'.length + h ≤ 300000)
    (J := fun env s1 => (∃ g0 g1 g2 g3, env = [some (.d (.lst (ds.map .int))), some (.d (.str pool)), some (.d (.int most)), some (.ref s.length), g0, g1, g2, g3]) ∧ s1 = s ++ [.lst ((woodEnd f hi.toNat).reverse.map plD)]) (by
    rintro h env s1 ⟨f', ⟨g1, g2, g3, rfl⟩, rfl, hw, hle, hle2⟩
    by_cases c : 1 < h
    · right
      have c' : (1 : Int) < (h : Int) := by omega
      refine ⟨s ++ [.lst (f'.reverse.map plD)], by unfold t__law_wood_2; simp [c'], ?_⟩
      obtain ⟨h', rfl⟩ : ∃ h', h = h' + 2 := ⟨h - 2, by omega⟩
      rw [woodEnd] at hw
      have hil : h' + 1 < f'.reverse.length := by rw [List.length_reverse]; omega
      have hge : (f'.reverse)[h' + 1]? = some ((f'.reverse)[h' + 1]'hil) := List.getElem?_eq_getElem hil
      rw [hge] at hw
      generalize (f'.reverse)[h' + 1]'hil = p at hge hw
      obtain ⟨pb, pm⟩ := p
      have hat : L2.atI ((f'.reverse).map plD) ((h' : Int) + 2 - 1) = some (plD (pb, pm)) := by
        rw [show (h' : Int) + 2 - 1 = ((h' + 1 : Nat) : Int) by omega, atI_nat (by rw [List.length_map, List.length_reverse]; omega), List.getElem?_map, hge]
        rfl
      have a1 : L2.atI [D.int pb, D.str pm] 1 = some (D.str pm) := rfl
      have hll : f'.length < line := by show f'.length < 16777216; omega
      have hlb : 2 ≤ line := by decide
      rw [List.map_reverse] at hat
      unfold b__law_wood_3
      have hat2 : L2.atI (List.map plD f').reverse ((h' : Int) + 1 + 1 - 1) = some (plD (pb, pm)) := by rw [show (h' : Int) + 1 + 1 - 1 = h' + 2 - 1 by omega]; exact hat
      simp [st0, set0, takj, hat, hat2, plD, a1, hll, hlb]
      refine ⟨h' + 1, by omega, by omega, (3, pm) :: f', by simp [plD], hw, by simp; omega, by simp; omega⟩
    · left
      refine ⟨s ++ [.lst (f'.reverse.map plD)], by unfold t__law_wood_2; simp; omega, ⟨_, _, _, _, rfl⟩, ?_⟩
      have : woodEnd f' h = f' := by
        match h, c with
        | 0, _ => rw [woodEnd]
        | 1, _ => rw [woodEnd]
        | h + 2, c => exact absurd c (by omega)
      rw [← hw, this])
    m hi.toNat [some (.d (.lst (ds.map .int))), some (.d (.str pool)), some (.d (.int most)), some (.ref s.length), some (.d (.int hi)), g1, g2, g3] (s ++ [.lst (f.reverse.map plD)])
    ⟨f, ⟨_, _, _, by rw [show ((hi.toNat : Nat) : Int) = hi by omega]⟩, rfl, rfl, by omega, by omega⟩ (by omega)
  obtain ⟨env', s', k1, ⟨g0, g1', g2', g3', k2⟩, k3⟩ := k2
  subst k2 k3
  rw [List.map_reverse] at h1 k1
  rw [List.map_reverse]
  simp [h1, k1, st0, tak0]
end
end Pv

/-! Links and sizes. -/
namespace Pv
open PySem
/-- the tops that wait behind the places r (the last first) -/
def stk : List Int → List Int
  | [] => []
  | b :: r => (r.length : Int) :: (stk r).drop (mny b).toNat
def lft (b : Int) (r : List Int) : Option Int := if b = 1 then (stk r)[0]? else if b = 3 then (stk r)[1]? else none
def rgt (b : Int) (r : List Int) : Option Int := if 2 ≤ b then (stk r)[0]? else none
def oD : Option Int → D
  | some i => .int i
  | none => .non
def lnkR : List Int → List D
  | [] => []
  | b :: r => .tup [oD (lft b r), oD (rgt b r)] :: lnkR r
def atR (l : List Int) (p : Int) : Int := (l.reverse[p.toNat]?).getD 0
def szR : List Int → List Int
  | [] => []
  | b :: r => (1 + (match lft b r with | some p => atR (szR r) p | none => 0) + (match rgt b r with | some p => atR (szR r) p | none => 0)) :: szR r
theorem szR_len : ∀ r, (szR r).length = r.length
  | [] => rfl
  | b :: r => by rw [szR, List.length_cons, List.length_cons, szR_len r]
theorem lnkR_len : ∀ r, (lnkR r).length = r.length
  | [] => rfl
  | b :: r => by rw [lnkR, List.length_cons, List.length_cons, lnkR_len r]
theorem stk_len : ∀ {r : List Int}, Wd r → ((stk r).length : Int) = hgt r
  | [], _ => rfl
  | b :: r, h => by
    obtain ⟨h0, h3, h1, h2⟩ := h
    have ih := stk_len h2
    rw [stk, List.length_cons, List.length_drop, hgt]
    have : 0 ≤ mny b := by unfold mny; omega
    omega
/-- the chain of tops: each one right ahead of the part above it -/
def Chn (sz : Int → Int) : Int → List Int → Prop
  | p, [] => p = -1
  | p, q :: l => q = p ∧ 0 ≤ p ∧ Chn sz (p - sz p) l
theorem Chn.congr {sz sz' : Int → Int} : ∀ {l : List Int} {p n : Int}, Chn sz p l → p < n → (∀ i, 0 ≤ i → i < n → sz i = sz' i ∧ 1 ≤ sz i) → Chn sz' p l
  | [], p, n, h, _, _ => h
  | q :: l, p, n, h, hp, e => by
    obtain ⟨h1, h2, h3⟩ := h
    have := e p h2 hp
    refine ⟨h1, h2, ?_⟩
    rw [← this.1]
    exact Chn.congr (n := n) h3 (by omega) e
theorem Chn.le {sz : Int → Int} : ∀ {l : List Int} {p n : Int}, Chn sz p l → p < n → (∀ i, 0 ≤ i → i < n → 1 ≤ sz i) → ∀ q ∈ l, 0 ≤ q ∧ q ≤ p
  | [], p, n, h, _, _ => fun q hq => by cases hq
  | x :: l, p, n, h, hp, e => by
    obtain ⟨rfl, h2, h3⟩ := h
    intro q hq
    rcases List.mem_cons.mp hq with rfl | hq
    · omega
    · have h1 := e x h2 hp
      have := Chn.le (n := n) h3 (by omega) e q hq
      omega
theorem atR_old {l : List Int} {x p : Int} (h0 : 0 ≤ p) (h1 : p < l.length) : atR (x :: l) p = atR l p := by
  unfold atR
  rw [List.reverse_cons, List.getElem?_append_left (by rw [List.length_reverse]; omega)]
theorem atR_new {l : List Int} {x : Int} : atR (x :: l) l.length = x := by
  unfold atR
  rw [List.reverse_cons, Int.toNat_natCast, List.getElem?_append_right (by rw [List.length_reverse]; exact Nat.le_refl _), List.length_reverse, Nat.sub_self]
  rfl
theorem four {b : Int} (h0 : 0 ≤ b) (h3 : b ≤ 3) : b = 0 ∨ b = 1 ∨ b = 2 ∨ b = 3 := by omega
theorem tree_chain : ∀ {r : List Int}, Wd r → Chn (atR (szR r)) ((r.length : Int) - 1) (stk r) ∧ ∀ i, 0 ≤ i → i < (r.length : Int) → 1 ≤ atR (szR r) i
  | [], _ => ⟨rfl, fun i h0 h1 => absurd h1 (by simp; omega)⟩
  | b :: r, w => by
    obtain ⟨h0, h3, h1, h2⟩ := w
    obtain ⟨ch, ps⟩ := tree_chain h2
    have hl := stk_len h2
    have sl := szR_len r
    have pos : ∀ p ∈ stk r, 1 ≤ atR (szR r) p := fun p hp => by
      have := Chn.le (n := r.length) ch (by omega) ps p hp
      exact ps p this.1 (by omega)
    have le := Chn.le (n := r.length) ch (by omega) ps
    have old : ∀ x i, 0 ≤ i → i < (r.length : Int) → atR (szR r) i = atR (x :: szR r) i ∧ 1 ≤ atR (szR r) i := fun x i a b => ⟨(atR_old a (by rw [sl]; exact b)).symm, ps i a b⟩
    have new : ∀ x, atR (x :: szR r) (r.length : Int) = x := fun x => by rw [← sl]; exact atR_new
    refine ⟨?_, ?_⟩
    · rw [stk, szR, List.length_cons]
      refine ⟨by omega, by omega, ?_⟩
      rw [show ((r.length + 1 : Nat) : Int) - 1 = r.length by omega, new]
      rcases four h0 h3 with rfl | rfl | rfl | rfl
      · rw [show (r.length : Int) - _ = r.length - 1 by simp [lft, rgt]]
        exact ch.congr (n := r.length) (by omega) (old _)
      · cases hs : stk r with
        | nil => rw [hs] at hl; simp [mny] at h1 hl; omega
        | cons t l =>
          rw [hs] at ch
          obtain ⟨e, e0, c⟩ := ch
          rw [show (r.length : Int) - _ = r.length - 1 - atR (szR r) (r.length - 1) by simp [lft, rgt, hs, e]; omega]
          have := ps _ e0 (by omega)
          exact c.congr (n := r.length) (by omega) (old _)
      · cases hs : stk r with
        | nil => rw [hs] at hl; simp [mny] at h1 hl; omega
        | cons t l =>
          rw [hs] at ch
          obtain ⟨e, e0, c⟩ := ch
          rw [show (r.length : Int) - _ = r.length - 1 - atR (szR r) (r.length - 1) by simp [lft, rgt, hs, e]; omega]
          have := ps _ e0 (by omega)
          exact c.congr (n := r.length) (by omega) (old _)
      · match hs : stk r with
        | [] => rw [hs] at hl; simp [mny] at h1 hl; omega
        | [t] => rw [hs] at hl; simp [mny] at h1 hl; omega
        | t :: t1 :: l =>
          rw [hs] at ch
          obtain ⟨e, e0, e1, e2, c⟩ := ch
          have q1 := ps _ e0 (by omega)
          have q2 := ps _ e2 (by omega)
          rw [show (r.length : Int) - _ = r.length - 1 - atR (szR r) (r.length - 1) - atR (szR r) (r.length - 1 - atR (szR r) (r.length - 1)) by simp [lft, rgt, hs, e, e1]; omega]
          exact c.congr (n := r.length) (by omega) (old _)
    · intro i a b'
      rw [List.length_cons] at b'
      rw [szR]
      by_cases q : i < r.length
      · rw [← (old _ i a q).1]; exact ps i a q
      · have : i = r.length := by omega
        subst this
        rw [new]
        have l0 : ∀ p, lft b r = some p → 1 ≤ atR (szR r) p := fun p hp => by
          unfold lft at hp
          split at hp
          · exact pos p (List.mem_of_getElem? hp)
          · split at hp
            · exact pos p (List.mem_of_getElem? hp)
            · cases hp
        have r0 : ∀ p, rgt b r = some p → 1 ≤ atR (szR r) p := fun p hp => by
          unfold rgt at hp
          split at hp
          · exact pos p (List.mem_of_getElem? hp)
          · cases hp
        split <;> split <;> rename_i x y <;> first | omega | (have := l0 _ ‹_›; have := r0 _ ‹_›; omega) | (have := l0 _ ‹_›; omega) | (have := r0 _ ‹_›; omega)
/-- the last one first: the places up to i -/
def pre (t : List Plc) (i : Nat) : List Int := ((t.take i).map (·.1)).reverse
theorem pre_succ {t : List Plc} {i : Nat} (h : i < t.length) : pre t (i + 1) = t[i].1 :: pre t i := by
  unfold pre
  rw [List.take_succ_eq_append_getElem h, List.map_append, List.reverse_append]
  rfl
theorem pre_len {t : List Plc} {i : Nat} (h : i ≤ t.length) : (pre t i).length = i := by
  unfold pre
  rw [List.length_reverse, List.length_map, List.length_take, Nat.min_eq_left h]
theorem Wd.tail {a : List Int} : ∀ {p : List Int}, Wd (p ++ a) → Wd a
  | [], h => h
  | _ :: p, h => Wd.tail (p := p) h.2.2.2
theorem pre_wd {t : List Plc} (w : Wd (t.map (·.1)).reverse) (i : Nat) : Wd (pre t i) := by
  have e : (t.map (·.1)).reverse = ((t.drop i).map (·.1)).reverse ++ pre t i := by
    unfold pre
    rw [← List.reverse_append, ← List.map_append, List.take_append_drop]
  rw [e] at w
  exact w.tail
theorem pre_all (t : List Plc) : pre t t.length = (t.map (·.1)).reverse := by unfold pre; rw [List.take_length]
def linksI (t : List Plc) : List D := (lnkR (t.map (·.1)).reverse).reverse
def sizesI (t : List Plc) : List Int := (szR (t.map (·.1)).reverse).reverse
theorem stk_in {r : List Int} (w : Wd r) : ∀ q ∈ stk r, 0 ≤ q ∧ q < (r.length : Int) := fun q hq => by
  obtain ⟨ch, ps⟩ := tree_chain w
  have := Chn.le (n := r.length) ch (by omega) ps q hq
  omega
theorem ixD {t : List Plc} {i : Nat} (h : i < t.length) : L2.atI (t.map plD) (i : Int) = some (plD t[i]) := by
  rw [atI_nat (by rw [List.length_map]; exact h), List.getElem?_map, List.getElem?_eq_getElem h]
  rfl
section
variable {Δ : Prog} {m d : Nat}
theorem ix0 (a b : D) : L2.atI [a, b] 0 = some a := rfl
theorem ix1 (a b : D) : L2.atI [a, b] 1 = some b := rfl
theorem sp_links (h : Has Δ "links_of" 1 7 b_links_of) (t : List Plc) (w : Wd (t.map (·.1)).reverse) (hl : t.length < line) (s : Store) :
    Φ Δ m (d + 1) "links_of" [.d (.tup (t.map plD))] s = .ok (.d (.tup (linksI t))) s := by
  rw [h.run rfl]
  unfold b_links_of
  have key := forL_inv (w := ⟨rangeL 0 t.length, none⟩) (n := s.length + 2) (tg := .name 3) (body := fun e s => evSs (cxΔ Δ m d) b_links_of_1 e s)
    (env := [some (.d (.tup (t.map plD))), some (.ref s.length), some (.ref (s.length + 1)), none, none, none, none]) (s := s ++ [.lst [], .lst []])
    (fun i env s1 => (∃ g1 g2 g3 g4, env = [some (.d (.tup (t.map plD))), some (.ref s.length), some (.ref (s.length + 1)), g1, g2, g3, g4]) ∧ s1 = s ++ [.lst (lnkR (pre t i)).reverse, .lst ((stk (pre t i)).reverse.map .int)])
    ⟨⟨_, _, _, _, rfl⟩, rfl⟩ (by
    rintro i dd env s1 hdd ⟨⟨g1, g2, g3, g4, rfl⟩, rfl⟩
    obtain ⟨hi, rfl⟩ := rl_get _ hdd
    refine ⟨rfl, _, rfl, ?_⟩
    have hix := ixD hi
    have wd := pre_wd w (i + 1)
    rw [pre_succ hi] at wd ⊢
    have pl := pre_len (t := t) (i := i) (by omega)
    obtain ⟨w0, w3, w1, w2⟩ := wd
    have sl := stk_len w2
    have hll : (lnkR (pre t i)).length < line := by rw [lnkR_len, pl]; omega
    have hls : (stk (pre t i)).length < line := by have := hgt_le w2; rw [pl] at this; omega
    have hlb : 2 ≤ line := by decide
    unfold b_links_of_1
    rw [lnkR, stk, pl]
    generalize hb : t[i].1 = b at w0 w3 w1
    have hix : L2.atI (t.map plD) (i : Int) = some (.tup [.int b, .str t[i].2]) := by rw [hix, ← hb]; rfl
    generalize pre t i = r at *
    have h20 : ¬ (2 : Int) ≤ 0 := by omega
    have h21 : ¬ (2 : Int) ≤ 1 := by omega
    rcases four w0 w3 with rfl | rfl | rfl | rfl
    · simp [hix, ix0, st0, stj, set0, setj, takj, hll, hls, hlb, lft, rgt, oD, mny]
    · cases hs : stk r with
      | nil => rw [hs] at sl; simp [mny] at w1 sl; omega
      | cons t0 l =>
        rw [hs] at hls
        simp only [List.length_cons] at hls
        have hls' : l.length < line := by omega
        simp [hix, ix0, st0, stj, set0, setj, takj, hll, hls', hlb, lft, rgt, oD, mny, hs]
    · cases hs : stk r with
      | nil => rw [hs] at sl; simp [mny] at w1 sl; omega
      | cons t0 l =>
        rw [hs] at hls
        simp only [List.length_cons] at hls
        have hls' : l.length < line := by omega
        simp [hix, ix0, st0, stj, set0, setj, takj, hll, hls', hlb, lft, rgt, oD, mny, hs]
    · match hs : stk r with
      | [] => rw [hs] at sl; simp [mny] at w1 sl; omega
      | [t0] => rw [hs] at sl; simp [mny] at w1 sl; omega
      | t0 :: t1 :: l =>
        rw [hs] at hls
        simp only [List.length_cons] at hls
        have hls' : l.length < line := by omega
        simp [hix, ix0, st0, stj, set0, setj, takj, hll, hls', hlb, lft, rgt, oD, mny, hs]) (fun _ _ _ => rfl)
  obtain ⟨env', s', h1, ⟨g1, g2, g3, g4, h2⟩, h3⟩ := key
  simp only [rl_len] at h2 h3
  subst h2 h3
  have hr := lenR_ok (Nat.le_of_lt hl)
  rw [pre_all] at h1
  simp [hr, h1, st0, tak0, linksI]
theorem lnkR_at (b : Int) (r : List Int) : ∀ p : List Int, (lnkR (p ++ b :: r)).reverse[r.length]? = some (.tup [oD (lft b r), oD (rgt b r)])
  | [] => by
    show ((.tup [oD (lft b r), oD (rgt b r)] :: lnkR r).reverse)[r.length]? = _
    rw [List.reverse_cons, List.getElem?_append_right (by rw [List.length_reverse, lnkR_len]; exact Nat.le_refl _), List.length_reverse, lnkR_len, Nat.sub_self]
    rfl
  | x :: p => by
    show ((.tup [oD (lft x (p ++ b :: r)), oD (rgt x (p ++ b :: r))] :: lnkR (p ++ b :: r)).reverse)[r.length]? = _
    rw [List.reverse_cons, List.getElem?_append_left (by rw [List.length_reverse, lnkR_len, List.length_append, List.length_cons]; omega)]
    exact lnkR_at b r p
theorem pre_split {t : List Plc} {i : Nat} (h : i < t.length) : ∃ p, (t.map (·.1)).reverse = p ++ t[i].1 :: pre t i := by
  refine ⟨((t.drop (i + 1)).map (·.1)).reverse, ?_⟩
  rw [← pre_succ h]
  unfold pre
  rw [← List.reverse_append, ← List.map_append, List.take_append_drop]
theorem linksI_at {t : List Plc} {i : Nat} (h : i < t.length) : (linksI t)[i]? = some (.tup [oD (lft t[i].1 (pre t i)), oD (rgt t[i].1 (pre t i))]) := by
  obtain ⟨p, e⟩ := pre_split h
  unfold linksI
  rw [e]
  have := lnkR_at t[i].1 (pre t i) p
  rw [pre_len (by omega)] at this
  exact this
theorem linksI_len (t : List Plc) : (linksI t).length = t.length := by
  unfold linksI
  rw [List.length_reverse, lnkR_len, List.length_reverse, List.length_map]
theorem atR_ix {r : List Int} {p : Int} (h0 : 0 ≤ p) (h1 : p < r.length) : L2.atI (List.map D.int r).reverse p = some (.int (atR r p)) := by
  rw [atI_pos h0 (by rw [List.length_reverse, List.length_map]; exact h1), ← List.map_reverse, List.getElem?_map]
  unfold atR
  have : p.toNat < r.reverse.length := by rw [List.length_reverse]; omega
  rw [List.getElem?_eq_getElem this]
  rfl
theorem lft_in {b : Int} {r : List Int} (w : Wd r) {p : Int} (h : lft b r = some p) : 0 ≤ p ∧ p < (r.length : Int) := by
  unfold lft at h
  split at h
  · exact stk_in w p (List.mem_of_getElem? h)
  · split at h
    · exact stk_in w p (List.mem_of_getElem? h)
    · cases h
theorem rgt_in {b : Int} {r : List Int} (w : Wd r) {p : Int} (h : rgt b r = some p) : 0 ≤ p ∧ p < (r.length : Int) := by
  unfold rgt at h
  split at h
  · exact stk_in w p (List.mem_of_getElem? h)
  · cases h
theorem sp_sizes (h : Has Δ "sizes_of" 1 5 b_sizes_of) (hL : Has Δ "links_of" 1 7 b_links_of) (t : List Plc) (w : Wd (t.map (·.1)).reverse) (hl : t.length < line) (s : Store) :
    Φ Δ m (d + 2) "sizes_of" [.d (.tup (t.map plD))] s = .ok (.d (.tup ((sizesI t).map .int))) s := by
  rw [h.run rfl]
  unfold b_sizes_of
  have hlk := sp_links (m := m) (d := d) hL t w hl
  have key := forL_inv (w := ⟨linksI t, none⟩) (n := s.length + 1) (tg := .tup (.cons (.name 2) (.cons (.name 3) .nil))) (body := fun e s => evSs (cxΔ Δ m (d + 1)) b_sizes_of_1 e s)
    (env := [some (.d (.tup (t.map plD))), some (.ref s.length), none, none, none]) (s := s ++ [.lst []])
    (fun i env s1 => (∃ g1 g2 g3, env = [some (.d (.tup (t.map plD))), some (.ref s.length), g1, g2, g3]) ∧ s1 = s ++ [.lst ((szR (pre t i)).reverse.map .int)])
    ⟨⟨_, _, _, rfl⟩, rfl⟩ (by
    rintro i dd env s1 hdd ⟨⟨g1, g2, g3, rfl⟩, rfl⟩
    have hdd : (linksI t)[i]? = some dd := hdd
    have hi : i < t.length := by
      rcases Nat.lt_or_ge i t.length with q | q
      · exact q
      · rw [List.getElem?_eq_none (by rw [linksI_len]; exact q)] at hdd; cases hdd
    rw [linksI_at hi] at hdd
    cases hdd
    have wd := pre_wd w i
    rw [pre_succ hi]
    have pl := pre_len (t := t) (i := i) (by omega)
    generalize t[i].1 = b
    generalize pre t i = r at wd pl
    have hsl : (szR r).length < line := by rw [szR_len]; omega
    have sl := szR_len r
    unfold b_sizes_of_1
    rw [szR]
    cases hL' : lft b r with
    | none =>
      cases hR' : rgt b r with
      | none =>
        refine ⟨rfl, _, rfl, ?_⟩
        simp [oD, st0, set0, takj, hsl]
      | some p =>
        obtain ⟨p0, p1⟩ := rgt_in wd hR'
        have a := atR_ix (r := szR r) p0 (by omega)
        refine ⟨rfl, _, rfl, ?_⟩
        simp [oD, st0, set0, takj, hsl, a]
    | some q =>
      obtain ⟨q0, q1⟩ := lft_in wd hL'
      have a' := atR_ix (r := szR r) q0 (by omega)
      cases hR' : rgt b r with
      | none =>
        refine ⟨rfl, _, rfl, ?_⟩
        simp [oD, st0, set0, takj, hsl, a']
      | some p =>
        obtain ⟨p0, p1⟩ := rgt_in wd hR'
        have a := atR_ix (r := szR r) p0 (by omega)
        refine ⟨rfl, _, rfl, ?_⟩
        simp [oD, st0, set0, takj, hsl, a, a']) (fun _ _ _ => rfl)
  obtain ⟨env', s', h1, ⟨g1, g2, g3, h2⟩, h3⟩ := key
  simp only [linksI_len] at h2 h3
  subst h2 h3
  rw [pre_all] at h1
  simp [hlk, hL.has, h1, st0, tak0, sizesI]
theorem sizesI_len (t : List Plc) : (sizesI t).length = t.length := by
  unfold sizesI
  rw [List.length_reverse, szR_len, List.length_reverse, List.length_map]
end
end Pv

/-! Bodies of defs that many laws have (printed by gen.py). -/
namespace Pv
/- slots of is_small: 0 letter -/
def b_is_small : Ss :=
 (.cons (.ret (.cmp .isin (.var 0) (.glob "SMALL_LETTERS")))
 .nil)
/- slots of _law_built: 0 _law_draws_here, 1 _law_many, 2 _law_pool_here, 3 _law_words, 4 _law_heap, 5 _law_parts, 6 _law_k, 7 _law_at, 8 _law_a, 9 _law_b, 10 _law_last, 11 _law_inner -/
def b__law_built_1 : Ss :=
 (.cons (.set 7 (.bin .mod (.ix (.var 0) (.bin .mul (.int 3) (.var 6))) (.int 10)))
 (.cons (.set 8 (.ix (.var 2) (.bin .mod (.ix (.var 0) (.bin .add (.bin .mul (.int 3) (.var 6)) (.int 1))) (.blt .len (.cons (.var 2) .nil)))))
 (.cons (.set 9 (.ix (.var 2) (.bin .mod (.ix (.var 0) (.bin .add (.bin .mul (.int 3) (.var 6)) (.int 2))) (.blt .len (.cons (.var 2) .nil)))))
 (.cons (.ife (.and (.cons (.cmp .ge (.var 7) (.int 8)) (.cons (.cmp .gt (.blt .len (.cons (.var 4) .nil)) (.int 1)) .nil))) (.cons (.set 10 (.meth .pop (.var 4) .nil))
 (.cons (.setix (.var 4) (.neg (.int 1)) (.tup (.cons (.ix (.var 3) (.var 7)) (.cons (.ix (.var 4) (.neg (.int 1))) (.cons (.var 10) .nil)))))
 (.cons (.set 5 (.bin .add (.var 5) (.int 1)))
 .nil))) (.cons (.ife (.and (.cons (.cmp .isin (.var 7) (.tup (.cons (.int 5) (.cons (.int 6) (.cons (.int 7) .nil))))) (.cons (.cmp .gt (.blt .len (.cons (.var 4) .nil)) (.int 0)) .nil))) (.cons (.ife (.cmp .le (.bin .add (.var 5) (.blt .len (.cons (.var 4) .nil))) (.int 30)) (.cons (.set 11 (.meth .pop (.var 4) .nil))
 (.cons (.ife (.cmp .eq (.var 7) (.int 5)) (.cons (.ex (.meth .append (.var 4) (.cons (.tup (.cons (.str [110, 111, 116]) (.cons (.var 11) .nil))) .nil)))
 .nil) (.cons (.ex (.meth .append (.var 4) (.cons (.tup (.cons (.ix (.var 3) (.var 7)) (.cons (.var 8) (.cons (.var 11) .nil)))) .nil)))
 .nil))
 (.cons (.set 5 (.bin .add (.var 5) (.int 1)))
 .nil))) .nil)
 .nil) (.cons (.ife (.cmp .le (.bin .add (.bin .add (.var 5) (.blt .len (.cons (.var 4) .nil))) (.int 1)) (.int 30)) (.cons (.ife (.cmp .eq (.bin .mod (.var 7) (.int 5)) (.int 1)) (.cons (.ex (.meth .append (.var 4) (.cons (.tup (.cons (.str [111, 110, 101]) (.cons (.var 8) .nil))) .nil)))
 .nil) (.cons (.ex (.meth .append (.var 4) (.cons (.tup (.cons (.ix (.var 3) (.bin .mod (.var 7) (.int 5))) (.cons (.var 8) (.cons (.var 9) .nil)))) .nil)))
 .nil))
 (.cons (.set 5 (.bin .add (.var 5) (.int 1)))
 .nil)) .nil)
 .nil))
 .nil))
 .nil))))
def t__law_built_2 : E :=
 (.cmp .gt (.blt .len (.cons (.var 4) .nil)) (.int 1))
def b__law_built_3 : Ss :=
 (.cons (.set 10 (.meth .pop (.var 4) .nil))
 (.cons (.setix (.var 4) (.neg (.int 1)) (.tup (.cons (.ix (.var 3) (.bin .add (.int 8) (.bin .mod (.blt .len (.cons (.var 4) .nil)) (.int 2)))) (.cons (.ix (.var 4) (.neg (.int 1))) (.cons (.var 10) .nil)))))
 .nil))
def b__law_built : Ss :=
 (.cons (.set 3 (.frz (.list (.cons (.str [105, 110]) (.cons (.str [111, 110, 101]) (.cons (.str [108, 101, 102, 116]) (.cons (.str [114, 105, 103, 104, 116]) (.cons (.str [98, 101, 108, 111, 119]) (.cons (.str [110, 111, 116]) (.cons (.str [115, 111, 109, 101]) (.cons (.str [97, 108, 108]) (.cons (.str [97, 110, 100]) (.cons (.str [111, 114]) .nil)))))))))))))
 (.cons (.set 4 (.list .nil))
 (.cons (.set 5 (.int 0))
 (.cons (.forr (.name 6) (.range (.cons (.var 1) .nil)) b__law_built_1)
 (.cons (.whil t__law_built_2 b__law_built_3)
 (.cons (.ret (.ix (.var 4) (.int 0)))
 .nil))))))
/- slots of _law_one_of: 0 _law_script, 1 _law_k, 2 _law_sizes, 3 _law_pool_here, 4 _law_draws_here -/
def b__law_one_of : Ss :=
 (.cons (.set 2 (.frz (.call "_law_draws" (.cons (.call "_law_cell" (.cons (.var 0) (.cons (.var 1) .nil))) (.cons (.int 2) (.cons (.bin .add (.int 100003) (.bin .mul (.int 500) (.var 1))) .nil))))))
 (.cons (.set 3 (.call "_law_pool" (.cons (.call "_law_cell" (.cons (.var 0) (.cons (.bin .add (.var 1) (.int 1)) .nil))) (.cons (.bin .add (.int 1) (.bin .mod (.ix (.var 2) (.int 0)) (.int 8))) (.cons (.bin .add (.int 200017) (.bin .mul (.int 500) (.var 1))) .nil)))))
 (.cons (.set 4 (.frz (.call "_law_draws" (.cons (.call "_law_cell" (.cons (.var 0) (.cons (.bin .add (.var 1) (.int 2)) .nil))) (.cons (.int 45) (.cons (.bin .add (.int 300007) (.bin .mul (.int 500) (.var 1))) .nil))))))
 (.cons (.set 4 (.frz (.bin .add (.var 4) (.call "_law_draws" (.cons (.call "_law_cell" (.cons (.var 0) (.cons (.bin .add (.var 1) (.int 3)) .nil))) (.cons (.int 45) (.cons (.bin .add (.int 400009) (.bin .mul (.int 500) (.var 1))) .nil)))))))
 (.cons (.ret (.call "_law_built" (.cons (.var 4) (.cons (.bin .add (.int 1) (.bin .mod (.ix (.var 2) (.int 1)) (.int 30))) (.cons (.var 3) .nil)))))
 .nil)))))
end Pv

/-! Statements that are drawn. -/
namespace Pv
open PySem
def wIn : Tx := [105, 110]
def wLeft : Tx := [108, 101, 102, 116]
def wRight : Tx := [114, 105, 103, 104, 116]
def wBelow : Tx := [98, 101, 108, 111, 119]
/-- a statement -/
inductive Stm where
  | leaf (w : Fin 4) (a b : Nat)
  | one (a : Nat)
  | neg (s : Stm)
  | qu (all : Bool) (a : Nat) (s : Stm)
  | bi (or : Bool) (s t : Stm)
def leafW : Fin 4 → Tx
  | 0 => [105, 110]
  | 1 => [108, 101, 102, 116]
  | 2 => [114, 105, 103, 104, 116]
  | 3 => [98, 101, 108, 111, 119]
def quW (b : Bool) : Tx := if b = true then [97, 108, 108] else [115, 111, 109, 101]
def biW (b : Bool) : Tx := if b = true then [111, 114] else [97, 110, 100]
def stD : Stm → D
  | .leaf w a b => .tup [.str (leafW w), .str [a], .str [b]]
  | .one a => .tup [.str [111, 110, 101], .str [a]]
  | .neg s => .tup [.str [110, 111, 116], stD s]
  | .qu q a s => .tup [.str (quW q), .str [a], stD s]
  | .bi o s t => .tup [.str (biW o), stD s, stD t]
def Stm.sz : Stm → Nat
  | .leaf _ _ _ => 1
  | .one _ => 1
  | .neg s => s.sz + 1
  | .qu _ _ s => s.sz + 1
  | .bi _ s t => s.sz + t.sz + 1
/-- its letters are of these -/
def Stm.on (P : Nat → Prop) : Stm → Prop
  | .leaf _ a b => P a ∧ P b
  | .one a => P a
  | .neg s => s.on P
  | .qu _ a s => P a ∧ s.on P
  | .bi _ s t => s.on P ∧ t.on P
def szs (l : List Stm) : Nat := (l.map Stm.sz).sum
theorem szs_cons (s : Stm) (l : List Stm) : szs (s :: l) = s.sz + szs l := by unfold szs; rw [List.map_cons, List.sum_cons]
def WORDS : List D := [.str [105, 110], .str [111, 110, 101], .str [108, 101, 102, 116], .str [114, 105, 103, 104, 116], .str [98, 101, 108, 111, 119], .str [110, 111, 116], .str [115, 111, 109, 101], .str [97, 108, 108], .str [97, 110, 100], .str [111, 114]]
theorem ten {x : Int} (h0 : 0 ≤ x) (h1 : x < 10) : x = 0 ∨ x = 1 ∨ x = 2 ∨ x = 3 ∨ x = 4 ∨ x = 5 ∨ x = 6 ∨ x = 7 ∨ x = 8 ∨ x = 9 := by omega
/-- a heap of statements (the last one first) and the parts in it -/
structure HI (P : Nat → Prop) (hp : List Stm) (pa : Int) : Prop where
  on : ∀ s ∈ hp, s.on P
  eq : (szs hp : Int) = pa
  le : pa + hp.length ≤ 31
/-- behind a turn -/
structure Bt (ds : List Int) (n : Int) (pool : Tx) (s : Store) (e : Env) (s1 : Store) : Prop where
  ex : ∃ hp pa g6 g7 g8 g9 g10 g11, e = [some (.d (.lst (ds.map .int))), some (.d (.int n)), some (.d (.str pool)), some (.d (.lst WORDS)), some (.ref s.length), some (.d (.int pa)), g6, g7, g8, g9, g10, g11] ∧ s1 = s ++ [.lst (hp.reverse.map stD)] ∧ HI (· ∈ pool) hp pa ∧ hp ≠ []
section
variable {Δ : Prog} {m d : Nat}
theorem ixN_last {n : Nat} (h : 0 < n) : L2.ixN n (-1) = some (n - 1) := by
  unfold L2.ixN
  rw [if_neg (by omega), if_pos (by omega)]
  congr 1
  omega
theorem built_turn (ds : List Int) (pool : Tx) (n : Int) (hds : ds.length = 90) (hp0 : 0 < pool.length) (hp1 : pool.length ≤ 52) (i : Nat) (hi : i < 30) (hp : List Stm) (pa : Int) (H : HI (· ∈ pool) hp pa) (s : Store) (g7 g8 g9 g10 g11 : Option Val) :
    (evSs (cxΔ Δ m d) b__law_built_1 [some (.d (.lst (ds.map .int))), some (.d (.int n)), some (.d (.str pool)), some (.d (.lst WORDS)), some (.ref s.length), some (.d (.int pa)), some (.d (.int i)), g7, g8, g9, g10, g11] (s ++ [.lst (hp.reverse.map stD)])).turn fun e s1 => Bt ds n pool s (e.map (kill (s.length + 1))) (s1.take (s.length + 1)) := by
  have ga : ∀ j : Nat, j < 90 → ∃ x, L2.atI (ds.map D.int) (j : Int) = some (.int x) := fun j hj => by
    have := atI_nat (l := ds.map D.int) (k := j) (by rw [List.length_map]; omega)
    rw [this, List.getElem?_map, List.getElem?_eq_getElem (by omega)]
    exact ⟨_, rfl⟩
  obtain ⟨x0, e0⟩ := ga (3 * i) (by omega)
  obtain ⟨x1, e1⟩ := ga (3 * i + 1) (by omega)
  obtain ⟨x2, e2⟩ := ga (3 * i + 2) (by omega)
  rw [show ((3 * i : Nat) : Int) = 3 * (i : Int) by omega] at e0
  rw [show ((3 * i + 1 : Nat) : Int) = 3 * (i : Int) + 1 by omega] at e1
  rw [show ((3 * i + 2 : Nat) : Int) = 3 * (i : Int) + 2 by omega] at e2
  have mk : okMul 3 (i : Int) = true := okM1 (by omega)
  have pl : (0 : Int) < pool.length := by omega
  obtain ⟨a, ea, ea'⟩ := atI_some (l := pool) (i := x1 % (pool.length : Int)) (Int.emod_nonneg _ (by omega)) (Int.emod_lt_of_pos _ pl)
  obtain ⟨b, eb, eb'⟩ := atI_some (l := pool) (i := x2 % (pool.length : Int)) (Int.emod_nonneg _ (by omega)) (Int.emod_lt_of_pos _ pl)
  have ha : a ∈ pool := List.mem_of_getElem? ea'
  have hb : b ∈ pool := List.mem_of_getElem? eb'
  have hpl : pool.length ≤ line := by show _ ≤ 16777216; omega
  have y0 := Int.emod_nonneg x0 (b := 10) (by omega)
  have y1 := Int.emod_lt_of_pos x0 (b := 10) (by omega)
  generalize hy : x0 % 10 = y at y0 y1
  have l3 : 3 ≤ line := by decide
  have l0 : 0 < line := by decide
  have l2 : 2 ≤ line := by decide
  obtain ⟨hon, hpa, hle⟩ := H
  have hll : hp.length < line := by show _ < 16777216; omega
  unfold b__law_built_1
  have plN : 0 < pool.length := hp0
  have W0 : L2.atI WORDS 0 = some (.str [105, 110]) := rfl
  have W1 : L2.atI WORDS 1 = some (.str [111, 110, 101]) := rfl
  have W2 : L2.atI WORDS 2 = some (.str [108, 101, 102, 116]) := rfl
  have W3 : L2.atI WORDS 3 = some (.str [114, 105, 103, 104, 116]) := rfl
  have W4 : L2.atI WORDS 4 = some (.str [98, 101, 108, 111, 119]) := rfl
  have W6 : L2.atI WORDS 6 = some (.str [115, 111, 109, 101]) := rfl
  have W7 : L2.atI WORDS 7 = some (.str [97, 108, 108]) := rfl
  have W8 : L2.atI WORDS 8 = some (.str [97, 110, 100]) := rfl
  have W9 : L2.atI WORDS 9 = some (.str [111, 114]) := rfl
  rcases ten y0 y1 with rfl | rfl | rfl | rfl | rfl | rfl | rfl | rfl | rfl | rfl
  · by_cases c : pa + hp.length + 1 ≤ 30
    · simp [hy, e0, e1, e2, mk, ea, eb, hpl, pl, plN, st0, set0, takj, l2, l3, c, hll, W0]
      exact ⟨.leaf 0 a b :: hp, pa + 1, _, _, _, _, _, _, rfl, by simp [stD, leafW], ⟨fun s hs => by
        rcases List.mem_cons.mp hs with rfl | hs
        · exact ⟨ha, hb⟩
        · exact hon s hs, by rw [szs_cons, ← hpa, Stm.sz]; omega, by rw [List.length_cons]; omega⟩, by simp⟩
    · simp [hy, e0, e1, e2, mk, ea, eb, hpl, pl, plN, st0, set0, takj, l2, l3, c, hll]
      exact ⟨hp, pa, _, _, _, _, _, _, rfl, by simp, ⟨hon, hpa, hle⟩, by intro q; subst q; simp [szs] at hpa c; omega⟩
  · by_cases c : pa + hp.length + 1 ≤ 30
    · simp [hy, e0, e1, e2, mk, ea, eb, hpl, pl, plN, st0, set0, takj, l2, l3, c, hll, W1]
      exact ⟨.one a :: hp, pa + 1, _, _, _, _, _, _, rfl, by simp [stD, leafW], ⟨fun s hs => by
        rcases List.mem_cons.mp hs with rfl | hs
        · exact ha
        · exact hon s hs, by rw [szs_cons, ← hpa, Stm.sz]; omega, by rw [List.length_cons]; omega⟩, by simp⟩
    · simp [hy, e0, e1, e2, mk, ea, eb, hpl, pl, plN, st0, set0, takj, l2, l3, c, hll]
      exact ⟨hp, pa, _, _, _, _, _, _, rfl, by simp, ⟨hon, hpa, hle⟩, by intro q; subst q; simp [szs] at hpa c; omega⟩
  · by_cases c : pa + hp.length + 1 ≤ 30
    · simp [hy, e0, e1, e2, mk, ea, eb, hpl, pl, plN, st0, set0, takj, l2, l3, c, hll, W2]
      exact ⟨.leaf 1 a b :: hp, pa + 1, _, _, _, _, _, _, rfl, by simp [stD, leafW], ⟨fun s hs => by
        rcases List.mem_cons.mp hs with rfl | hs
        · exact ⟨ha, hb⟩
        · exact hon s hs, by rw [szs_cons, ← hpa, Stm.sz]; omega, by rw [List.length_cons]; omega⟩, by simp⟩
    · simp [hy, e0, e1, e2, mk, ea, eb, hpl, pl, plN, st0, set0, takj, l2, l3, c, hll]
      exact ⟨hp, pa, _, _, _, _, _, _, rfl, by simp, ⟨hon, hpa, hle⟩, by intro q; subst q; simp [szs] at hpa c; omega⟩
  · by_cases c : pa + hp.length + 1 ≤ 30
    · simp [hy, e0, e1, e2, mk, ea, eb, hpl, pl, plN, st0, set0, takj, l2, l3, c, hll, W3]
      exact ⟨.leaf 2 a b :: hp, pa + 1, _, _, _, _, _, _, rfl, by simp [stD, leafW], ⟨fun s hs => by
        rcases List.mem_cons.mp hs with rfl | hs
        · exact ⟨ha, hb⟩
        · exact hon s hs, by rw [szs_cons, ← hpa, Stm.sz]; omega, by rw [List.length_cons]; omega⟩, by simp⟩
    · simp [hy, e0, e1, e2, mk, ea, eb, hpl, pl, plN, st0, set0, takj, l2, l3, c, hll]
      exact ⟨hp, pa, _, _, _, _, _, _, rfl, by simp, ⟨hon, hpa, hle⟩, by intro q; subst q; simp [szs] at hpa c; omega⟩
  · by_cases c : pa + hp.length + 1 ≤ 30
    · simp [hy, e0, e1, e2, mk, ea, eb, hpl, pl, plN, st0, set0, takj, l2, l3, c, hll, W4]
      exact ⟨.leaf 3 a b :: hp, pa + 1, _, _, _, _, _, _, rfl, by simp [stD, leafW], ⟨fun s hs => by
        rcases List.mem_cons.mp hs with rfl | hs
        · exact ⟨ha, hb⟩
        · exact hon s hs, by rw [szs_cons, ← hpa, Stm.sz]; omega, by rw [List.length_cons]; omega⟩, by simp⟩
    · simp [hy, e0, e1, e2, mk, ea, eb, hpl, pl, plN, st0, set0, takj, l2, l3, c, hll]
      exact ⟨hp, pa, _, _, _, _, _, _, rfl, by simp, ⟨hon, hpa, hle⟩, by intro q; subst q; simp [szs] at hpa c; omega⟩
  · cases hp with
    | nil =>
      have c : pa + 1 ≤ 30 := by simp [szs] at hpa; omega
      simp [hy, e0, e1, e2, mk, ea, eb, hpl, pl, plN, st0, set0, takj, l2, l3, l0, c, W0]
      exact ⟨[.leaf 0 a b], pa + 1, _, _, _, _, _, _, rfl, by simp [stD, leafW], ⟨fun s hs => by
        simp only [List.mem_singleton] at hs
        subst hs
        exact ⟨ha, hb⟩, by rw [szs_cons, ← hpa, Stm.sz]; omega, by simp; omega⟩, by simp⟩
    | cons t r =>
      rw [szs_cons] at hpa
      simp only [List.length_cons] at hll hle
      have hlr : r.length < line := by omega
      by_cases c : pa + (r.length + 1) ≤ 30
      · simp [hy, e0, e1, e2, mk, ea, eb, hpl, pl, plN, st0, set0, takj, l2, l3, c, hlr]
        exact ⟨.neg t :: r, pa + 1, _, _, _, _, _, _, rfl, by simp [stD, quW], ⟨fun s hs => by
          rcases List.mem_cons.mp hs with rfl | hs
          · exact hon t (by simp)
          · exact hon s (by simp [hs]), by rw [szs_cons, ← hpa, Stm.sz]; omega, by rw [List.length_cons]; omega⟩, by simp⟩
      · simp [hy, e0, e1, e2, mk, ea, eb, hpl, pl, plN, st0, set0, takj, l2, l3, c]
        exact ⟨t :: r, pa, _, _, _, _, _, _, rfl, by simp, ⟨hon, by rw [szs_cons]; exact hpa, by rw [List.length_cons]; omega⟩, by simp⟩
  · cases hp with
    | nil =>
      have c : pa + 1 ≤ 30 := by simp [szs] at hpa; omega
      simp [hy, e0, e1, e2, mk, ea, eb, hpl, pl, plN, st0, set0, takj, l2, l3, l0, c, W1]
      exact ⟨[.one a], pa + 1, _, _, _, _, _, _, rfl, by simp [stD, leafW], ⟨fun s hs => by
        simp only [List.mem_singleton] at hs
        subst hs
        exact ha, by rw [szs_cons, ← hpa, Stm.sz]; omega, by simp; omega⟩, by simp⟩
    | cons t r =>
      rw [szs_cons] at hpa
      simp only [List.length_cons] at hll hle
      have hlr : r.length < line := by omega
      by_cases c : pa + (r.length + 1) ≤ 30
      · simp [hy, e0, e1, e2, mk, ea, eb, hpl, pl, plN, st0, set0, takj, l2, l3, c, hlr, W6]
        exact ⟨.qu false a t :: r, pa + 1, _, _, _, _, _, _, rfl, by simp [stD, quW], ⟨fun s hs => by
          rcases List.mem_cons.mp hs with rfl | hs
          · exact ⟨ha, hon t (by simp)⟩
          · exact hon s (by simp [hs]), by rw [szs_cons, ← hpa, Stm.sz]; omega, by rw [List.length_cons]; omega⟩, by simp⟩
      · simp [hy, e0, e1, e2, mk, ea, eb, hpl, pl, plN, st0, set0, takj, l2, l3, c]
        exact ⟨t :: r, pa, _, _, _, _, _, _, rfl, by simp, ⟨hon, by rw [szs_cons]; exact hpa, by rw [List.length_cons]; omega⟩, by simp⟩
  · cases hp with
    | nil =>
      have c : pa + 1 ≤ 30 := by simp [szs] at hpa; omega
      simp [hy, e0, e1, e2, mk, ea, eb, hpl, pl, plN, st0, set0, takj, l2, l3, l0, c, W2]
      exact ⟨[.leaf 1 a b], pa + 1, _, _, _, _, _, _, rfl, by simp [stD, leafW], ⟨fun s hs => by
        simp only [List.mem_singleton] at hs
        subst hs
        exact ⟨ha, hb⟩, by rw [szs_cons, ← hpa, Stm.sz]; omega, by simp; omega⟩, by simp⟩
    | cons t r =>
      rw [szs_cons] at hpa
      simp only [List.length_cons] at hll hle
      have hlr : r.length < line := by omega
      by_cases c : pa + (r.length + 1) ≤ 30
      · simp [hy, e0, e1, e2, mk, ea, eb, hpl, pl, plN, st0, set0, takj, l2, l3, c, hlr, W7]
        exact ⟨.qu true a t :: r, pa + 1, _, _, _, _, _, _, rfl, by simp [stD, quW], ⟨fun s hs => by
          rcases List.mem_cons.mp hs with rfl | hs
          · exact ⟨ha, hon t (by simp)⟩
          · exact hon s (by simp [hs]), by rw [szs_cons, ← hpa, Stm.sz]; omega, by rw [List.length_cons]; omega⟩, by simp⟩
      · simp [hy, e0, e1, e2, mk, ea, eb, hpl, pl, plN, st0, set0, takj, l2, l3, c]
        exact ⟨t :: r, pa, _, _, _, _, _, _, rfl, by simp, ⟨hon, by rw [szs_cons]; exact hpa, by rw [List.length_cons]; omega⟩, by simp⟩
  · match hp, hon, hpa, hle, hll with
    | [], hon, hpa, hle, hll =>
      have c : pa + 1 ≤ 30 := by simp [szs] at hpa; omega
      simp [hy, e0, e1, e2, mk, ea, eb, hpl, pl, plN, st0, set0, takj, l2, l3, l0, c, W3]
      exact ⟨[.leaf 2 a b], pa + 1, _, _, _, _, _, _, rfl, by simp [stD, leafW], ⟨fun s hs => by
        simp only [List.mem_singleton] at hs
        subst hs
        exact ⟨ha, hb⟩, by rw [szs_cons, ← hpa, Stm.sz]; omega, by simp; omega⟩, by simp⟩
    | [t], hon, hpa, hle, hll =>
      have l1 : 1 < line := by decide
      simp only [List.length_cons, List.length_nil] at hle
      by_cases c : pa + 1 + 1 ≤ 30
      · simp [hy, e0, e1, e2, mk, ea, eb, hpl, pl, plN, st0, set0, takj, l2, l3, c, l1, W3]
        exact ⟨[.leaf 2 a b, t], pa + 1, _, _, _, _, _, _, rfl, by simp [stD, leafW], ⟨fun s hs => by
          rcases List.mem_cons.mp hs with rfl | hs
          · exact ⟨ha, hb⟩
          · exact hon s hs, by rw [szs_cons, ← hpa, Stm.sz]; omega, by simp; omega⟩, by simp⟩
      · simp [hy, e0, e1, e2, mk, ea, eb, hpl, pl, plN, st0, set0, takj, l2, l3, c]
        exact ⟨[t], pa, _, _, _, _, _, _, rfl, by simp, ⟨hon, hpa, by simp; omega⟩, by simp⟩
    | t :: t2 :: r, hon, hpa, hle, hll =>
      rw [szs_cons, szs_cons] at hpa
      simp only [List.length_cons] at hle
      have xl : L2.atI ((List.map stD r).reverse ++ [stD t2]) (-1) = some (stD t2) := by
        unfold L2.atI
        rw [ixN_last (by simp)]
        simp
      have nl : L2.ixN (r.length + 1) (-1) = some r.length := ixN_last (by omega)
      have q2 : (1 : Int) < (r.length : Int) + 2 := by omega
      simp [hy, e0, e1, e2, mk, ea, eb, hpl, pl, plN, st0, set0, takj, l2, l3, W8, xl, nl, q2]
      exact ⟨.bi false t2 t :: r, pa + 1, _, _, _, _, _, _, rfl, by simp [stD, biW], ⟨fun s hs => by
        rcases List.mem_cons.mp hs with rfl | hs
        · exact ⟨hon t2 (by simp), hon t (by simp)⟩
        · exact hon s (by simp [hs]), by rw [szs_cons, ← hpa, Stm.sz]; omega, by rw [List.length_cons]; omega⟩, by simp⟩
  · match hp, hon, hpa, hle, hll with
    | [], hon, hpa, hle, hll =>
      have c : pa + 1 ≤ 30 := by simp [szs] at hpa; omega
      simp [hy, e0, e1, e2, mk, ea, eb, hpl, pl, plN, st0, set0, takj, l2, l3, l0, c, W4]
      exact ⟨[.leaf 3 a b], pa + 1, _, _, _, _, _, _, rfl, by simp [stD, leafW], ⟨fun s hs => by
        simp only [List.mem_singleton] at hs
        subst hs
        exact ⟨ha, hb⟩, by rw [szs_cons, ← hpa, Stm.sz]; omega, by simp; omega⟩, by simp⟩
    | [t], hon, hpa, hle, hll =>
      have l1 : 1 < line := by decide
      simp only [List.length_cons, List.length_nil] at hle
      by_cases c : pa + 1 + 1 ≤ 30
      · simp [hy, e0, e1, e2, mk, ea, eb, hpl, pl, plN, st0, set0, takj, l2, l3, c, l1, W4]
        exact ⟨[.leaf 3 a b, t], pa + 1, _, _, _, _, _, _, rfl, by simp [stD, leafW], ⟨fun s hs => by
          rcases List.mem_cons.mp hs with rfl | hs
          · exact ⟨ha, hb⟩
          · exact hon s hs, by rw [szs_cons, ← hpa, Stm.sz]; omega, by simp; omega⟩, by simp⟩
      · simp [hy, e0, e1, e2, mk, ea, eb, hpl, pl, plN, st0, set0, takj, l2, l3, c]
        exact ⟨[t], pa, _, _, _, _, _, _, rfl, by simp, ⟨hon, hpa, by simp; omega⟩, by simp⟩
    | t :: t2 :: r, hon, hpa, hle, hll =>
      rw [szs_cons, szs_cons] at hpa
      simp only [List.length_cons] at hle
      have xl : L2.atI ((List.map stD r).reverse ++ [stD t2]) (-1) = some (stD t2) := by
        unfold L2.atI
        rw [ixN_last (by simp)]
        simp
      have nl : L2.ixN (r.length + 1) (-1) = some r.length := ixN_last (by omega)
      have q2 : (1 : Int) < (r.length : Int) + 2 := by omega
      simp [hy, e0, e1, e2, mk, ea, eb, hpl, pl, plN, st0, set0, takj, l2, l3, W9, xl, nl, q2]
      exact ⟨.bi true t2 t :: r, pa + 1, _, _, _, _, _, _, rfl, by simp [stD, biW], ⟨fun s hs => by
        rcases List.mem_cons.mp hs with rfl | hs
        · exact ⟨hon t2 (by simp), hon t (by simp)⟩
        · exact hon s (by simp [hs]), by rw [szs_cons, ← hpa, Stm.sz]; omega, by rw [List.length_cons]; omega⟩, by simp⟩
structure Bw (ds : List Int) (n : Int) (pool : Tx) (s : Store) (k : Nat) (e : Env) (s1 : Store) : Prop where
  ex : ∃ hp g5 g6 g7 g8 g9 g10 g11, e = [some (.d (.lst (ds.map .int))), some (.d (.int n)), some (.d (.str pool)), some (.d (.lst WORDS)), some (.ref s.length), g5, g6, g7, g8, g9, g10, g11] ∧ s1 = s ++ [.lst (hp.reverse.map stD)] ∧ (∀ x ∈ hp, x.on (· ∈ pool)) ∧ szs hp + hp.length ≤ 31 ∧ hp ≠ [] ∧ hp.length = k
theorem sp_built (h : Has Δ "_law_built" 3 12 b__law_built) (ds : List Int) (pool : Tx) (n : Int) (hds : ds.length = 90) (hp0 : 0 < pool.length) (hp1 : pool.length ≤ 52) (n1 : 1 ≤ n) (n2 : n ≤ 30) (hm : 100 < m) (s : Store) :
    ∃ st : Stm, st.sz ≤ 30 ∧ st.on (· ∈ pool) ∧ Φ Δ m (d + 1) "_law_built" [.d (.lst (ds.map .int)), .d (.int n), .d (.str pool)] s = .ok (.d (stD st)) s := by
  rw [h.run rfl]
  unfold b__law_built
  have key := forL_inv (w := ⟨rangeL 0 n.toNat, none⟩) (n := s.length + 1) (tg := .name 6) (body := fun e s => evSs (cxΔ Δ m d) b__law_built_1 e s)
    (env := [some (.d (.lst (ds.map .int))), some (.d (.int n)), some (.d (.str pool)), some (.d (.lst WORDS)), some (.ref s.length), some (.d (.int 0)), none, none, none, none, none, none]) (s := s ++ [.lst []])
    (fun i e s1 => ∃ hp pa g6 g7 g8 g9 g10 g11, e = [some (.d (.lst (ds.map .int))), some (.d (.int n)), some (.d (.str pool)), some (.d (.lst WORDS)), some (.ref s.length), some (.d (.int pa)), g6, g7, g8, g9, g10, g11] ∧ s1 = s ++ [.lst (hp.reverse.map stD)] ∧ HI (· ∈ pool) hp pa ∧ (i ≠ 0 → hp ≠ []))
    ⟨[], 0, _, _, _, _, _, _, rfl, rfl, ⟨fun x hx => (by cases hx), rfl, by decide⟩, fun q => absurd rfl q⟩ (by
    rintro i dd env s1 hdd ⟨hp, pa, g6, g7, g8, g9, g10, g11, rfl, rfl, H, _⟩
    obtain ⟨hi, rfl⟩ := rl_get _ hdd
    refine ⟨rfl, _, rfl, ?_⟩
    have tn := built_turn (Δ := Δ) (m := m) (d := d) ds pool n hds hp0 hp1 i (by omega) hp pa H s g7 g8 g9 g10 g11
    rw [Int.zero_add]
    exact SR.turn_imp tn fun e s1 hb => by
      obtain ⟨hp, pa, g6, g7, g8, g9, g10, g11, q1, q2, q3, q4⟩ := hb.ex
      exact ⟨hp, pa, g6, g7, g8, g9, g10, g11, q1, q2, q3, fun _ => q4⟩) (fun _ _ _ => rfl)
  obtain ⟨env', s', h1, hp, pa, g6, g7, g8, g9, g10, g11, e1, e2, H, hne⟩ := key
  simp only [rl_len] at hne
  have hne := hne (by omega)
  subst e1 e2
  have hle := H.le
  have heq := H.eq
  have k2 := whileL_inv (n := s.length + 1) (test := fun e s => evT (cxΔ Δ m d) t__law_built_2 e s) (body := fun e s => evSs (cxΔ Δ m d) b__law_built_3 e s)
    (I := Bw ds n pool s) (J := fun e s1 => Bw ds n pool s 1 e s1) (by
    rintro k env s1 ⟨hp, g5, g6, g7, g8, g9, g10, g11, rfl, rfl, hon, hle, hne, hk⟩
    match hp, hon, hle, hne, hk with
    | [], _, _, hne, _ => exact absurd rfl hne
    | [t], hon, hle, hne, hk =>
      left
      refine ⟨_, ?_, ⟨[t], _, _, _, _, _, _, _, rfl, rfl, hon, hle, hne, rfl⟩⟩
      unfold t__law_built_2
      simp [st0]
    | t :: t2 :: r, hon, hle, hne, hk =>
      right
      simp only [List.length_cons] at hk hle
      rw [szs_cons, szs_cons] at hle
      have q2 : (1 : Int) < (r.length : Int) + 2 := by omega
      refine ⟨_, by unfold t__law_built_2; simp [st0]; first | rfl | exact ⟨by omega, rfl⟩ | omega, ?_⟩
      have xl : L2.atI ((List.map stD r).reverse ++ [stD t2]) (-1) = some (stD t2) := by
        unfold L2.atI
        rw [ixN_last (by simp)]
        simp
      have nl : L2.ixN (r.length + 1) (-1) = some r.length := ixN_last (by omega)
      have l3 : 3 ≤ line := by decide
      have W8 : L2.atI WORDS 8 = some (.str [97, 110, 100]) := rfl
      have W9 : L2.atI WORDS 9 = some (.str [111, 114]) := rfl
      have m2 : ((r.length : Int) + 1) % 2 = 0 ∨ ((r.length : Int) + 1) % 2 = 1 := by omega
      unfold b__law_built_3
      rcases m2 with m2 | m2
      · simp [st0, set0, takj, l3, W8, xl, nl, m2]
        exact ⟨r.length + 1, by omega, ⟨.bi false t2 t :: r, _, _, _, _, _, _, _, rfl, by simp [stD, biW], fun x hx => by
          rcases List.mem_cons.mp hx with rfl | hx
          · exact ⟨hon t2 (by simp), hon t (by simp)⟩
          · exact hon x (by simp [hx]), by rw [szs_cons, Stm.sz, List.length_cons]; omega, by simp, by simp⟩⟩
      · simp [st0, set0, takj, l3, W9, xl, nl, m2]
        exact ⟨r.length + 1, by omega, ⟨.bi true t2 t :: r, _, _, _, _, _, _, _, rfl, by simp [stD, biW], fun x hx => by
          rcases List.mem_cons.mp hx with rfl | hx
          · exact ⟨hon t2 (by simp), hon t (by simp)⟩
          · exact hon x (by simp [hx]), by rw [szs_cons, Stm.sz, List.length_cons]; omega, by simp, by simp⟩⟩)
    m hp.length [some (.d (.lst (ds.map .int))), some (.d (.int n)), some (.d (.str pool)), some (.d (.lst WORDS)), some (.ref s.length), some (.d (.int pa)), g6, g7, g8, g9, g10, g11] (s ++ [.lst (hp.reverse.map stD)])
    ⟨hp, _, _, _, _, _, _, _, rfl, rfl, H.on, by omega, hne, rfl⟩ (by omega)
  obtain ⟨env', s', k1, ⟨hp', f5, f6, f7, f8, f9, f10, f11, rfl, rfl, on', le', ne', kl⟩⟩ := k2
  match hp', on', le', kl with
  | [t], on', le', _ =>
    rw [szs_cons] at le'
    simp only [List.length_cons, List.length_nil, szs, List.map_nil, List.sum_nil] at le'
    refine ⟨t, by omega, on' t (by simp), ?_⟩
    have hr := okR1 (j := n) (by omega) (by omega)
    have l10 : 10 ≤ line := by decide
    have z0 : L2.atI [stD t] 0 = some (stD t) := rfl
    unfold WORDS at h1 k1
    rw [List.map_reverse] at h1 k1
    simp [hr, l10, h1, k1, st0, tak0, z0]
/-- a statement by four cells -/
theorem sp_one_of (h : Has Δ "_law_one_of" 2 5 b__law_one_of) (hb : Has Δ "_law_built" 3 12 b__law_built) (hc : Has Δ "_law_cell" 2 2 b__law_cell) (hp : Has Δ "_law_pool" 3 7 b__law_pool) (hd : Has Δ "_law_draws" 3 6 b__law_draws) (hmx : Has Δ "_law_mixed" 3 4 b__law_mixed)
    (ns : List Int) (k : Int) (k0 : 0 ≤ k) (k1 : k < 1000000) (hm : 100 < m) (s : Store) :
    ∃ st : Stm, st.sz ≤ 30 ∧ st.on (· ∈ LETTERS) ∧ Φ Δ m (d + 4) "_law_one_of" [.d (.lst (ns.map .int)), .d (.int k)] s = .ok (.d (stD st)) s := by
  rw [h.run rfl]
  unfold b__law_one_of
  obtain ⟨c0, e0⟩ := sp_cell (m := m) (d := d + 2) hc ns k
  obtain ⟨c1, e1⟩ := sp_cell (m := m) (d := d + 2) hc ns (k + 1)
  obtain ⟨c2, e2⟩ := sp_cell (m := m) (d := d + 2) hc ns (k + 2)
  obtain ⟨c3, e3⟩ := sp_cell (m := m) (d := d + 2) hc ns (k + 3)
  have d0 := sp_draws (m := m) (d := d + 1) hd hmx c0 2 (100003 + 500 * k) (by omega) (by omega)
  have l0 := drawsI_len c0 2 (100003 + 500 * k)
  generalize drawsI c0 2 (100003 + 500 * k) = D0 at d0 l0
  obtain ⟨z0, z1, rfl⟩ : ∃ a b, D0 = [a, b] := by
    match D0, l0 with
    | [a, b], _ => exact ⟨a, b, rfl⟩
  have q0 := Int.emod_nonneg z0 (b := 8) (by omega)
  have q1 := Int.emod_lt_of_pos z0 (b := 8) (by omega)
  have q2 := Int.emod_nonneg z1 (b := 30) (by omega)
  have q3 := Int.emod_lt_of_pos z1 (b := 30) (by omega)
  have p0 := sp_pool (m := m) (d := d) hp hd hmx c1 (1 + z0 % 8) (200017 + 500 * k) (by omega) (by omega)
  have pl := poolI_len c1 (1 + z0 % 8) (200017 + 500 * k) (by omega)
  have pin : ∀ x ∈ poolI c1 (1 + z0 % 8) (200017 + 500 * k), x ∈ LETTERS := fun x hx => by
    have := (poolSt_perm (drawsI c1 (1 + z0 % 8) (200017 + 500 * k)) (1 + z0 % 8).toNat (by omega)).1
    exact this.subset (List.mem_append_left _ hx)
  generalize poolI c1 (1 + z0 % 8) (200017 + 500 * k) = pool at p0 pl pin
  have d2 := sp_draws (m := m) (d := d + 1) hd hmx c2 45 (300007 + 500 * k) (by omega) (by omega)
  have l2 := drawsI_len c2 45 (300007 + 500 * k)
  generalize drawsI c2 45 (300007 + 500 * k) = D2 at d2 l2
  have d3 := sp_draws (m := m) (d := d + 1) hd hmx c3 45 (400009 + 500 * k) (by omega) (by omega)
  have l3 := drawsI_len c3 45 (400009 + 500 * k)
  generalize drawsI c3 45 (400009 + 500 * k) = D3 at d3 l3
  have m1 : okMul 500 k = true := okM1 (by omega)
  obtain ⟨st, hs, hon, hbu⟩ := sp_built (m := m) (d := d + 2) hb (D2 ++ D3) pool (1 + z1 % 30) (by rw [List.length_append, l2, l3]; rfl) (by omega) (by omega) (by omega) (by omega) hm s
  have a0 : L2.atI [D.int z0, D.int z1] 0 = some (.int z0) := rfl
  have a1 : L2.atI [D.int z0, D.int z1] 1 = some (.int z1) := rfl
  have ll : D2.length + D3.length ≤ line := by rw [l2, l3]; decide
  have onm : ∀ st : Stm, st.on (· ∈ pool) → st.on (· ∈ LETTERS) := by
    intro st
    induction st with
    | leaf w a b => exact fun h => ⟨pin _ h.1, pin _ h.2⟩
    | one a => exact fun h => pin _ h
    | neg s ih => exact ih
    | qu q a s ih => exact fun h => ⟨pin _ h.1, ih h.2⟩
    | bi o s t i1 i2 => exact fun h => ⟨i1 h.1, i2 h.2⟩
  refine ⟨st, hs, onm st hon, ?_⟩
  rw [List.map_append] at hbu
  simp [e0, e1, e2, e3, d0, p0, d2, d3, m1, a0, a1, ll, hbu, hc.has, hd.has, hp.has, hb.has]
end
end Pv

namespace Pv.L
/- slots of is_letter: 0 sign -/
def b_is_letter : Ss :=
 (.cons (.ret (.and (.cons (.cmp .eq (.blt .len (.cons (.var 0) .nil)) (.int 1)) (.cons (.or (.cons (.cmp .isin (.var 0) (.glob "GREAT_LETTERS")) (.cons (.cmp .isin (.var 0) (.glob "SMALL_LETTERS")) .nil))) .nil))))
 .nil)
def f_is_letter : Fn := ⟨["sign"], ["sign"], b_is_letter⟩
/- slots of parts_many: 0 statement, 1 word -/
def b_parts_many : Ss :=
 (.cons (.set 1 (.ix (.var 0) (.int 0)))
 (.cons (.ife (.cmp .eq (.var 1) (.str [110, 111, 116])) (.cons (.ret (.bin .add (.int 1) (.call "parts_many" (.cons (.ix (.var 0) (.int 1)) .nil))))
 .nil) .nil)
 (.cons (.ife (.or (.cons (.cmp .eq (.var 1) (.str [97, 110, 100])) (.cons (.cmp .eq (.var 1) (.str [111, 114])) .nil))) (.cons (.ret (.bin .add (.bin .add (.int 1) (.call "parts_many" (.cons (.ix (.var 0) (.int 1)) .nil))) (.call "parts_many" (.cons (.ix (.var 0) (.int 2)) .nil))))
 .nil) .nil)
 (.cons (.ife (.or (.cons (.cmp .eq (.var 1) (.str [115, 111, 109, 101])) (.cons (.cmp .eq (.var 1) (.str [97, 108, 108])) .nil))) (.cons (.ret (.bin .add (.int 1) (.call "parts_many" (.cons (.ix (.var 0) (.int 2)) .nil))))
 .nil) .nil)
 (.cons (.ret (.int 1))
 .nil)))))
def f_parts_many : Fn := ⟨["statement"], ["statement", "word"], b_parts_many⟩
/- slots of word_at: 0 words, 1 at -/
def b_word_at : Ss :=
 (.cons (.ife (.cmp .lt (.var 1) (.blt .len (.cons (.var 0) .nil))) (.cons (.ret (.ix (.var 0) (.var 1)))
 .nil) .nil)
 (.cons (.ret (.str []))
 .nil))
def f_word_at : Fn := ⟨["words", "at"], ["words", "at"], b_word_at⟩
/- slots of letter_at: 0 words, 1 at, 2 word -/
def b_letter_at : Ss :=
 (.cons (.set 2 (.call "word_at" (.cons (.var 0) (.cons (.var 1) .nil))))
 (.cons (.ife (.not (.call "is_letter" (.cons (.var 2) .nil))) (.cons (.rais "NoStatement")
 .nil) .nil)
 (.cons (.ret (.var 2))
 .nil)))
def f_letter_at : Fn := ⟨["words", "at"], ["words", "at", "word"], b_letter_at⟩
/- slots of joined_part: 0 words, 1 at, 2 one, 3 joint, 4 word, 5 other, 6 end -/
def b_joined_part : Ss :=
 (.cons (.asg (.tup (.cons (.name 2) (.cons (.name 3) .nil))) (.call "read_part" (.cons (.var 0) (.cons (.bin .add (.var 1) (.int 1)) .nil))))
 (.cons (.set 4 (.call "word_at" (.cons (.var 0) (.cons (.var 3) .nil))))
 (.cons (.ife (.and (.cons (.cmp .ne (.var 4) (.str [97, 110, 100])) (.cons (.cmp .ne (.var 4) (.str [111, 114])) .nil))) (.cons (.rais "NoStatement")
 .nil) .nil)
 (.cons (.asg (.tup (.cons (.name 5) (.cons (.name 6) .nil))) (.call "read_part" (.cons (.var 0) (.cons (.bin .add (.var 3) (.int 1)) .nil))))
 (.cons (.ife (.cmp .ne (.call "word_at" (.cons (.var 0) (.cons (.var 6) .nil))) (.str [41])) (.cons (.rais "NoStatement")
 .nil) .nil)
 (.cons (.ret (.tup (.cons (.tup (.cons (.var 4) (.cons (.var 2) (.cons (.var 5) .nil)))) (.cons (.bin .add (.var 6) (.int 1)) .nil))))
 .nil))))))
def f_joined_part : Fn := ⟨["words", "at"], ["words", "at", "one", "joint", "word", "other", "end"], b_joined_part⟩
/- slots of read_part: 0 words, 1 at, 2 word, 3 inner, 4 end, 5 letter -/
def b_read_part : Ss :=
 (.cons (.set 2 (.call "word_at" (.cons (.var 0) (.cons (.var 1) .nil))))
 (.cons (.ife (.cmp .eq (.var 2) (.str [40])) (.cons (.ret (.call "joined_part" (.cons (.var 0) (.cons (.var 1) .nil))))
 .nil) .nil)
 (.cons (.ife (.cmp .eq (.var 2) (.str [110, 111, 116])) (.cons (.asg (.tup (.cons (.name 3) (.cons (.name 4) .nil))) (.call "read_part" (.cons (.var 0) (.cons (.bin .add (.var 1) (.int 1)) .nil))))
 (.cons (.ret (.tup (.cons (.tup (.cons (.str [110, 111, 116]) (.cons (.var 3) .nil))) (.cons (.var 4) .nil))))
 .nil)) .nil)
 (.cons (.ife (.or (.cons (.cmp .eq (.var 2) (.str [115, 111, 109, 101])) (.cons (.cmp .eq (.var 2) (.str [97, 108, 108])) .nil))) (.cons (.set 5 (.call "letter_at" (.cons (.var 0) (.cons (.bin .add (.var 1) (.int 1)) .nil))))
 (.cons (.asg (.tup (.cons (.name 3) (.cons (.name 4) .nil))) (.call "read_part" (.cons (.var 0) (.cons (.bin .add (.var 1) (.int 2)) .nil))))
 (.cons (.ret (.tup (.cons (.tup (.cons (.var 2) (.cons (.var 5) (.cons (.var 3) .nil)))) (.cons (.var 4) .nil))))
 .nil))) .nil)
 (.cons (.ife (.cmp .eq (.var 2) (.str [111, 110, 101])) (.cons (.ret (.tup (.cons (.tup (.cons (.str [111, 110, 101]) (.cons (.call "letter_at" (.cons (.var 0) (.cons (.bin .add (.var 1) (.int 1)) .nil))) .nil))) (.cons (.bin .add (.var 1) (.int 2)) .nil))))
 .nil) .nil)
 (.cons (.set 5 (.call "letter_at" (.cons (.var 0) (.cons (.var 1) .nil))))
 (.cons (.set 2 (.call "word_at" (.cons (.var 0) (.cons (.bin .add (.var 1) (.int 1)) .nil))))
 (.cons (.ife (.and (.cons (.cmp .ne (.var 2) (.str [105, 110])) (.cons (.cmp .ne (.var 2) (.str [108, 101, 102, 116])) (.cons (.cmp .ne (.var 2) (.str [114, 105, 103, 104, 116])) (.cons (.cmp .ne (.var 2) (.str [98, 101, 108, 111, 119])) .nil))))) (.cons (.rais "NoStatement")
 .nil) .nil)
 (.cons (.ret (.tup (.cons (.tup (.cons (.var 2) (.cons (.var 5) (.cons (.call "letter_at" (.cons (.var 0) (.cons (.bin .add (.var 1) (.int 2)) .nil))) .nil)))) (.cons (.bin .add (.var 1) (.int 3)) .nil))))
 .nil)))))))))
def f_read_part : Fn := ⟨["words", "at"], ["words", "at", "word", "inner", "end", "letter"], b_read_part⟩
/- slots of read_statement: 0 text, 1 words, 2 found, 3 end -/
def b_read_statement : Ss :=
 (.cons (.ife (.cmp .gt (.blt .len (.cons (.var 0) .nil)) (.glob "SIGNS_MOST")) (.cons (.rais "TooGreat")
 .nil) .nil)
 (.cons (.set 1 (.frz (.meth .split (.var 0) (.cons (.str [32]) .nil))))
 (.cons (.asg (.tup (.cons (.name 2) (.cons (.name 3) .nil))) (.call "read_part" (.cons (.var 1) (.cons (.int 0) .nil))))
 (.cons (.ife (.cmp .ne (.var 3) (.blt .len (.cons (.var 1) .nil))) (.cons (.rais "NoStatement")
 .nil) .nil)
 (.cons (.ife (.cmp .gt (.call "parts_many" (.cons (.var 2) .nil)) (.glob "PARTS_MOST")) (.cons (.rais "TooGreat")
 .nil) .nil)
 (.cons (.ret (.var 2))
 .nil))))))
def f_read_statement : Fn := ⟨["text"], ["text", "words", "found", "end"], b_read_statement⟩
/- slots of _law_cell: 0 _law_script, 1 _law_k -/
def f__law_cell : Fn := ⟨["_law_script", "_law_k"], ["_law_script", "_law_k"], b__law_cell⟩
/- slots of _law_mixed: 0 _law_cell_here, 1 _law_k, 2 _law_salt, 3 _law_first -/
def f__law_mixed : Fn := ⟨["_law_cell_here", "_law_k", "_law_salt"], ["_law_cell_here", "_law_k", "_law_salt", "_law_first"], b__law_mixed⟩
/- slots of _law_draws: 0 _law_cell_here, 1 _law_many, 2 _law_salt, 3 _law_found, 4 _law_rest, 5 _law_k -/
def f__law_draws : Fn := ⟨["_law_cell_here", "_law_many", "_law_salt"], ["_law_cell_here", "_law_many", "_law_salt", "_law_found", "_law_rest", "_law_k"], b__law_draws⟩
/- slots of _law_pool: 0 _law_cell_here, 1 _law_many, 2 _law_salt, 3 _law_rest, 4 _law_found, 5 _law_d, 6 _law_at -/
def f__law_pool : Fn := ⟨["_law_cell_here", "_law_many", "_law_salt"], ["_law_cell_here", "_law_many", "_law_salt", "_law_rest", "_law_found", "_law_d", "_law_at"], b__law_pool⟩
/- slots of _law_built: 0 _law_draws_here, 1 _law_many, 2 _law_pool_here, 3 _law_words, 4 _law_heap, 5 _law_parts_here, 6 _law_k, 7 _law_at, 8 _law_a, 9 _law_b, 10 _law_last, 11 _law_inner -/
def f__law_built : Fn := ⟨["_law_draws_here", "_law_many", "_law_pool_here"], ["_law_draws_here", "_law_many", "_law_pool_here", "_law_words", "_law_heap", "_law_parts_here", "_law_k", "_law_at", "_law_a", "_law_b", "_law_last", "_law_inner"], b__law_built⟩
/- slots of _law_one_of: 0 _law_script, 1 _law_k, 2 _law_sizes, 3 _law_pool_here, 4 _law_draws_here -/
def f__law_one_of : Fn := ⟨["_law_script", "_law_k"], ["_law_script", "_law_k", "_law_sizes", "_law_pool_here", "_law_draws_here"], b__law_one_of⟩
/- slots of _law_written: 0 _law_said -/
def b__law_written : Ss :=
 (.cons (.ife (.cmp .eq (.ix (.var 0) (.int 0)) (.str [110, 111, 116])) (.cons (.ret (.bin .add (.str [110, 111, 116, 32]) (.call "_law_written" (.cons (.ix (.var 0) (.int 1)) .nil))))
 .nil) .nil)
 (.cons (.ife (.or (.cons (.cmp .eq (.ix (.var 0) (.int 0)) (.str [97, 110, 100])) (.cons (.cmp .eq (.ix (.var 0) (.int 0)) (.str [111, 114])) .nil))) (.cons (.ret (.bin .add (.bin .add (.bin .add (.bin .add (.bin .add (.bin .add (.str [40, 32]) (.call "_law_written" (.cons (.ix (.var 0) (.int 1)) .nil))) (.str [32])) (.ix (.var 0) (.int 0))) (.str [32])) (.call "_law_written" (.cons (.ix (.var 0) (.int 2)) .nil))) (.str [32, 41])))
 .nil) .nil)
 (.cons (.ife (.or (.cons (.cmp .eq (.ix (.var 0) (.int 0)) (.str [115, 111, 109, 101])) (.cons (.cmp .eq (.ix (.var 0) (.int 0)) (.str [97, 108, 108])) .nil))) (.cons (.ret (.bin .add (.bin .add (.bin .add (.bin .add (.ix (.var 0) (.int 0)) (.str [32])) (.ix (.var 0) (.int 1))) (.str [32])) (.call "_law_written" (.cons (.ix (.var 0) (.int 2)) .nil))))
 .nil) .nil)
 (.cons (.ife (.cmp .eq (.ix (.var 0) (.int 0)) (.str [111, 110, 101])) (.cons (.ret (.bin .add (.str [111, 110, 101, 32]) (.ix (.var 0) (.int 1))))
 .nil) .nil)
 (.cons (.ret (.bin .add (.bin .add (.bin .add (.bin .add (.ix (.var 0) (.int 1)) (.str [32])) (.ix (.var 0) (.int 0))) (.str [32])) (.ix (.var 0) (.int 2))))
 .nil)))))
def f__law_written : Fn := ⟨["_law_said"], ["_law_said"], b__law_written⟩
/- slots of _law_letter_at: 0 _law_words, 1 _law_at -/
def b__law_letter_at : Ss :=
 (.cons (.ife (.or (.cons (.cmp .ge (.var 1) (.blt .len (.cons (.var 0) .nil))) (.cons (.cmp .ne (.blt .len (.cons (.ix (.var 0) (.var 1)) .nil)) (.int 1)) .nil))) (.cons (.ret (.bl false))
 .nil) .nil)
 (.cons (.ret (.cmp .isin (.ix (.var 0) (.var 1)) (.str [65, 66, 67, 68, 69, 70, 71, 72, 73, 74, 75, 76, 77, 78, 79, 80, 81, 82, 83, 84, 85, 86, 87, 88, 89, 90, 97, 98, 99, 100, 101, 102, 103, 104, 105, 106, 107, 108, 109, 110, 111, 112, 113, 114, 115, 116, 117, 118, 119, 120, 121, 122])))
 .nil))
def f__law_letter_at : Fn := ⟨["_law_words", "_law_at"], ["_law_words", "_law_at"], b__law_letter_at⟩
/- slots of _law_parsed: 0 _law_words, 1 _law_at, 2 _law_word, 3 _law_inner -/
def b__law_parsed : Ss :=
 (.cons (.ife (.cmp .ge (.var 1) (.blt .len (.cons (.var 0) .nil))) (.cons (.ret .non)
 .nil) .nil)
 (.cons (.set 2 (.ix (.var 0) (.var 1)))
 (.cons (.ife (.cmp .eq (.var 2) (.str [40])) (.cons (.ret (.call "_law_joint" (.cons (.var 0) (.cons (.var 1) .nil))))
 .nil) .nil)
 (.cons (.ife (.cmp .eq (.var 2) (.str [110, 111, 116])) (.cons (.set 3 (.call "_law_parsed" (.cons (.var 0) (.cons (.bin .add (.var 1) (.int 1)) .nil))))
 (.cons (.ife (.cmp .is (.var 3) .non) (.cons (.ret .non)
 .nil) .nil)
 (.cons (.ret (.tup (.cons (.tup (.cons (.str [110, 111, 116]) (.cons (.ix (.var 3) (.int 0)) .nil))) (.cons (.ix (.var 3) (.int 1)) .nil))))
 .nil))) .nil)
 (.cons (.ife (.or (.cons (.cmp .eq (.var 2) (.str [115, 111, 109, 101])) (.cons (.cmp .eq (.var 2) (.str [97, 108, 108])) .nil))) (.cons (.set 3 (.call "_law_parsed" (.cons (.var 0) (.cons (.bin .add (.var 1) (.int 2)) .nil))))
 (.cons (.ife (.or (.cons (.cmp .is (.var 3) .non) (.cons (.not (.call "_law_letter_at" (.cons (.var 0) (.cons (.bin .add (.var 1) (.int 1)) .nil)))) .nil))) (.cons (.ret .non)
 .nil) .nil)
 (.cons (.ret (.tup (.cons (.tup (.cons (.var 2) (.cons (.ix (.var 0) (.bin .add (.var 1) (.int 1))) (.cons (.ix (.var 3) (.int 0)) .nil)))) (.cons (.ix (.var 3) (.int 1)) .nil))))
 .nil))) .nil)
 (.cons (.ife (.cmp .eq (.var 2) (.str [111, 110, 101])) (.cons (.ife (.not (.call "_law_letter_at" (.cons (.var 0) (.cons (.bin .add (.var 1) (.int 1)) .nil)))) (.cons (.ret .non)
 .nil) .nil)
 (.cons (.ret (.tup (.cons (.tup (.cons (.str [111, 110, 101]) (.cons (.ix (.var 0) (.bin .add (.var 1) (.int 1))) .nil))) (.cons (.bin .add (.var 1) (.int 2)) .nil))))
 .nil)) .nil)
 (.cons (.ife (.or (.cons (.not (.call "_law_letter_at" (.cons (.var 0) (.cons (.var 1) .nil)))) (.cons (.not (.call "_law_letter_at" (.cons (.var 0) (.cons (.bin .add (.var 1) (.int 2)) .nil)))) .nil))) (.cons (.ret .non)
 .nil) .nil)
 (.cons (.ife (.cmp .notin (.ix (.var 0) (.bin .add (.var 1) (.int 1))) (.tup (.cons (.str [105, 110]) (.cons (.str [108, 101, 102, 116]) (.cons (.str [114, 105, 103, 104, 116]) (.cons (.str [98, 101, 108, 111, 119]) .nil)))))) (.cons (.ret .non)
 .nil) .nil)
 (.cons (.ret (.tup (.cons (.tup (.cons (.ix (.var 0) (.bin .add (.var 1) (.int 1))) (.cons (.var 2) (.cons (.ix (.var 0) (.bin .add (.var 1) (.int 2))) .nil)))) (.cons (.bin .add (.var 1) (.int 3)) .nil))))
 .nil)))))))))
def f__law_parsed : Fn := ⟨["_law_words", "_law_at"], ["_law_words", "_law_at", "_law_word", "_law_inner"], b__law_parsed⟩
/- slots of _law_joint: 0 _law_words, 1 _law_at, 2 _law_one, 3 _law_other -/
def b__law_joint : Ss :=
 (.cons (.set 2 (.call "_law_parsed" (.cons (.var 0) (.cons (.bin .add (.var 1) (.int 1)) .nil))))
 (.cons (.ife (.or (.cons (.cmp .is (.var 2) .non) (.cons (.cmp .ge (.ix (.var 2) (.int 1)) (.blt .len (.cons (.var 0) .nil))) (.cons (.cmp .notin (.ix (.var 0) (.ix (.var 2) (.int 1))) (.tup (.cons (.str [97, 110, 100]) (.cons (.str [111, 114]) .nil)))) .nil)))) (.cons (.ret .non)
 .nil) .nil)
 (.cons (.set 3 (.call "_law_parsed" (.cons (.var 0) (.cons (.bin .add (.ix (.var 2) (.int 1)) (.int 1)) .nil))))
 (.cons (.ife (.or (.cons (.cmp .is (.var 3) .non) (.cons (.cmp .ge (.ix (.var 3) (.int 1)) (.blt .len (.cons (.var 0) .nil))) (.cons (.cmp .ne (.ix (.var 0) (.ix (.var 3) (.int 1))) (.str [41])) .nil)))) (.cons (.ret .non)
 .nil) .nil)
 (.cons (.ret (.tup (.cons (.tup (.cons (.ix (.var 0) (.ix (.var 2) (.int 1))) (.cons (.ix (.var 2) (.int 0)) (.cons (.ix (.var 3) (.int 0)) .nil)))) (.cons (.bin .add (.ix (.var 3) (.int 1)) (.int 1)) .nil))))
 .nil)))))
def f__law_joint : Fn := ⟨["_law_words", "_law_at"], ["_law_words", "_law_at", "_law_one", "_law_other"], b__law_joint⟩
/- slots of _law_parts: 0 _law_said, 1 _law_found, 2 _law_inner -/
def b__law_parts_1 : Ss :=
 (.cons (.ife (.isi .tup (.var 2)) (.cons (.set 1 (.bin .add (.var 1) (.call "_law_parts" (.cons (.var 2) .nil))))
 .nil) .nil)
 .nil)
def b__law_parts : Ss :=
 (.cons (.set 1 (.int 1))
 (.cons (.forr (.name 2) (.val (.slice1 (.var 0) (.int 1))) b__law_parts_1)
 (.cons (.ret (.var 1))
 .nil)))
def f__law_parts : Fn := ⟨["_law_said"], ["_law_said", "_law_found", "_law_inner"], b__law_parts⟩
/- slots of _law_spoilt: 0 _law_text, 1 _law_draws_here, 2 _law_menu, 3 _law_words, 4 _law_how, 5 _law_at, 6 _law_other, 7 _law_new, 8 _law_kept -/
def b__law_spoilt : Ss :=
 (.cons (.set 2 (.frz (.list (.cons (.str [40]) (.cons (.str [41]) (.cons (.str [97, 110, 100]) (.cons (.str [111, 114]) (.cons (.str [110, 111, 116]) (.cons (.str [115, 111, 109, 101]) (.cons (.str [97, 108, 108]) (.cons (.str [111, 110, 101]) (.cons (.str [105, 110]) (.cons (.str [108, 101, 102, 116]) (.cons (.str [114, 105, 103, 104, 116]) (.cons (.str [98, 101, 108, 111, 119]) (.cons (.str [97]) (.cons (.str [90]) (.cons (.str [97, 98]) .nil))))))))))))))))))
 (.cons (.set 2 (.frz (.bin .add (.var 2) (.list (.cons (.str []) (.cons (.str [65, 66]) (.cons (.str [73, 78]) (.cons (.str [78, 111, 116]) (.cons (.str [49]) (.cons (.str [91]) (.cons (.str [64]) (.cons (.str [96]) (.cons (.str [123]) (.cons (.str [105, 115, 105, 110]) (.cons (.str [105, 115]) (.cons (.str [45]) (.cons (.str [65]) (.cons (.str [122]) (.cons (.str [120]) (.cons (.str [95]) .nil))))))))))))))))))))
 (.cons (.set 3 (.meth .split (.var 0) (.cons (.str [32]) .nil)))
 (.cons (.set 4 (.bin .mod (.ix (.var 1) (.int 0)) (.int 10)))
 (.cons (.set 5 (.bin .mod (.bin .add (.bin .mul (.int 64) (.ix (.var 1) (.int 1))) (.ix (.var 1) (.int 2))) (.blt .len (.cons (.var 3) .nil))))
 (.cons (.set 6 (.bin .mod (.bin .add (.bin .mul (.int 64) (.ix (.var 1) (.int 3))) (.ix (.var 1) (.int 4))) (.blt .len (.cons (.var 3) .nil))))
 (.cons (.set 7 (.ix (.var 2) (.bin .mod (.ix (.var 1) (.int 5)) (.blt .len (.cons (.var 2) .nil)))))
 (.cons (.ife (.cmp .eq (.var 4) (.int 0)) (.cons (.ex (.meth .pop (.var 3) (.cons (.var 5) .nil)))
 .nil) (.cons (.ife (.cmp .eq (.var 4) (.int 1)) (.cons (.ex (.meth .insert (.var 3) (.cons (.var 5) (.cons (.ix (.var 3) (.var 5)) .nil))))
 .nil) (.cons (.ife (.cmp .eq (.var 4) (.int 2)) (.cons (.set 8 (.ix (.var 3) (.var 5)))
 (.cons (.setix (.var 3) (.var 5) (.ix (.var 3) (.var 6)))
 (.cons (.setix (.var 3) (.var 6) (.var 8))
 .nil))) (.cons (.ife (.cmp .eq (.var 4) (.int 3)) (.cons (.setix (.var 3) (.var 5) (.var 7))
 .nil) (.cons (.ife (.cmp .eq (.var 4) (.int 4)) (.cons (.ex (.meth .insert (.var 3) (.cons (.var 5) (.cons (.var 7) .nil))))
 .nil) (.cons (.ife (.cmp .eq (.var 4) (.int 5)) (.cons (.setix (.var 3) (.var 5) (.bin .add (.ix (.var 3) (.var 5)) (.str [32])))
 .nil) (.cons (.ife (.cmp .eq (.var 4) (.int 6)) (.cons (.setix (.var 3) (.var 5) (.bin .add (.str [32]) (.ix (.var 3) (.var 5))))
 .nil) (.cons (.ife (.cmp .eq (.var 4) (.int 7)) (.cons (.set 3 (.slice0 (.var 3) (.bin .add (.var 5) (.int 1))))
 .nil) (.cons (.ife (.cmp .eq (.var 4) (.int 8)) (.cons (.setix (.var 3) (.var 5) (.bin .add (.bin .add (.slice0 (.ix (.var 3) (.var 5)) (.int 1)) (.var 7)) (.slice1 (.ix (.var 3) (.var 5)) (.int 1))))
 .nil) (.cons (.setix (.var 3) (.var 5) (.slice1 (.ix (.var 3) (.var 5)) (.int 1)))
 .nil))
 .nil))
 .nil))
 .nil))
 .nil))
 .nil))
 .nil))
 .nil))
 .nil))
 (.cons (.ret (.meth .join (.str [32]) (.cons (.var 3) .nil)))
 .nil)))))))))
def f__law_spoilt : Fn := ⟨["_law_text", "_law_draws_here"], ["_law_text", "_law_draws_here", "_law_menu", "_law_words", "_law_how", "_law_at", "_law_other", "_law_new", "_law_kept"], b__law_spoilt⟩
/- slots of _law_text_of: 0 _law_script, 1 _law_k, 2 _law_draws_here, 3 _law_kind, 4 _law_spoils, 5 _law_plain, 6 _law_text, 7 _law_many, 8 _law_pad, 9 _law_turn -/
def b__law_text_of_1 : Ss :=
 (.cons (.set 6 (.call "_law_spoilt" (.cons (.var 6) (.cons (.slice (.var 2) (.bin .add (.int 6) (.bin .mul (.int 6) (.var 9))) (.bin .add (.int 12) (.bin .mul (.int 6) (.var 9)))) .nil))))
 .nil)
def b__law_text_of : Ss :=
 (.cons (.set 2 (.frz (.call "_law_draws" (.cons (.call "_law_cell" (.cons (.var 0) (.cons (.bin .add (.var 1) (.int 4)) .nil))) (.cons (.int 18) (.cons (.bin .add (.int 600011) (.bin .mul (.int 500) (.var 1))) .nil))))))
 (.cons (.set 3 (.bin .mod (.ix (.var 2) (.int 0)) (.int 6)))
 (.cons (.set 4 (.bin .mod (.ix (.var 2) (.int 1)) (.int 3)))
 (.cons (.set 5 (.ix (.list (.cons (.str [111, 110, 101, 32, 97]) (.cons (.str [97, 32, 105, 110, 32, 66]) (.cons (.str [90, 32, 108, 101, 102, 116, 32, 121]) (.cons (.str [97, 32, 114, 105, 103, 104, 116, 32, 97]) (.cons (.str [113, 32, 98, 101, 108, 111, 119, 32, 98]) (.cons (.str [111, 110, 101, 32, 75]) .nil))))))) (.bin .mod (.ix (.var 2) (.int 2)) (.int 6))))
 (.cons (.set 6 (.call "_law_written" (.cons (.call "_law_one_of" (.cons (.var 0) (.cons (.var 1) .nil))) .nil)))
 (.cons (.ife (.cmp .eq (.var 3) (.int 3)) (.cons (.set 7 (.bin .add (.int 27) (.bin .mod (.ix (.var 2) (.int 3)) (.int 4))))
 (.cons (.ife (.cmp .eq (.bin .mod (.ix (.var 2) (.int 4)) (.int 2)) (.int 1)) (.cons (.set 7 (.bin .add (.int 68) (.bin .mod (.ix (.var 2) (.int 3)) (.int 8))))
 .nil) .nil)
 (.cons (.set 6 (.bin .add (.bin .add (.bin .mul (.str [110, 111, 116, 32]) (.var 7)) (.bin .mul (.str [115, 111, 109, 101, 32, 120, 32]) (.bin .mod (.ix (.var 2) (.int 5)) (.int 4)))) (.var 5)))
 (.cons (.set 4 (.bin .mod (.var 4) (.int 2)))
 .nil)))) (.cons (.ife (.cmp .eq (.var 3) (.int 4)) (.cons (.set 8 (.bin .sub (.bin .add (.int 297) (.bin .mod (.ix (.var 2) (.int 3)) (.int 7))) (.blt .len (.cons (.var 6) .nil))))
 (.cons (.set 6 (.bin .add (.var 6) (.bin .mul (.ix (.list (.cons (.str [32]) (.cons (.str [97]) (.cons (.str [40]) (.cons (.str [32, 110, 111, 116]) (.cons (.str [122, 32]) .nil)))))) (.bin .mod (.ix (.var 2) (.int 4)) (.int 5))) (.var 8))))
 (.cons (.set 6 (.slice0 (.var 6) (.bin .add (.int 297) (.bin .mod (.ix (.var 2) (.int 3)) (.int 7)))))
 (.cons (.set 4 (.int 0))
 .nil)))) (.cons (.ife (.cmp .eq (.var 3) (.int 5)) (.cons (.set 7 (.bin .add (.int 10) (.bin .mod (.ix (.var 2) (.int 3)) (.int 11))))
 (.cons (.set 6 (.bin .add (.bin .add (.bin .mul (.str [40, 32]) (.var 7)) (.str [111, 110, 101, 32, 97])) (.bin .mul (.bin .add (.bin .add (.ix (.list (.cons (.str [32, 97, 110, 100, 32]) (.cons (.str [32, 111, 114, 32]) .nil))) (.bin .mod (.ix (.var 2) (.int 4)) (.int 2))) (.var 5)) (.str [32, 41])) (.var 7))))
 (.cons (.set 4 (.bin .mod (.var 4) (.int 2)))
 .nil))) .nil)
 .nil))
 .nil))
 (.cons (.forr (.name 9) (.range (.cons (.var 4) .nil)) b__law_text_of_1)
 (.cons (.ret (.var 6))
 .nil))))))))
def f__law_text_of : Fn := ⟨["_law_script", "_law_k"], ["_law_script", "_law_k", "_law_draws_here", "_law_kind", "_law_spoils", "_law_plain", "_law_text", "_law_many", "_law_pad", "_law_turn"], b__law_text_of⟩
/- slots of _law_read: 0 _law_text, 1 _law_told, 2 e -/
def b__law_read : Ss :=
 (.cons (.set 1 .non)
 (.cons (.trye (.cons (.set 1 (.call "read_statement" (.cons (.var 0) .nil)))
 .nil) "TrunkError" 2 [.set 1 (.tup (.cons (.str [114, 101, 102, 117, 115, 101, 100]) (.cons (.isi "ValueError") (.cons (.isi "NoStatement") (.cons (.isi "TooGreat") (.cons (.isis ["NoTree", "NoPlace", "NoNumber", "NoName", "NoLine", "NothingDone", "NothingHeld"]) .nil))))))])
 (.cons (.ret (.var 1))
 .nil)))
def f__law_read : Fn := ⟨["_law_text"], ["_law_text", "_law_told", "e"], b__law_read⟩
/- slots of _law_same: 0 _law_found, 1 _law_due_here, 2 _law_k -/
def f__law_same : Fn := ⟨["_law_found", "_law_due_here"], ["_law_found", "_law_due_here", "_law_k"], b__law_same⟩
/- slots of _law_due: 0 _law_text, 1 _law_great, 2 _law_words, 3 _law_found -/
def b__law_due : Ss :=
 (.cons (.set 1 (.tup (.cons (.str [114, 101, 102, 117, 115, 101, 100]) (.cons (.bl true) (.cons (.bl false) (.cons (.bl true) (.cons (.bl false) .nil)))))))
 (.cons (.ife (.cmp .gt (.blt .len (.cons (.var 0) .nil)) (.int 300)) (.cons (.ret (.var 1))
 .nil) .nil)
 (.cons (.set 2 (.frz (.meth .split (.var 0) (.cons (.str [32]) .nil))))
 (.cons (.set 3 (.call "_law_parsed" (.cons (.var 2) (.cons (.int 0) .nil))))
 (.cons (.ife (.or (.cons (.cmp .is (.var 3) .non) (.cons (.cmp .ne (.ix (.var 3) (.int 1)) (.blt .len (.cons (.var 2) .nil))) .nil))) (.cons (.ret (.tup (.cons (.str [114, 101, 102, 117, 115, 101, 100]) (.cons (.bl true) (.cons (.bl true) (.cons (.bl false) (.cons (.bl false) .nil)))))))
 .nil) .nil)
 (.cons (.ife (.cmp .gt (.call "_law_parts" (.cons (.ix (.var 3) (.int 0)) .nil)) (.int 30)) (.cons (.ret (.var 1))
 .nil) .nil)
 (.cons (.ret (.ix (.var 3) (.int 0)))
 .nil)))))))
def f__law_due : Fn := ⟨["_law_text"], ["_law_text", "_law_great", "_law_words", "_law_found"], b__law_due⟩
/- slots of law: 0 _law_script, 1 _law_first, 2 _law_second, 3 _law_text -/
def b_law_1 : Ss :=
 (.cons (.ife (.not (.call "_law_same" (.cons (.call "_law_read" (.cons (.var 3) .nil)) (.cons (.call "_law_due" (.cons (.var 3) .nil)) .nil)))) (.cons (.ret (.bl false))
 .nil) .nil)
 .nil)
def b_law : Ss :=
 (.cons (.set 1 (.call "_law_text_of" (.cons (.var 0) (.cons (.int 0) .nil))))
 (.cons (.set 2 (.call "_law_text_of" (.cons (.var 0) (.cons (.int 5) .nil))))
 (.cons (.forr (.name 3) (.val (.tup (.cons (.var 1) (.cons (.var 2) (.cons (.var 1) .nil))))) b_law_1)
 (.cons (.ret (.bl true))
 .nil))))
def f_law : Fn := ⟨["_law_script"], ["_law_script", "_law_first", "_law_second", "_law_text"], b_law⟩
def fnT : String → Option Fn
  | "is_letter" => some f_is_letter
  | "parts_many" => some f_parts_many
  | "word_at" => some f_word_at
  | "letter_at" => some f_letter_at
  | "joined_part" => some f_joined_part
  | "read_part" => some f_read_part
  | "read_statement" => some f_read_statement
  | "_law_cell" => some f__law_cell
  | "_law_mixed" => some f__law_mixed
  | "_law_draws" => some f__law_draws
  | "_law_pool" => some f__law_pool
  | "_law_built" => some f__law_built
  | "_law_one_of" => some f__law_one_of
  | "_law_written" => some f__law_written
  | "_law_letter_at" => some f__law_letter_at
  | "_law_parsed" => some f__law_parsed
  | "_law_joint" => some f__law_joint
  | "_law_parts" => some f__law_parts
  | "_law_spoilt" => some f__law_spoilt
  | "_law_text_of" => some f__law_text_of
  | "_law_read" => some f__law_read
  | "_law_same" => some f__law_same
  | "_law_due" => some f__law_due
  | "law" => some f_law
  | _ => none
def globT : String → Option D
  | "GREAT_LETTERS" => some (.str [65, 66, 67, 68, 69, 70, 71, 72, 73, 74, 75, 76, 77, 78, 79, 80, 81, 82, 83, 84, 85, 86, 87, 88, 89, 90])
  | "SMALL_LETTERS" => some (.str [97, 98, 99, 100, 101, 102, 103, 104, 105, 106, 107, 108, 109, 110, 111, 112, 113, 114, 115, 116, 117, 118, 119, 120, 121, 122])
  | "SIGNS_MOST" => some (.int 300)
  | "PARTS_MOST" => some (.int 30)
  | _ => none
def isxT : String → Bool
  | "NoStatement" => true
  | "TooGreat" => true
  | _ => false
def subT : String → String → Option Bool
  | "NoStatement", "ValueError" => some true
  | "NoStatement", "NoTree" => some false
  | "NoStatement", "NoStatement" => some true
  | "NoStatement", "NoPlace" => some false
  | "NoStatement", "NoNumber" => some false
  | "NoStatement", "TooGreat" => some false
  | "NoStatement", "NoName" => some false
  | "NoStatement", "NoLine" => some false
  | "NoStatement", "NothingDone" => some false
  | "NoStatement", "NothingHeld" => some false
  | "TooGreat", "ValueError" => some true
  | "TooGreat", "NoTree" => some false
  | "TooGreat", "NoStatement" => some false
  | "TooGreat", "NoPlace" => some false
  | "TooGreat", "NoNumber" => some false
  | "TooGreat", "TooGreat" => some true
  | "TooGreat", "NoName" => some false
  | "TooGreat", "NoLine" => some false
  | "TooGreat", "NothingDone" => some false
  | "TooGreat", "NothingHeld" => some false
  | _, _ => none
def hndT : String → String → Option Bool
  | "NoStatement", "TrunkError" => some true
  | "TooGreat", "TrunkError" => some true
  | "TrunkError", "TrunkError" => some true
  | _, _ => none
def kndT : String → Option (List String) := fun _ => none
def Δ : Prog := ⟨fnT, globT, isxT, subT, hndT, kndT⟩
end Pv.L

/-! Law 13: statements' texts, read or refused. -/
namespace Pv.L
open PySem Pv
abbrev fuel : Nat := 1000000
theorem has_let : Has Δ "is_letter" 1 1 b_is_letter := ⟨_, _, rfl, rfl, rfl⟩
theorem has_parts : Has Δ "parts_many" 1 2 b_parts_many := ⟨_, _, rfl, rfl, rfl⟩
theorem has_wat : Has Δ "word_at" 2 2 b_word_at := ⟨_, _, rfl, rfl, rfl⟩
theorem has_lat : Has Δ "letter_at" 2 3 b_letter_at := ⟨_, _, rfl, rfl, rfl⟩
theorem has_joined : Has Δ "joined_part" 2 7 b_joined_part := ⟨_, _, rfl, rfl, rfl⟩
theorem has_part : Has Δ "read_part" 2 6 b_read_part := ⟨_, _, rfl, rfl, rfl⟩
theorem has_read : Has Δ "read_statement" 1 4 b_read_statement := ⟨_, _, rfl, rfl, rfl⟩
theorem has_llat : Has Δ "_law_letter_at" 2 2 b__law_letter_at := ⟨_, _, rfl, rfl, rfl⟩
theorem has_lparsed : Has Δ "_law_parsed" 2 4 b__law_parsed := ⟨_, _, rfl, rfl, rfl⟩
theorem has_ljoint : Has Δ "_law_joint" 2 4 b__law_joint := ⟨_, _, rfl, rfl, rfl⟩
theorem isx_ns : Δ.isx "NoStatement" = true := rfl
theorem isx_tg : Δ.isx "TooGreat" = true := rfl
def GREAT : Tx := [65, 66, 67, 68, 69, 70, 71, 72, 73, 74, 75, 76, 77, 78, 79, 80, 81, 82, 83, 84, 85, 86, 87, 88, 89, 90]
def SMALL : Tx := [97, 98, 99, 100, 101, 102, 103, 104, 105, 106, 107, 108, 109, 110, 111, 112, 113, 114, 115, 116, 117, 118, 119, 120, 121, 122]
theorem glob_small : Δ.glob "SMALL_LETTERS" = some (.str SMALL) := rfl
theorem glob_great : Δ.glob "GREAT_LETTERS" = some (.str GREAT) := rfl
theorem glob_signs : Δ.glob "SIGNS_MOST" = some (.int 300) := rfl
theorem glob_parts : Δ.glob "PARTS_MOST" = some (.int 30) := rfl
theorem let_split : LETTERS = GREAT ++ SMALL := rfl
def letO : Tx → Option Nat
  | [a] => if a ∈ LETTERS then some a else none
  | _ => none
theorem letO_some {w : Tx} {a : Nat} (h : letO w = some a) : w = [a] ∧ a ∈ LETTERS := by
  match w, h with
  | [b], h =>
    have h : (if b ∈ LETTERS then some b else none) = some a := h
    by_cases m : b ∈ LETTERS
    · rw [if_pos m] at h
      cases h
      exact ⟨rfl, m⟩
    · rw [if_neg m] at h
      cases h
abbrev NOT : Tx := [110, 111, 116]
abbrev SOME : Tx := [115, 111, 109, 101]
abbrev ALL : Tx := [97, 108, 108]
abbrev AND : Tx := [97, 110, 100]
abbrev OR : Tx := [111, 114]
abbrev ONE : Tx := [111, 110, 101]
def leafI (w : Tx) : Option (Fin 4) := if w = [105, 110] then some 0 else if w = [108, 101, 102, 116] then some 1 else if w = [114, 105, 103, 104, 116] then some 2 else if w = [98, 101, 108, 111, 119] then some 3 else none
theorem leafI_some {w : Tx} {k : Fin 4} (h : leafI w = some k) : leafW k = w := by
  unfold leafI at h
  split at h
  · cases h; rename_i e; rw [e]; rfl
  · split at h
    · cases h; rename_i e; rw [e]; rfl
    · split at h
      · cases h; rename_i e; rw [e]; rfl
      · split at h
        · cases h; rename_i e; rw [e]; rfl
        · cases h
theorem leafI_none {w : Tx} (h : leafI w = none) : w ≠ [105, 110] ∧ w ≠ [108, 101, 102, 116] ∧ w ≠ [114, 105, 103, 104, 116] ∧ w ≠ [98, 101, 108, 111, 119] := by
  unfold leafI at h
  split at h
  · cases h
  · split at h
    · cases h
    · split at h
      · cases h
      · split at h
        · cases h
        · exact ⟨by assumption, by assumption, by assumption, by assumption⟩
theorem leafI_or {w : Tx} {k : Fin 4} (h : leafI w = some k) : w = [105, 110] ∨ w = [108, 101, 102, 116] ∨ w = [114, 105, 103, 104, 116] ∨ w = [98, 101, 108, 111, 119] := by
  by_cases q : leafI w = none
  · rw [q] at h; cases h
  · unfold leafI at h
    split at h
    · exact .inl (by assumption)
    · split at h
      · exact .inr (.inl (by assumption))
      · split at h
        · exact .inr (.inr (.inl (by assumption)))
        · split at h
          · exact .inr (.inr (.inr (by assumption)))
          · cases h
def wat (W : List Tx) (i : Nat) : Tx := W.getD i []
/-- the statement that stands at a place, and where it ends -/
def P (W : List Tx) : Nat → Nat → Option (Stm × Nat)
  | 0, _ => none
  | f + 1, i =>
    if wat W i = [40] then
      match P W f (i + 1) with
      | none => none
      | some (o, j) => if wat W j = AND ∨ wat W j = OR then
          match P W f (j + 1) with
          | none => none
          | some (t, e) => if wat W e = [41] then some (.bi (decide (wat W j = OR)) o t, e + 1) else none
        else none
    else if wat W i = NOT then
      match P W f (i + 1) with
      | none => none
      | some (o, j) => some (.neg o, j)
    else if wat W i = SOME ∨ wat W i = ALL then
      match letO (wat W (i + 1)) with
      | none => none
      | some l => match P W f (i + 2) with
        | none => none
        | some (o, j) => some (.qu (decide (wat W i = ALL)) l o, j)
    else if wat W i = ONE then
      match letO (wat W (i + 1)) with
      | none => none
      | some l => some (.one l, i + 2)
    else match letO (wat W i) with
      | none => none
      | some a => match leafI (wat W (i + 1)) with
        | none => none
        | some k => match letO (wat W (i + 2)) with
          | none => none
          | some b => some (.leaf k a b, i + 3)
def spc (w : Tx) : Bool := decide (w = [40]) || decide (w = NOT) || decide (w = SOME) || decide (w = ALL)
def lev (W : List Tx) (i : Nat) : Nat := (W.drop i).countP spc
theorem lev_step {W : List Tx} {i : Nat} (h : spc (wat W i) = true) : lev W i = lev W (i + 1) + 1 := by
  unfold wat at h
  have hi : i < W.length := by
    rcases Nat.lt_or_ge i W.length with q | q
    · exact q
    · rw [List.getD_eq_getElem?_getD, List.getElem?_eq_none q] at h
      cases h
  unfold lev
  rw [List.drop_eq_getElem_cons hi, List.countP_cons_of_pos]
  rw [List.getD_eq_getElem?_getD, List.getElem?_eq_getElem hi] at h
  exact h
theorem lev_le (W : List Tx) (i : Nat) : lev W (i + 1) ≤ lev W i := by
  unfold lev
  rw [show W.drop (i + 1) = (W.drop i).drop 1 by rw [List.drop_drop]]
  exact List.Sublist.countP_le (List.drop_sublist 1 _)
theorem lev_mono (W : List Tx) {i j : Nat} (h : i ≤ j) : lev W j ≤ lev W i := by
  induction h with
  | refl => exact Nat.le_refl _
  | step _ ih => exact Nat.le_trans (lev_le W _) ih
theorem P_gt (W : List Tx) : ∀ (f i : Nat) (a : Stm × Nat), P W f i = some a → i < a.2
  | 0, i, a, h => by cases h
  | f + 1, i, a, h => by
    unfold P at h
    split at h
    · split at h
      · cases h
      · rename_i o j e
        have := P_gt W f _ _ e
        split at h
        · split at h
          · cases h
          · rename_i t e2 e3
            have := P_gt W f _ _ e3
            split at h
            · cases h
              simp only at *
              omega
            · cases h
        · cases h
    · split at h
      · split at h
        · cases h
        · rename_i o j e
          have := P_gt W f _ _ e
          cases h
          simp only at *
          omega
      · split at h
        · split at h
          · cases h
          · split at h
            · cases h
            · rename_i o j e
              have := P_gt W f _ _ e
              cases h
              simp only at *
              omega
        · split at h
          · split at h
            · cases h
            · cases h; show i < i + 2; omega
          · split at h
            · cases h
            · split at h
              · cases h
              · split at h
                · cases h
                · cases h; show i < i + 3; omega
section
variable (W : List Tx)
theorem sp_wat (d i : Nat) (s : Store) (hl : W.length ≤ line) : Φ Δ fuel (d + 1) "word_at" [.d (.lst (W.map .str)), .d (.int i)] s = .ok (.d (.str (wat W i))) s := by
  rw [has_wat.run rfl]
  unfold b_word_at
  have ml : (W.map D.str).length = W.length := List.length_map _
  by_cases hi : i < W.length
  · have ix : L2.atI (W.map D.str) (i : Int) = some (.str (wat W i)) := by
      rw [atI_nat (by rw [List.length_map]; exact hi), List.getElem?_map]
      unfold wat
      rw [List.getD_eq_getElem?_getD, List.getElem?_eq_getElem hi]
      rfl
    generalize wat W i = w at *
    simp [hi, ix, hl]
  · have e : wat W i = [] := by
      unfold wat
      rw [List.getD_eq_getElem?_getD, List.getElem?_eq_none (by omega)]
      rfl
    rw [e]
    simp [hi, hl]
theorem sp_let (d : Nat) (w : Tx) (hl : w.length ≤ line) (s : Store) : Φ Δ fuel (d + 1) "is_letter" [.d (.str w)] s = .ok (.d (.bl (letO w).isSome)) s := by
  rw [has_let.run rfl]
  unfold b_is_letter
  match w, hl with
  | [], hl => simp [letO]
  | a :: b :: r, hl =>
    have hl' : r.length + 1 + 1 ≤ line := hl
    have n1 : ¬ ((r.length : Int) + 1 + 1 = 1) := by omega
    simp [letO, hl', n1]
  | [a], hl =>
    have l1 : 1 ≤ line := by decide
    unfold letO
    rw [let_split]
    by_cases g : a ∈ GREAT
    · simp [glob_great, l1, g]
    · by_cases m : a ∈ SMALL
      · simp [glob_great, glob_small, l1, g, m]
      · simp [glob_great, glob_small, l1, g, m]
theorem sp_lat (d i : Nat) (s : Store) (hl : W.length ≤ line) (hw : ∀ w ∈ W, w.length ≤ line) : Φ Δ fuel (d + 2) "letter_at" [.d (.lst (W.map .str)), .d (.int i)] s = match letO (wat W i) with
    | some a => .ok (.d (.str [a])) s
    | none => .exc "NoStatement" s := by
  rw [has_lat.run rfl]
  unfold b_letter_at
  have w := sp_wat W d i s hl
  have wl : (wat W i).length ≤ line := by
    unfold wat
    rcases Nat.lt_or_ge i W.length with q | q
    · rw [List.getD_eq_getElem?_getD, List.getElem?_eq_getElem q]
      exact hw _ (List.getElem_mem q)
    · rw [List.getD_eq_getElem?_getD, List.getElem?_eq_none q]
      exact Nat.zero_le _
  have l := sp_let d (wat W i) wl s
  cases e : letO (wat W i) with
  | none =>
    rw [e] at l
    simp at l
    simp [w, l, has_wat.has, has_let.has, isx_ns]
  | some a =>
    rw [e] at l
    obtain ⟨e1, _⟩ := letO_some e
    rw [e1] at w l
    simp at l
    simp [w, l, has_wat.has, has_let.has]
end
end Pv.L

/-! Law 13: the program's reading. -/
namespace Pv.L
open PySem Pv
def partR (o : Option (Stm × Nat)) (s : Store) : R Val := match o with
  | some a => .ok (.d (.tup [stD a.1, .int a.2])) s
  | none => .exc "NoStatement" s
def PJ (W : List Tx) (f i : Nat) : Option (Stm × Nat) := match P W f (i + 1) with
  | none => none
  | some (o, j) => if wat W j = AND ∨ wat W j = OR then
      match P W f (j + 1) with
      | none => none
      | some (t, e) => if wat W e = [41] then some (.bi (decide (wat W j = OR)) o t, e + 1) else none
    else none
theorem P_j {W : List Tx} {f i : Nat} (c : wat W i = [40]) : P W (f + 1) i = PJ W f i := by
  rw [P, if_pos c]
  rfl
section
variable (W : List Tx) (hl : W.length ≤ 1000) (hw : ∀ w ∈ W, w.length ≤ line)
include hl hw
theorem sp_joined (f i d : Nat) (s : Store) (ih : ∀ i d s, lev W i < f → Φ Δ fuel (d + 2 * f + 2) "read_part" [.d (.lst (W.map .str)), .d (.int (i : Nat))] s = partR (P W f i) s) (h : lev W (i + 1) < f) :
    Φ Δ fuel (d + 2 * f + 3) "joined_part" [.d (.lst (W.map .str)), .d (.int (i : Nat))] s = partR (PJ W f i) s := by
  unfold PJ
  show Φ Δ fuel ((d + 2 * f + 2) + 1) "joined_part" _ s = _
  rw [has_joined.run rfl]
  unfold b_joined_part
  have r1 := ih (i + 1) d s h
  rw [show ((i + 1 : Nat) : Int) = (i : Int) + 1 by omega] at r1
  have hll : W.length ≤ line := Nat.le_trans hl (by decide)
  have l2 : (2 : Nat) ≤ line := by decide
  have l3 : (3 : Nat) ≤ line := by decide
  cases e1 : P W f (i + 1) with
  | none =>
    rw [e1] at r1
    have r1 : Φ Δ fuel (d + 2 * f + 2) "read_part" [.d (.lst (W.map .str)), .d (.int ((i : Int) + 1))] s = .exc "NoStatement" s := r1
    generalize W.map D.str = LW at *
    simp [r1, has_part.has, partR]
  | some a =>
    obtain ⟨o, j⟩ := a
    rw [e1] at r1
    have gj := P_gt W f _ _ e1
    have gj : i + 1 < j := gj
    have r1 : Φ Δ fuel (d + 2 * f + 2) "read_part" [.d (.lst (W.map .str)), .d (.int ((i : Int) + 1))] s = .ok (.d (.tup [stD o, .int j])) s := r1
    have w1 := sp_wat W (d + 2 * f + 1) j s hll
    have r2 := ih (j + 1) d s (Nat.lt_of_le_of_lt (lev_mono W (by omega)) h)
    rw [show ((j + 1 : Nat) : Int) = (j : Int) + 1 by omega] at r2
    simp only
    rw [seqE (e1 := [some (.d (.lst (W.map .str))), some (.d (.int (i : Nat))), some (.d (stD o)), some (.d (.int (j : Nat))), none, none, none]) (s1 := s) (by
      generalize W.map D.str = LW at *
      generalize stD o = so at *
      simp [r1, has_part.has, bindT, bindTs])]
    rw [seqE (e1 := [some (.d (.lst (W.map .str))), some (.d (.int (i : Nat))), some (.d (stD o)), some (.d (.int (j : Nat))), some (.d (.str (wat W j))), none, none]) (s1 := s) (by
      generalize W.map D.str = LW at *
      generalize stD o = so at *
      simp [w1, has_wat.has])]
    by_cases c : wat W j = AND ∨ wat W j = OR
    · rw [if_pos c]
      rw [seqE (e1 := [some (.d (.lst (W.map .str))), some (.d (.int (i : Nat))), some (.d (stD o)), some (.d (.int (j : Nat))), some (.d (.str (wat W j))), none, none]) (s1 := s) (by
        rw [ifF (s1 := s) (by
          rcases c with c | c <;> rw [c] <;> simp)]
        simp)]
      cases e2 : P W f (j + 1) with
      | none =>
        rw [e2] at r2
        have r2 : Φ Δ fuel (d + 2 * f + 2) "read_part" [.d (.lst (W.map .str)), .d (.int ((j : Int) + 1))] s = .exc "NoStatement" s := r2
        generalize W.map D.str = LW at *
        generalize stD o = so at *
        simp [r2, has_part.has, partR]
      | some a2 =>
        obtain ⟨t, e⟩ := a2
        rw [e2] at r2
        have r2 : Φ Δ fuel (d + 2 * f + 2) "read_part" [.d (.lst (W.map .str)), .d (.int ((j : Int) + 1))] s = .ok (.d (.tup [stD t, .int e])) s := r2
        have w2 := sp_wat W (d + 2 * f + 1) e s hll
        rw [seqE (e1 := [some (.d (.lst (W.map .str))), some (.d (.int (i : Nat))), some (.d (stD o)), some (.d (.int (j : Nat))), some (.d (.str (wat W j))), some (.d (stD t)), some (.d (.int (e : Nat)))]) (s1 := s) (by
          generalize W.map D.str = LW at *
          generalize stD o = so at *
          generalize stD t = st at *
          simp [r2, has_part.has, bindT, bindTs])]
        by_cases c2 : wat W e = [41]
        · rw [c2] at w2
          rw [seqE (e1 := [some (.d (.lst (W.map .str))), some (.d (.int (i : Nat))), some (.d (stD o)), some (.d (.int (j : Nat))), some (.d (.str (wat W j))), some (.d (stD t)), some (.d (.int (e : Nat)))]) (s1 := s) (by
            rw [ifF (s1 := s) (by
              generalize W.map D.str = LW at *
              generalize stD o = so at *
              generalize stD t = st at *
              simp [w2, has_wat.has])]
            simp)]
          simp only [if_pos c2]
          have eb : stD (.bi (decide (wat W j = OR)) o t) = .tup [.str (wat W j), stD o, stD t] := by
            rw [stD]
            rcases c with c | c <;> rw [c] <;> rfl
          unfold partR
          simp only [eb]
          generalize W.map D.str = LW at *
          generalize stD o = so at *
          generalize stD t = st at *
          generalize wat W j = wj at *
          simp [l2, l3]
        · simp only [if_neg c2]
          generalize wat W e = we at *
          generalize W.map D.str = LW at *
          generalize stD o = so at *
          generalize stD t = st at *
          generalize wat W j = wj at *
          simp [w2, has_wat.has, c2, partR, isx_ns]
    · rw [if_neg c]
      have c1 : wat W j ≠ AND := fun q => c (.inl q)
      have c2 : wat W j ≠ OR := fun q => c (.inr q)
      generalize W.map D.str = LW at *
      generalize stD o = so at *
      generalize wat W j = wj at *
      simp [c1, c2, partR, isx_ns]
theorem sp_part : ∀ (f i d : Nat) (s : Store), lev W i < f → Φ Δ fuel (d + 2 * f + 2) "read_part" [.d (.lst (W.map .str)), .d (.int (i : Nat))] s = partR (P W f i) s
  | 0, i, d, s, h => absurd h (Nat.not_lt_zero _)
  | f + 1, i, d, s, h => by
    show Φ Δ fuel ((d + 2 * f + 3) + 1) "read_part" _ s = _
    have ih := fun i d s => sp_part f i d s
    rw [has_part.run rfl]
    unfold b_read_part
    have hll : W.length ≤ line := Nat.le_trans hl (by decide)
    have l2 : (2 : Nat) ≤ line := by decide
    have l3 : (3 : Nat) ≤ line := by decide
    have w0 := sp_wat W (d + 2 * f + 2) i s hll
    rw [seqE (e1 := [some (.d (.lst (W.map .str))), some (.d (.int (i : Nat))), some (.d (.str (wat W i))), none, none, none]) (s1 := s) (by
      generalize W.map D.str = LW at *
      simp [w0, has_wat.has])]
    by_cases c1 : wat W i = [40]
    · rw [P_j c1]
      have J := sp_joined W hl hw f i d s ih (by have := lev_step (W := W) (i := i) (by rw [c1]; rfl); omega)
      rw [c1]
      cases e : PJ W f i with
      | none =>
        rw [e] at J
        have J : Φ Δ fuel (d + 2 * f + 3) "joined_part" [.d (.lst (W.map .str)), .d (.int (i : Nat))] s = .exc "NoStatement" s := J
        generalize W.map D.str = LW at *
        simp [J, has_joined.has, partR]
      | some a =>
        obtain ⟨o, j⟩ := a
        rw [e] at J
        have J : Φ Δ fuel (d + 2 * f + 3) "joined_part" [.d (.lst (W.map .str)), .d (.int (i : Nat))] s = .ok (.d (.tup [stD o, .int j])) s := J
        unfold partR
        simp only
        generalize W.map D.str = LW at *
        generalize stD o = so at *
        simp [J, has_joined.has]
    · rw [P, if_neg c1]
      rw [seqE (e1 := [some (.d (.lst (W.map .str))), some (.d (.int (i : Nat))), some (.d (.str (wat W i))), none, none, none]) (s1 := s) (by
        rw [ifF (s1 := s) (by
          generalize W.map D.str = LW at *
          simp [c1])]
        simp)]
      by_cases c2 : wat W i = NOT
      · rw [if_pos c2]
        have r1 := ih (i + 1) (d + 1) s (by have := lev_step (W := W) (i := i) (by rw [c2]; rfl); omega)
        rw [show ((i + 1 : Nat) : Int) = (i : Int) + 1 by omega, show d + 1 + 2 * f + 2 = d + 2 * f + 3 by omega] at r1
        rw [c2]
        cases e1 : P W f (i + 1) with
        | none =>
          rw [e1] at r1
          have r1 : Φ Δ fuel (d + 2 * f + 3) "read_part" [.d (.lst (W.map .str)), .d (.int ((i : Int) + 1))] s = .exc "NoStatement" s := r1
          generalize W.map D.str = LW at *
          simp [r1, has_part.has, partR]
        | some a =>
          obtain ⟨o, j⟩ := a
          rw [e1] at r1
          have r1 : Φ Δ fuel (d + 2 * f + 3) "read_part" [.d (.lst (W.map .str)), .d (.int ((i : Int) + 1))] s = .ok (.d (.tup [stD o, .int j])) s := r1
          unfold partR
          simp only [stD]
          generalize W.map D.str = LW at *
          generalize stD o = so at *
          simp [r1, has_part.has, bindT, bindTs, l2]
      · rw [if_neg c2]
        rw [seqE (e1 := [some (.d (.lst (W.map .str))), some (.d (.int (i : Nat))), some (.d (.str (wat W i))), none, none, none]) (s1 := s) (by
          rw [ifF (s1 := s) (by
            generalize W.map D.str = LW at *
            simp [c2])]
          simp)]
        have lt1 := sp_lat W (d + 2 * f + 1) (i + 1) s hll hw
        have lt0 := sp_lat W (d + 2 * f + 1) i s hll hw
        have lt2 := sp_lat W (d + 2 * f + 1) (i + 2) s hll hw
        have w1 := sp_wat W (d + 2 * f + 2) (i + 1) s hll
        rw [show ((i + 1 : Nat) : Int) = (i : Int) + 1 by omega] at lt1 w1
        rw [show ((i + 2 : Nat) : Int) = (i : Int) + 2 by omega] at lt2
        by_cases c3 : wat W i = SOME ∨ wat W i = ALL
        · rw [if_pos c3]
          have r1 := ih (i + 2) (d + 1) s (by
            have := lev_step (W := W) (i := i) (by rcases c3 with q | q <;> rw [q] <;> rfl)
            have := lev_mono W (i := i + 1) (j := i + 2) (by omega)
            omega)
          rw [show ((i + 2 : Nat) : Int) = (i : Int) + 2 by omega, show d + 1 + 2 * f + 2 = d + 2 * f + 3 by omega] at r1
          have tst : evT (cxΔ Δ fuel (d + 2 * f + 3)) (.or (.cons (.cmp .eq (.var 2) (.str [115, 111, 109, 101])) (.cons (.cmp .eq (.var 2) (.str [97, 108, 108])) .nil))) [some (.d (.lst (W.map .str))), some (.d (.int (i : Nat))), some (.d (.str (wat W i))), none, none, none] s = .ok true s := by
            generalize W.map D.str = LW at *
            rcases c3 with q | q <;> rw [q] <;> simp
          cases el : letO (wat W (i + 1)) with
          | none =>
            rw [el] at lt1
            simp only at lt1
            rw [ss_cons', ifT tst]
            generalize W.map D.str = LW at *
            generalize wat W i = wi at *
            simp [lt1, has_lat.has, partR]
          | some l =>
            rw [el] at lt1
            simp only at lt1
            rw [ss_cons', ifT tst]
            cases e1 : P W f (i + 2) with
            | none =>
              rw [e1] at r1
              have r1 : Φ Δ fuel (d + 2 * f + 3) "read_part" [.d (.lst (W.map .str)), .d (.int ((i : Int) + 2))] s = .exc "NoStatement" s := r1
              generalize W.map D.str = LW at *
              generalize wat W i = wi at *
              simp [lt1, has_lat.has, r1, has_part.has, partR]
            | some a =>
              obtain ⟨o, j⟩ := a
              rw [e1] at r1
              have r1 : Φ Δ fuel (d + 2 * f + 3) "read_part" [.d (.lst (W.map .str)), .d (.int ((i : Int) + 2))] s = .ok (.d (.tup [stD o, .int j])) s := r1
              have eq : stD (.qu (decide (wat W i = ALL)) l o) = .tup [.str (wat W i), .str [l], stD o] := by
                rw [stD]
                rcases c3 with q | q <;> rw [q] <;> rfl
              unfold partR
              simp only [eq]
              generalize W.map D.str = LW at *
              generalize stD o = so at *
              generalize wat W i = wi at *
              simp [lt1, has_lat.has, r1, has_part.has, bindT, bindTs, l2, l3]
        · rw [if_neg c3]
          have c3a : wat W i ≠ SOME := fun q => c3 (.inl q)
          have c3b : wat W i ≠ ALL := fun q => c3 (.inr q)
          rw [seqE (e1 := [some (.d (.lst (W.map .str))), some (.d (.int (i : Nat))), some (.d (.str (wat W i))), none, none, none]) (s1 := s) (by
            rw [ifF (s1 := s) (by
              generalize W.map D.str = LW at *
              simp [c3a, c3b])]
            simp)]
          by_cases c4 : wat W i = ONE
          · rw [if_pos c4]
            rw [c4]
            cases el : letO (wat W (i + 1)) with
            | none =>
              rw [el] at lt1
              simp only at lt1
              generalize W.map D.str = LW at *
              simp [lt1, has_lat.has, partR]
            | some l =>
              rw [el] at lt1
              simp only at lt1
              unfold partR
              simp only [stD]
              generalize W.map D.str = LW at *
              simp [lt1, has_lat.has, l2]
          · rw [if_neg c4]
            rw [seqE (e1 := [some (.d (.lst (W.map .str))), some (.d (.int (i : Nat))), some (.d (.str (wat W i))), none, none, none]) (s1 := s) (by
              rw [ifF (s1 := s) (by
                generalize W.map D.str = LW at *
                simp [c4])]
              simp)]
            cases ea : letO (wat W i) with
            | none =>
              rw [ea] at lt0
              simp only at lt0
              generalize W.map D.str = LW at *
              generalize wat W i = wi at *
              simp [lt0, has_lat.has, partR]
            | some a =>
              rw [ea] at lt0
              simp only at lt0
              cases ek : leafI (wat W (i + 1)) with
              | none =>
                obtain ⟨k1, k2, k3, k4⟩ := leafI_none ek
                simp only
                generalize W.map D.str = LW at *
                generalize wat W i = wi at *
                generalize wat W (i + 1) = wk at *
                simp [lt0, has_lat.has, w1, has_wat.has, k1, k2, k3, k4, partR, isx_ns]
              | some k =>
                have kw := leafI_some ek
                have ko := leafI_or ek
                simp only
                rw [seqE (e1 := [some (.d (.lst (W.map .str))), some (.d (.int (i : Nat))), some (.d (.str (wat W i))), none, none, some (.d (.str [a]))]) (s1 := s) (by
                  generalize W.map D.str = LW at *
                  generalize wat W i = wi at *
                  simp [lt0, has_lat.has])]
                rw [seqE (e1 := [some (.d (.lst (W.map .str))), some (.d (.int (i : Nat))), some (.d (.str (wat W (i + 1)))), none, none, some (.d (.str [a]))]) (s1 := s) (by
                  generalize W.map D.str = LW at *
                  generalize wat W i = wi at *
                  simp [w1, has_wat.has])]
                rw [seqE (e1 := [some (.d (.lst (W.map .str))), some (.d (.int (i : Nat))), some (.d (.str (wat W (i + 1)))), none, none, some (.d (.str [a]))]) (s1 := s) (by
                  rw [ifF (s1 := s) (by
                    generalize W.map D.str = LW at *
                    rcases ko with q | q | q | q <;> rw [q] <;> simp)]
                  simp)]
                cases eb : letO (wat W (i + 2)) with
                | none =>
                  rw [eb] at lt2
                  simp only at lt2
                  generalize W.map D.str = LW at *
                  generalize wat W (i + 1) = wk at *
                  simp [lt2, has_lat.has, partR]
                | some b =>
                  rw [eb] at lt2
                  simp only at lt2
                  unfold partR
                  simp only [stD]
                  rw [kw]
                  generalize W.map D.str = LW at *
                  generalize wat W (i + 1) = wk at *
                  simp [lt2, has_lat.has, l2, l3]
end
end Pv.L

/-! Law 13: the law's reading. -/
namespace Pv.L
open PySem Pv
def resD (o : Option (Stm × Nat)) : D := match o with
  | some a => .tup [stD a.1, .int a.2]
  | none => .non
theorem ns_t (x : Tx) (xs : List D) (s : Store) : cmpV .notin (.d (.str x)) (.d (.tup xs)) s = if xs.all flatD = true then some (!inD (.str x) xs) else none := by
  have e : memV (.d (.str x)) (.d (.tup xs)) s = if xs.all flatD = true then some (inD (.str x) xs) else none := by
    match x with
    | [] => simp [memV, flatD]
    | [a] => simp [memV, flatD]
    | a :: b :: r => simp [memV, flatD]
  show (memV (.d (.str x)) (.d (.tup xs)) s).map (fun b => !b) = _
  rw [e]
  split <;> rfl
theorem wat_lt {W : List Tx} {i : Nat} (h : wat W i ≠ []) : i < W.length := by
  rcases Nat.lt_or_ge i W.length with q | q
  · exact q
  · exfalso
    apply h
    unfold wat
    rw [List.getD_eq_getElem?_getD, List.getElem?_eq_none q]
    rfl
theorem wat_ge {W : List Tx} {i : Nat} (h : W.length ≤ i) : wat W i = [] := by
  unfold wat
  rw [List.getD_eq_getElem?_getD, List.getElem?_eq_none h]
  rfl
theorem at_wat {W : List Tx} {i : Nat} (h : i < W.length) : L2.atI (W.map D.str) (i : Int) = some (.str (wat W i)) := by
  rw [atI_nat (by rw [List.length_map]; exact h), List.getElem?_map]
  unfold wat
  rw [List.getD_eq_getElem?_getD, List.getElem?_eq_getElem h]
  rfl
theorem wat_in {W : List Tx} {i : Nat} (hw : ∀ w ∈ W, w.length ≤ line) : (wat W i).length ≤ line := by
  rcases Nat.lt_or_ge i W.length with q | q
  · unfold wat
    rw [List.getD_eq_getElem?_getD, List.getElem?_eq_getElem q]
    exact hw _ (List.getElem_mem q)
  · rw [wat_ge q]
    exact Nat.zero_le _
section
variable (W : List Tx) (hl : W.length ≤ 1000) (hw : ∀ w ∈ W, w.length ≤ line)
include hl hw
theorem sp_llat (d i : Nat) (s : Store) : Φ Δ fuel (d + 1) "_law_letter_at" [.d (.lst (W.map .str)), .d (.int (i : Nat))] s = .ok (.d (.bl (letO (wat W i)).isSome)) s := by
  rw [has_llat.run rfl]
  unfold b__law_letter_at
  have ml : (W.map D.str).length = W.length := List.length_map _
  have hll : W.length ≤ line := Nat.le_trans hl (by decide)
  by_cases hi : i < W.length
  · have ix := at_wat hi
    have wl := wat_in (i := i) hw
    have h0 : ¬ (W.length : Int) ≤ (i : Int) := by omega
    have h00 : ¬ W.length ≤ i := by omega
    generalize wat W i = w at *
    generalize W.map D.str = LW at *
    match w, wl with
    | [], wl => simp [ml, hll, h0, h00, ix, letO]
    | a :: b :: r, wl =>
      have hl' : r.length + 1 + 1 ≤ line := wl
      have n1 : ¬ ((r.length : Int) + 1 + 1 = 1) := by omega
      simp [ml, hll, h0, h00, ix, letO, hl', n1]
    | [a], wl =>
      have l1 : 1 ≤ line := by decide
      have eL : ([65, 66, 67, 68, 69, 70, 71, 72, 73, 74, 75, 76, 77, 78, 79, 80, 81, 82, 83, 84, 85, 86, 87, 88, 89, 90, 97, 98, 99, 100, 101, 102, 103, 104, 105, 106, 107, 108, 109, 110, 111, 112, 113, 114, 115, 116, 117, 118, 119, 120, 121, 122] : Tx) = LETTERS := rfl
      rw [eL]
      unfold letO
      by_cases m : a ∈ LETTERS
      · simp [ml, hll, h0, h00, ix, l1, m]
      · simp [ml, hll, h0, h00, ix, l1, m]
  · have h0 : (W.length : Int) ≤ (i : Int) := by omega
    have h00 : W.length ≤ i := by omega
    rw [wat_ge h00]
    generalize W.map D.str = LW at *
    simp [ml, hll, h0, h00, letO]
theorem sp_ljoint (f i d : Nat) (s : Store) (ih : ∀ i d s, lev W i < f → Φ Δ fuel (d + 2 * f + 2) "_law_parsed" [.d (.lst (W.map .str)), .d (.int (i : Nat))] s = .ok (.d (resD (P W f i))) s) (h : lev W (i + 1) < f) :
    Φ Δ fuel (d + 2 * f + 3) "_law_joint" [.d (.lst (W.map .str)), .d (.int (i : Nat))] s = .ok (.d (resD (PJ W f i))) s := by
  unfold PJ
  show Φ Δ fuel ((d + 2 * f + 2) + 1) "_law_joint" _ s = _
  rw [has_ljoint.run rfl]
  unfold b__law_joint
  have r1 := ih (i + 1) d s h
  rw [show ((i + 1 : Nat) : Int) = (i : Int) + 1 by omega] at r1
  have ml : (W.map D.str).length = W.length := List.length_map _
  have hll : W.length ≤ line := Nat.le_trans hl (by decide)
  have l2 : (2 : Nat) ≤ line := by decide
  have l3 : (3 : Nat) ≤ line := by decide
  cases e1 : P W f (i + 1) with
  | none =>
    rw [e1] at r1
    unfold resD at r1 ⊢
    simp only at r1 ⊢
    generalize W.map D.str = LW at *
    simp [r1, has_lparsed.has]
  | some a =>
    obtain ⟨o, j⟩ := a
    rw [e1] at r1
    have gj : i + 1 < j := P_gt W f _ _ e1
    have r1 : Φ Δ fuel (d + 2 * f + 2) "_law_parsed" [.d (.lst (W.map .str)), .d (.int ((i : Int) + 1))] s = .ok (.d (.tup [stD o, .int j])) s := r1
    have r2 := ih (j + 1) d s (Nat.lt_of_le_of_lt (lev_mono W (by omega)) h)
    rw [show ((j + 1 : Nat) : Int) = (j : Int) + 1 by omega] at r2
    simp only
    have ix1 : L2.atI [stD o, D.int j] 1 = some (.int j) := rfl
    have ix0 : L2.atI [stD o, D.int j] 0 = some (stD o) := rfl
    rw [seqE (e1 := [some (.d (.lst (W.map .str))), some (.d (.int (i : Nat))), some (.d (.tup [stD o, .int j])), none]) (s1 := s) (by
      generalize W.map D.str = LW at *
      generalize stD o = so at *
      simp [r1, has_lparsed.has])]
    by_cases c : wat W j = AND ∨ wat W j = OR
    · rw [if_pos c]
      have hj : j < W.length := wat_lt (by rcases c with q | q <;> rw [q] <;> simp)
      have aj := at_wat hj
      have h0 : ¬ (W.length : Int) ≤ (j : Int) := by omega
      have h00 : ¬ W.length ≤ j := by omega
      rw [seqE (e1 := [some (.d (.lst (W.map .str))), some (.d (.int (i : Nat))), some (.d (.tup [stD o, .int j])), none]) (s1 := s) (by
        rw [ifF (s1 := s) (by
          generalize W.map D.str = LW at *
          generalize stD o = so at *
          rcases c with c | c <;> rw [c] at aj <;> simp [ix1, ml, hll, h0, h00, aj, ns_t, l2])]
        simp)]
      cases e2 : P W f (j + 1) with
      | none =>
        rw [e2] at r2
        unfold resD at r2 ⊢
        simp only at r2 ⊢
        generalize W.map D.str = LW at *
        generalize stD o = so at *
        simp [ix1, r2, has_lparsed.has]
      | some a2 =>
        obtain ⟨t, e⟩ := a2
        rw [e2] at r2
        have r2 : Φ Δ fuel (d + 2 * f + 2) "_law_parsed" [.d (.lst (W.map .str)), .d (.int ((j : Int) + 1))] s = .ok (.d (.tup [stD t, .int e])) s := r2
        have iy1 : L2.atI [stD t, D.int e] 1 = some (.int e) := rfl
        have iy0 : L2.atI [stD t, D.int e] 0 = some (stD t) := rfl
        rw [seqE (e1 := [some (.d (.lst (W.map .str))), some (.d (.int (i : Nat))), some (.d (.tup [stD o, .int j])), some (.d (.tup [stD t, .int e]))]) (s1 := s) (by
          generalize W.map D.str = LW at *
          generalize stD o = so at *
          generalize stD t = st at *
          simp [ix1, r2, has_lparsed.has])]
        by_cases c2 : wat W e = [41]
        · simp only [if_pos c2]
          have he : e < W.length := wat_lt (by rw [c2]; simp)
          have ae := at_wat he
          rw [c2] at ae
          have g0 : ¬ (W.length : Int) ≤ (e : Int) := by omega
          have g00 : ¬ W.length ≤ e := by omega
          have eb : stD (.bi (decide (wat W j = OR)) o t) = .tup [.str (wat W j), stD o, stD t] := by
            rw [stD]
            rcases c with c | c <;> rw [c] <;> rfl
          unfold resD
          simp only [eb]
          generalize W.map D.str = LW at *
          generalize stD o = so at *
          generalize stD t = st at *
          generalize wat W j = wj at *
          simp [ml, hll, ix0, ix1, iy0, iy1, aj, ae, g0, g00, l2, l3]
        · simp only [if_neg c2]
          unfold resD
          by_cases he : e < W.length
          · have ae := at_wat he
            have g0 : ¬ (W.length : Int) ≤ (e : Int) := by omega
            have g00 : ¬ W.length ≤ e := by omega
            generalize W.map D.str = LW at *
            generalize stD o = so at *
            generalize stD t = st at *
            generalize wat W e = we at *
            simp [ml, hll, iy1, ae, g0, g00, c2]
          · have g0 : (W.length : Int) ≤ (e : Int) := by omega
            have g00 : W.length ≤ e := by omega
            generalize W.map D.str = LW at *
            generalize stD o = so at *
            generalize stD t = st at *
            simp [ml, hll, iy1, g0, g00]
    · rw [if_neg c]
      have c1 : wat W j ≠ AND := fun q => c (.inl q)
      have c2 : wat W j ≠ OR := fun q => c (.inr q)
      have c1' : AND ≠ wat W j := fun q => c1 q.symm
      have c2' : OR ≠ wat W j := fun q => c2 q.symm
      unfold resD
      by_cases hj : j < W.length
      · have aj := at_wat hj
        have h0 : ¬ (W.length : Int) ≤ (j : Int) := by omega
        have h00 : ¬ W.length ≤ j := by omega
        generalize W.map D.str = LW at *
        generalize stD o = so at *
        generalize wat W j = wj at *
        simp [ix1, ml, hll, h0, h00, aj, ns_t, l2, c1, c2, c1', c2']
      · have h0 : (W.length : Int) ≤ (j : Int) := by omega
        have h00 : W.length ≤ j := by omega
        generalize W.map D.str = LW at *
        generalize stD o = so at *
        simp [ix1, ml, hll, h0, h00]
theorem sp_lparsed : ∀ (f i d : Nat) (s : Store), lev W i < f → Φ Δ fuel (d + 2 * f + 2) "_law_parsed" [.d (.lst (W.map .str)), .d (.int (i : Nat))] s = .ok (.d (resD (P W f i))) s
  | 0, i, d, s, h => absurd h (Nat.not_lt_zero _)
  | f + 1, i, d, s, h => by
    show Φ Δ fuel ((d + 2 * f + 3) + 1) "_law_parsed" _ s = _
    have ih := fun i d s => sp_lparsed f i d s
    rw [has_lparsed.run rfl]
    unfold b__law_parsed
    have ml : (W.map D.str).length = W.length := List.length_map _
    have hll : W.length ≤ line := Nat.le_trans hl (by decide)
    have l2 : (2 : Nat) ≤ line := by decide
    have l3 : (3 : Nat) ≤ line := by decide
    have l4 : (4 : Nat) ≤ line := by decide
    by_cases hi : i < W.length
    · have ai := at_wat hi
      have h0 : ¬ (W.length : Int) ≤ (i : Int) := by omega
      have h00 : ¬ W.length ≤ i := by omega
      rw [seqE (e1 := [some (.d (.lst (W.map .str))), some (.d (.int (i : Nat))), none, none]) (s1 := s) (by
        rw [ifF (s1 := s) (by
          generalize W.map D.str = LW at *
          simp [ml, hll, h0, h00])]
        simp)]
      rw [seqE (e1 := [some (.d (.lst (W.map .str))), some (.d (.int (i : Nat))), some (.d (.str (wat W i))), none]) (s1 := s) (by
        generalize W.map D.str = LW at *
        simp [ai])]
      by_cases c1 : wat W i = [40]
      · rw [P_j c1]
        have J := sp_ljoint W hl hw f i d s ih (by have := lev_step (W := W) (i := i) (by rw [c1]; rfl); omega)
        rw [c1]
        generalize resD (PJ W f i) = R at *
        generalize W.map D.str = LW at *
        simp [J, has_ljoint.has]
      · rw [P, if_neg c1]
        rw [seqE (e1 := [some (.d (.lst (W.map .str))), some (.d (.int (i : Nat))), some (.d (.str (wat W i))), none]) (s1 := s) (by
          rw [ifF (s1 := s) (by
            generalize W.map D.str = LW at *
            simp [c1])]
          simp)]
        by_cases c2 : wat W i = NOT
        · rw [if_pos c2]
          have r1 := ih (i + 1) (d + 1) s (by have := lev_step (W := W) (i := i) (by rw [c2]; rfl); omega)
          rw [show ((i + 1 : Nat) : Int) = (i : Int) + 1 by omega, show d + 1 + 2 * f + 2 = d + 2 * f + 3 by omega] at r1
          rw [c2]
          cases e1 : P W f (i + 1) with
          | none =>
            rw [e1] at r1
            unfold resD at r1 ⊢
            simp only at r1 ⊢
            generalize W.map D.str = LW at *
            simp [r1, has_lparsed.has]
          | some a =>
            obtain ⟨o, j⟩ := a
            rw [e1] at r1
            unfold resD at r1 ⊢
            simp only [stD] at r1 ⊢
            have ix1 : L2.atI [stD o, D.int j] 1 = some (.int j) := rfl
            have ix0 : L2.atI [stD o, D.int j] 0 = some (stD o) := rfl
            generalize W.map D.str = LW at *
            generalize stD o = so at *
            simp [r1, has_lparsed.has, ix0, ix1, l2]
        · rw [if_neg c2]
          rw [seqE (e1 := [some (.d (.lst (W.map .str))), some (.d (.int (i : Nat))), some (.d (.str (wat W i))), none]) (s1 := s) (by
            rw [ifF (s1 := s) (by
              generalize W.map D.str = LW at *
              simp [c2])]
            simp)]
          have lt1 := sp_llat W hl hw (d + 2 * f + 2) (i + 1) s
          have lt0 := sp_llat W hl hw (d + 2 * f + 2) i s
          have lt2 := sp_llat W hl hw (d + 2 * f + 2) (i + 2) s
          rw [show ((i + 1 : Nat) : Int) = (i : Int) + 1 by omega] at lt1
          rw [show ((i + 2 : Nat) : Int) = (i : Int) + 2 by omega] at lt2
          by_cases c3 : wat W i = SOME ∨ wat W i = ALL
          · rw [if_pos c3]
            have r1 := ih (i + 2) (d + 1) s (by
              have := lev_step (W := W) (i := i) (by rcases c3 with q | q <;> rw [q] <;> rfl)
              have := lev_mono W (i := i + 1) (j := i + 2) (by omega)
              omega)
            rw [show ((i + 2 : Nat) : Int) = (i : Int) + 2 by omega, show d + 1 + 2 * f + 2 = d + 2 * f + 3 by omega] at r1
            have tst : evT (cxΔ Δ fuel (d + 2 * f + 3)) (.or (.cons (.cmp .eq (.var 2) (.str [115, 111, 109, 101])) (.cons (.cmp .eq (.var 2) (.str [97, 108, 108])) .nil))) [some (.d (.lst (W.map .str))), some (.d (.int (i : Nat))), some (.d (.str (wat W i))), none] s = .ok true s := by
              generalize W.map D.str = LW at *
              rcases c3 with q | q <;> rw [q] <;> simp
            rw [ss_cons', ifT tst]
            cases e1 : P W f (i + 2) with
            | none =>
              rw [e1] at r1
              cases el : letO (wat W (i + 1)) with
              | none =>
                unfold resD at r1 ⊢
                simp only at r1 ⊢
                generalize W.map D.str = LW at *
                generalize wat W i = wi at *
                simp [r1, has_lparsed.has]
              | some l =>
                unfold resD at r1 ⊢
                simp only at r1 ⊢
                generalize W.map D.str = LW at *
                generalize wat W i = wi at *
                simp [r1, has_lparsed.has]
            | some a =>
              obtain ⟨o, j⟩ := a
              rw [e1] at r1
              have ix1 : L2.atI [stD o, D.int j] 1 = some (.int j) := rfl
              have ix0 : L2.atI [stD o, D.int j] 0 = some (stD o) := rfl
              cases el : letO (wat W (i + 1)) with
              | none =>
                rw [el] at lt1
                unfold resD at r1 ⊢
                simp at r1 lt1 ⊢
                generalize W.map D.str = LW at *
                generalize wat W i = wi at *
                generalize stD o = so at *
                simp [r1, has_lparsed.has, lt1, has_llat.has]
              | some l =>
                rw [el] at lt1
                obtain ⟨ew, _⟩ := letO_some el
                have a1 := at_wat (W := W) (i := i + 1) (wat_lt (by rw [ew]; simp))
                rw [ew, show ((i + 1 : Nat) : Int) = (i : Int) + 1 by omega] at a1
                have eq : stD (.qu (decide (wat W i = ALL)) l o) = .tup [.str (wat W i), .str [l], stD o] := by
                  rw [stD]
                  rcases c3 with q | q <;> rw [q] <;> rfl
                unfold resD at r1 ⊢
                simp only [eq] at r1 ⊢
                simp only [Option.isSome_some] at lt1
                generalize W.map D.str = LW at *
                generalize stD o = so at *
                generalize wat W i = wi at *
                simp [r1, has_lparsed.has, lt1, has_llat.has, a1, ix0, ix1, l2, l3]
          · rw [if_neg c3]
            have c3a : wat W i ≠ SOME := fun q => c3 (.inl q)
            have c3b : wat W i ≠ ALL := fun q => c3 (.inr q)
            rw [seqE (e1 := [some (.d (.lst (W.map .str))), some (.d (.int (i : Nat))), some (.d (.str (wat W i))), none]) (s1 := s) (by
              rw [ifF (s1 := s) (by
                generalize W.map D.str = LW at *
                simp [c3a, c3b])]
              simp)]
            by_cases c4 : wat W i = ONE
            · rw [if_pos c4]
              rw [c4]
              cases el : letO (wat W (i + 1)) with
              | none =>
                rw [el] at lt1
                simp only [Option.isSome_none] at lt1
                unfold resD
                simp only
                generalize W.map D.str = LW at *
                simp [lt1, has_llat.has]
              | some l =>
                rw [el] at lt1
                obtain ⟨ew, _⟩ := letO_some el
                have a1 := at_wat (W := W) (i := i + 1) (wat_lt (by rw [ew]; simp))
                rw [ew, show ((i + 1 : Nat) : Int) = (i : Int) + 1 by omega] at a1
                simp only [Option.isSome_some] at lt1
                unfold resD
                simp only [stD]
                generalize W.map D.str = LW at *
                simp [lt1, has_llat.has, a1, l2]
            · rw [if_neg c4]
              rw [seqE (e1 := [some (.d (.lst (W.map .str))), some (.d (.int (i : Nat))), some (.d (.str (wat W i))), none]) (s1 := s) (by
                rw [ifF (s1 := s) (by
                  generalize W.map D.str = LW at *
                  simp [c4])]
                simp)]
              cases ea : letO (wat W i) with
              | none =>
                rw [ea] at lt0
                simp only [Option.isSome_none] at lt0
                unfold resD
                simp only
                generalize W.map D.str = LW at *
                generalize wat W i = wi at *
                simp [lt0, has_llat.has]
              | some a =>
                rw [ea] at lt0
                obtain ⟨ewa, _⟩ := letO_some ea
                simp only [Option.isSome_some] at lt0
                cases eb : letO (wat W (i + 2)) with
                | none =>
                  rw [eb] at lt2
                  simp only [Option.isSome_none] at lt2
                  cases ek : leafI (wat W (i + 1)) with
                  | none =>
                    unfold resD
                    simp only
                    generalize W.map D.str = LW at *
                    generalize wat W i = wi at *
                    simp [lt0, lt2, has_llat.has]
                  | some k =>
                    unfold resD
                    simp only
                    generalize W.map D.str = LW at *
                    generalize wat W i = wi at *
                    simp [lt0, lt2, has_llat.has]
                | some b =>
                  rw [eb] at lt2
                  obtain ⟨ewb, _⟩ := letO_some eb
                  simp only [Option.isSome_some] at lt2
                  have h2 : i + 2 < W.length := wat_lt (by rw [ewb]; simp)
                  have a2 := at_wat h2
                  rw [ewb, show ((i + 2 : Nat) : Int) = (i : Int) + 2 by omega] at a2
                  have a1 := at_wat (W := W) (i := i + 1) (by omega)
                  rw [show ((i + 1 : Nat) : Int) = (i : Int) + 1 by omega] at a1
                  rw [seqE (e1 := [some (.d (.lst (W.map .str))), some (.d (.int (i : Nat))), some (.d (.str (wat W i))), none]) (s1 := s) (by
                    rw [ifF (s1 := s) (by
                      generalize W.map D.str = LW at *
                      generalize wat W i = wi at *
                      simp [lt0, lt2, has_llat.has])]
                    simp)]
                  cases ek : leafI (wat W (i + 1)) with
                  | none =>
                    obtain ⟨k1, k2, k3, k4⟩ := leafI_none ek
                    have k1' := Ne.symm k1
                    have k2' := Ne.symm k2
                    have k3' := Ne.symm k3
                    have k4' := Ne.symm k4
                    unfold resD
                    simp only
                    generalize W.map D.str = LW at *
                    generalize wat W i = wi at *
                    generalize wat W (i + 1) = wk at *
                    simp [a1, ns_t, l4, k1', k2', k3', k4']
                  | some k =>
                    have kw := leafI_some ek
                    have ko := leafI_or ek
                    rw [seqE (e1 := [some (.d (.lst (W.map .str))), some (.d (.int (i : Nat))), some (.d (.str (wat W i))), none]) (s1 := s) (by
                      rw [ifF (s1 := s) (by
                        generalize W.map D.str = LW at *
                        generalize wat W i = wi at *
                        rcases ko with q | q | q | q <;> rw [q] at a1 <;> simp [a1, ns_t, l4])]
                      simp)]
                    unfold resD
                    simp only [stD]
                    rw [kw, ewa]
                    generalize W.map D.str = LW at *
                    generalize wat W (i + 1) = wk at *
                    simp [a1, a2, l2, l3]
    · have h0 : (W.length : Int) ≤ (i : Int) := by omega
      have h00 : W.length ≤ i := by omega
      have e : P W (f + 1) i = none := by
        rw [P, wat_ge h00]
        simp [letO]
      rw [e]
      unfold resD
      simp only
      generalize W.map D.str = LW at *
      simp [ml, hll, h0, h00]
end
end Pv.L

/-! Law 13: parts, what is read of a text. -/
namespace Pv.L
open PySem Pv
theorem has_lparts : Has Δ "_law_parts" 1 3 b__law_parts := ⟨_, _, rfl, rfl, rfl⟩
theorem has_lread : Has Δ "_law_read" 1 3 b__law_read := ⟨_, _, rfl, rfl, rfl⟩
theorem has_ldue : Has Δ "_law_due" 1 4 b__law_due := ⟨_, _, rfl, rfl, rfl⟩
theorem i0 (a : D) (l : List D) : L2.atI (a :: l) 0 = some a := by
  rw [show (0 : Int) = ((0 : Nat) : Int) from rfl, atI_nat (by simp)]
  rfl
theorem i1 (a b : D) (l : List D) : L2.atI (a :: b :: l) 1 = some b := by
  rw [show (1 : Int) = ((1 : Nat) : Int) from rfl, atI_nat (by simp)]
  rfl
theorem i2 (a b c : D) (l : List D) : L2.atI (a :: b :: c :: l) 2 = some c := by
  rw [show (2 : Int) = ((2 : Nat) : Int) from rfl, atI_nat (by simp)]
  rfl
theorem leafW4 (w : Fin 4) : leafW w = [105, 110] ∨ leafW w = [108, 101, 102, 116] ∨ leafW w = [114, 105, 103, 104, 116] ∨ leafW w = [98, 101, 108, 111, 119] := by
  match w with
  | 0 => exact .inl rfl
  | 1 => exact .inr (.inl rfl)
  | 2 => exact .inr (.inr (.inl rfl))
  | 3 => exact .inr (.inr (.inr rfl))
theorem quW2 (q : Bool) : quW q = [97, 108, 108] ∨ quW q = [115, 111, 109, 101] := by cases q; exact .inr rfl; exact .inl rfl
theorem biW2 (q : Bool) : biW q = [97, 110, 100] ∨ biW q = [111, 114] := by cases q; exact .inl rfl; exact .inr rfl
/-- how deep it is -/
def dep : Stm → Nat
  | .leaf _ _ _ => 1
  | .one _ => 1
  | .neg s => dep s + 1
  | .qu _ _ s => dep s + 1
  | .bi _ s t => max (dep s) (dep t) + 1
theorem P_dep (W : List Tx) : ∀ (f i : Nat) (a : Stm × Nat), P W f i = some a → dep a.1 ≤ f
  | 0, i, a, h => by cases h
  | f + 1, i, a, h => by
    unfold P at h
    split at h
    · split at h
      · cases h
      · rename_i o j e
        have h1 := P_dep W f _ _ e
        split at h
        · split at h
          · cases h
          · rename_i t e2 e3
            have h2 := P_dep W f _ _ e3
            split at h
            · cases h
              show max (dep o) (dep t) + 1 ≤ f + 1
              simp only at h1 h2
              omega
            · cases h
        · cases h
    · split at h
      · split at h
        · cases h
        · rename_i o j e
          have h1 := P_dep W f _ _ e
          cases h
          show dep o + 1 ≤ f + 1
          simp only at h1
          omega
      · split at h
        · split at h
          · cases h
          · split at h
            · cases h
            · rename_i o j e
              have h1 := P_dep W f _ _ e
              cases h
              show dep o + 1 ≤ f + 1
              simp only at h1
              omega
        · split at h
          · split at h
            · cases h
            · cases h; show 1 ≤ f + 1; omega
          · split at h
            · cases h
            · split at h
              · cases h
              · split at h
                · cases h
                · cases h; show 1 ≤ f + 1; omega
theorem sp_parts : ∀ (st : Stm) (d : Nat) (s : Store), Φ Δ fuel (d + dep st) "parts_many" [.d (stD st)] s = .ok (.d (.int st.sz)) s := by
  intro st
  induction st with
  | leaf w a b =>
    intro d s
    rw [show d + dep (Stm.leaf w a b) = d + 1 by simp only [dep], has_parts.run rfl]
    unfold b_parts_many
    rcases leafW4 w with e | e | e | e <;> simp [stD, e, i0, Stm.sz]
  | one a =>
    intro d s
    rw [show d + dep (Stm.one a) = d + 1 by simp only [dep], has_parts.run rfl]
    unfold b_parts_many
    simp [stD, i0, Stm.sz]
  | neg t ih =>
    intro d s
    have ih := ih d s
    rw [show d + dep (Stm.neg t) = d + dep t + 1 by simp only [dep]; omega, has_parts.run rfl]
    unfold b_parts_many
    simp [stD, i0, i1, ih, has_parts.has, Stm.sz]
    omega
  | qu q a t ih =>
    intro d s
    have ih := ih d s
    rw [show d + dep (Stm.qu q a t) = d + dep t + 1 by simp only [dep]; omega, has_parts.run rfl]
    unfold b_parts_many
    rcases quW2 q with e | e <;> (simp [stD, e, i0, i1, i2, ih, has_parts.has, Stm.sz]; omega)
  | bi o t1 t2 ih1 ih2 =>
    intro d s
    have ih1 := ih1 (d + max (dep t1) (dep t2) - dep t1) s
    have ih2 := ih2 (d + max (dep t1) (dep t2) - dep t2) s
    rw [show d + max (dep t1) (dep t2) - dep t1 + dep t1 = d + max (dep t1) (dep t2) by omega] at ih1
    rw [show d + max (dep t1) (dep t2) - dep t2 + dep t2 = d + max (dep t1) (dep t2) by omega] at ih2
    rw [show d + dep (Stm.bi o t1 t2) = d + max (dep t1) (dep t2) + 1 by simp only [dep]; omega, has_parts.run rfl]
    unfold b_parts_many
    rcases biW2 o with e | e <;> (simp [stD, e, i0, i1, i2, ih1, ih2, has_parts.has, Stm.sz]; omega)
theorem parts_turn (d : Nat) (v : Option Val) (n : Int) (x : Tx) (s : Store) : evSs (cxΔ Δ fuel d) b__law_parts_1 [v, some (.d (.int n)), some (.d (.str x))] s = .nx [v, some (.d (.int n)), some (.d (.str x))] s := by
  unfold b__law_parts_1
  simp
theorem parts_turn2 (d : Nat) (v : Option Val) (n : Int) (st : Stm) (s : Store) (ih : Φ Δ fuel d "_law_parts" [.d (stD st)] s = .ok (.d (.int st.sz)) s) : evSs (cxΔ Δ fuel d) b__law_parts_1 [v, some (.d (.int n)), some (.d (stD st))] s = .nx [v, some (.d (.int (n + st.sz))), some (.d (stD st))] s := by
  unfold b__law_parts_1
  obtain ⟨xs, e⟩ : ∃ xs, stD st = .tup xs := by cases st <;> exact ⟨_, rfl⟩
  rw [e] at ih ⊢
  simp [ih, has_lparts.has]
theorem sp_lparts : ∀ (st : Stm) (d : Nat) (s : Store), Φ Δ fuel (d + dep st) "_law_parts" [.d (stD st)] s = .ok (.d (.int st.sz)) s := by
  have c2 : ∀ (a b : D), cutL [a, b] (some 1) none = [b] := fun a b => by rw [cut_from _ (by omega)]; rfl
  have c3 : ∀ (a b c : D), cutL [a, b, c] (some 1) none = [b, c] := fun a b c => by rw [cut_from _ (by omega)]; rfl
  intro st
  induction st with
  | leaf w a b =>
    intro d s
    rw [show d + dep (Stm.leaf w a b) = d + 1 by simp only [dep], has_lparts.run rfl]
    unfold b__law_parts
    simp [stD, c3, forL, Walk.ok, parts_turn, Stm.sz]
  | one a =>
    intro d s
    rw [show d + dep (Stm.one a) = d + 1 by simp only [dep], has_lparts.run rfl]
    unfold b__law_parts
    simp [stD, c2, forL, Walk.ok, parts_turn, Stm.sz]
  | neg t ih =>
    intro d s
    have ih := parts_turn2 (d + dep t) (some (.d (stD (.neg t)))) 1 t s (ih d s)
    rw [show d + dep (Stm.neg t) = d + dep t + 1 by simp only [dep]; omega, has_lparts.run rfl]
    unfold b__law_parts
    simp only [stD] at ih ⊢
    generalize stD t = td at *
    simp [c2, forL, Walk.ok, ih, Stm.sz]
    omega
  | qu q a t ih =>
    intro d s
    have ih := parts_turn2 (d + dep t) (some (.d (stD (.qu q a t)))) 1 t s (ih d s)
    rw [show d + dep (Stm.qu q a t) = d + dep t + 1 by simp only [dep]; omega, has_lparts.run rfl]
    unfold b__law_parts
    simp only [stD] at ih ⊢
    generalize stD t = td at *
    simp [c3, forL, Walk.ok, parts_turn, ih, Stm.sz]
    omega
  | bi o t1 t2 ih1 ih2 =>
    intro d s
    have h1 := ih1 (d + max (dep t1) (dep t2) - dep t1) s
    have h2 := ih2 (d + max (dep t1) (dep t2) - dep t2) s
    rw [show d + max (dep t1) (dep t2) - dep t1 + dep t1 = d + max (dep t1) (dep t2) by omega] at h1
    rw [show d + max (dep t1) (dep t2) - dep t2 + dep t2 = d + max (dep t1) (dep t2) by omega] at h2
    have h1 := parts_turn2 (d + max (dep t1) (dep t2)) (some (.d (stD (.bi o t1 t2)))) 1 t1 s h1
    have h2 := parts_turn2 (d + max (dep t1) (dep t2)) (some (.d (stD (.bi o t1 t2)))) (1 + t1.sz) t2 s h2
    rw [show d + dep (Stm.bi o t1 t2) = d + max (dep t1) (dep t2) + 1 by simp only [dep]; omega, has_lparts.run rfl]
    unfold b__law_parts
    simp only [stD] at h1 h2 ⊢
    generalize stD t1 = td1 at *
    generalize stD t2 = td2 at *
    generalize max (dep t1) (dep t2) = mx at *
    simp [c3, forL, Walk.ok, h1, h2, Stm.sz]
    omega
end Pv.L

/-! Law 13: the program's and the law's answer at a text. -/
namespace Pv.L
open PySem Pv
abbrev REF : Tx := [114, 101, 102, 117, 115, 101, 100]
def GRT : D := .tup [.str REF, .bl true, .bl false, .bl true, .bl false]
def NOS : D := .tup [.str REF, .bl true, .bl true, .bl false, .bl false]
def Ws (t : Tx) : List Tx := splitC 32 t
theorem splitC_len (c : Nat) : ∀ t : Tx, (splitC c t).length ≤ t.length + 1
  | [] => Nat.le_refl _
  | x :: r => by
    have ih := splitC_len c r
    rw [splitC]
    split
    · rw [List.length_cons, List.length_cons]; omega
    · split
      · rename_i e
        rw [e] at ih
        simp at ih ⊢
      · rename_i h tl e
        rw [e, List.length_cons] at ih
        rw [List.length_cons, List.length_cons]
        omega
theorem splitC_mem (c : Nat) : ∀ (t : Tx), ∀ w ∈ splitC c t, w.length ≤ t.length
  | [], w, h => by
    rw [splitC] at h
    simp at h
    rw [h]
    exact Nat.le_refl _
  | x :: r, w, h => by
    have ih := splitC_mem c r
    rw [splitC] at h
    rw [List.length_cons]
    split at h
    · rcases List.mem_cons.mp h with e | e
      · rw [e]; exact Nat.zero_le _
      · exact Nat.le_succ_of_le (ih w e)
    · split at h
      · simp at h
        rw [h]
        simp
      · rename_i y tl e
        rw [e] at ih
        rcases List.mem_cons.mp h with q | q
        · rw [q, List.length_cons]
          exact Nat.succ_le_succ (ih y List.mem_cons_self)
        · exact Nat.le_succ_of_le (ih w (List.mem_cons_of_mem _ q))
def Pt (t : Tx) : Option (Stm × Nat) := P (Ws t) (lev (Ws t) 0 + 1) 0
inductive Out where
  | great | none | st (s : Stm)
def outT (t : Tx) : Out := if 300 < t.length then .great else match Pt t with
  | none => .none
  | some a => if a.2 = (Ws t).length then (if 30 < a.1.sz then .great else .st a.1) else .none
def outD : Out → D
  | .great => GRT
  | .none => NOS
  | .st s => stD s
def outR (s : Store) : Out → R Val
  | .great => .exc "TooGreat" s
  | .none => .exc "NoStatement" s
  | .st t => .ok (.d (stD t)) s
section
variable (t : Tx) (hl : t.length ≤ 1000000) (hv : t.length ≤ 300 → lev (Ws t) 0 ≤ 110)
include hl hv
theorem sp_read (s : Store) : Φ Δ fuel 228 "read_statement" [.d (.str t)] s = outR s (outT t) := by
  show Φ Δ fuel (227 + 1) "read_statement" _ s = _
  rw [has_read.run rfl]
  unfold b_read_statement outT
  have tl : t.length ≤ line := by show _ ≤ 16777216; omega
  have tl2 : t.length + 2 ≤ line := by show _ ≤ 16777216; omega
  by_cases c : 300 < t.length
  · rw [if_pos c]
    have c' : (300 : Int) < (t.length : Int) := by omega
    simp [tl, glob_signs, c, c', outR, isx_tg]
  · rw [if_neg c]
    have c' : ¬ (300 : Int) < (t.length : Int) := by omega
    have hv := hv (by omega)
    have Wl := splitC_len 32 t
    have Wm := splitC_mem 32 t
    have rp := sp_part (Ws t) (by show (splitC 32 t).length ≤ 1000; omega) (fun w hw => Nat.le_trans (Wm w hw) tl) (lev (Ws t) 0 + 1) 0 (225 - 2 * (lev (Ws t) 0 + 1)) s (Nat.lt_succ_self _)
    rw [show 225 - 2 * (lev (Ws t) 0 + 1) + 2 * (lev (Ws t) 0 + 1) + 2 = 227 by omega, show ((0 : Nat) : Int) = 0 from rfl] at rp
    have eP : P (Ws t) (lev (Ws t) 0 + 1) 0 = Pt t := rfl
    rw [eP] at rp
    have eW : splitC 32 t = Ws t := rfl
    rw [seqE (e1 := [some (.d (.str t)), none, none, none]) (s1 := s) (by
      rw [ifF (s1 := s) (by simp [tl, glob_signs, c, c'])]
      simp)]
    rw [seqE (e1 := [some (.d (.str t)), some (.d (.lst ((Ws t).map .str))), none, none]) (s1 := s) (by simp [tl2, eW])]
    have wll : (Ws t).length ≤ line := by show (splitC 32 t).length ≤ 16777216; omega
    have mll : ((Ws t).map D.str).length = (Ws t).length := List.length_map _
    cases e : Pt t with
    | none =>
      rw [e] at rp
      have rp : Φ Δ fuel 227 "read_part" [.d (.lst ((Ws t).map .str)), .d (.int 0)] s = .exc "NoStatement" s := rp
      generalize (Ws t).map D.str = LW at *
      simp [rp, has_part.has, outR]
    | some a =>
      obtain ⟨st, j⟩ := a
      rw [e] at rp
      have dp : dep st ≤ lev (Ws t) 0 + 1 := P_dep (Ws t) _ _ _ e
      have rp : Φ Δ fuel 227 "read_part" [.d (.lst ((Ws t).map .str)), .d (.int 0)] s = .ok (.d (.tup [stD st, .int j])) s := rp
      have pm := sp_parts st (227 - dep st) s
      rw [show 227 - dep st + dep st = 227 by omega] at pm
      simp only
      rw [seqE (e1 := [some (.d (.str t)), some (.d (.lst ((Ws t).map .str))), some (.d (stD st)), some (.d (.int j))]) (s1 := s) (by
        generalize (Ws t).map D.str = LW at *
        generalize stD st = sd at *
        simp [rp, has_part.has, bindT, bindTs])]
      by_cases c1 : j = (Ws t).length
      · rw [if_pos c1]
        subst c1
        rw [seqE (e1 := [some (.d (.str t)), some (.d (.lst ((Ws t).map .str))), some (.d (stD st)), some (.d (.int ((Ws t).length : Nat)))]) (s1 := s) (by
          rw [ifF (s1 := s) (by
            generalize (Ws t).map D.str = LW at *
            generalize stD st = sd at *
            simp [mll, wll])]
          simp)]
        by_cases c2 : 30 < st.sz
        · rw [if_pos c2]
          have c2' : (30 : Int) < (st.sz : Int) := by omega
          generalize (Ws t).map D.str = LW at *
          generalize stD st = sd at *
          simp [pm, has_parts.has, glob_parts, c2, c2', outR, isx_tg]
        · rw [if_neg c2]
          have c2' : ¬ (30 : Int) < (st.sz : Int) := by omega
          unfold outR
          simp only
          generalize (Ws t).map D.str = LW at *
          generalize stD st = sd at *
          simp [pm, has_parts.has, glob_parts, c2, c2']
      · rw [if_neg c1]
        have c1' : ¬ (j : Int) = ((Ws t).length : Int) := by omega
        generalize (Ws t).map D.str = LW at *
        generalize stD st = sd at *
        simp [mll, wll, c1, c1', outR, isx_ns]
theorem sp_ldue (s : Store) : Φ Δ fuel 229 "_law_due" [.d (.str t)] s = .ok (.d (outD (outT t))) s := by
  show Φ Δ fuel (228 + 1) "_law_due" _ s = _
  rw [has_ldue.run rfl]
  unfold b__law_due outT
  have tl : t.length ≤ line := by show _ ≤ 16777216; omega
  have tl2 : t.length + 2 ≤ line := by show _ ≤ 16777216; omega
  have l5 : (5 : Nat) ≤ line := by decide
  rw [seqE (e1 := [some (.d (.str t)), some (.d GRT), none, none]) (s1 := s) (by simp [l5, GRT])]
  by_cases c : 300 < t.length
  · rw [if_pos c]
    have c' : (300 : Int) < (t.length : Int) := by omega
    unfold outD
    simp only
    generalize GRT = G at *
    simp [tl, c, c']
  · rw [if_neg c]
    have c' : ¬ (300 : Int) < (t.length : Int) := by omega
    have hv := hv (by omega)
    have Wl := splitC_len 32 t
    have Wm := splitC_mem 32 t
    have rp := sp_lparsed (Ws t) (by show (splitC 32 t).length ≤ 1000; omega) (fun w hw => Nat.le_trans (Wm w hw) tl) (lev (Ws t) 0 + 1) 0 (226 - 2 * (lev (Ws t) 0 + 1)) s (Nat.lt_succ_self _)
    rw [show 226 - 2 * (lev (Ws t) 0 + 1) + 2 * (lev (Ws t) 0 + 1) + 2 = 228 by omega, show ((0 : Nat) : Int) = 0 from rfl] at rp
    have eP : P (Ws t) (lev (Ws t) 0 + 1) 0 = Pt t := rfl
    rw [eP] at rp
    have eW : splitC 32 t = Ws t := rfl
    rw [seqE (e1 := [some (.d (.str t)), some (.d GRT), none, none]) (s1 := s) (by
      rw [ifF (s1 := s) (by simp [tl, c, c'])]
      simp)]
    rw [seqE (e1 := [some (.d (.str t)), some (.d GRT), some (.d (.lst ((Ws t).map .str))), none]) (s1 := s) (by simp [tl2, eW])]
    have wll : (Ws t).length ≤ line := by show (splitC 32 t).length ≤ 16777216; omega
    have mll : ((Ws t).map D.str).length = (Ws t).length := List.length_map _
    cases e : Pt t with
    | none =>
      rw [e] at rp
      unfold resD at rp
      simp only at rp
      unfold outD
      simp only
      generalize (Ws t).map D.str = LW at *
      generalize GRT = G at *
      simp [rp, has_lparsed.has, NOS, l5]
    | some a =>
      obtain ⟨st, j⟩ := a
      rw [e] at rp
      have dp : dep st ≤ lev (Ws t) 0 + 1 := P_dep (Ws t) _ _ _ e
      unfold resD at rp
      simp only at rp
      have pm := sp_lparts st (228 - dep st) s
      rw [show 228 - dep st + dep st = 228 by omega] at pm
      simp only
      have ix1 : L2.atI [stD st, D.int j] 1 = some (.int j) := rfl
      have ix0 : L2.atI [stD st, D.int j] 0 = some (stD st) := rfl
      rw [seqE (e1 := [some (.d (.str t)), some (.d GRT), some (.d (.lst ((Ws t).map .str))), some (.d (.tup [stD st, .int j]))]) (s1 := s) (by
        generalize (Ws t).map D.str = LW at *
        generalize stD st = sd at *
        generalize GRT = G at *
        simp [rp, has_lparsed.has])]
      by_cases c1 : j = (Ws t).length
      · rw [if_pos c1]
        subst c1
        rw [seqE (e1 := [some (.d (.str t)), some (.d GRT), some (.d (.lst ((Ws t).map .str))), some (.d (.tup [stD st, .int ((Ws t).length : Nat)]))]) (s1 := s) (by
          rw [ifF (s1 := s) (by
            generalize (Ws t).map D.str = LW at *
            generalize stD st = sd at *
            generalize GRT = G at *
            simp [mll, wll, ix1])]
          simp)]
        by_cases c2 : 30 < st.sz
        · rw [if_pos c2]
          have c2' : (30 : Int) < (st.sz : Int) := by omega
          unfold outD
          simp only
          generalize (Ws t).map D.str = LW at *
          generalize stD st = sd at *
          generalize GRT = G at *
          simp [pm, has_lparts.has, c2, c2', ix0]
        · rw [if_neg c2]
          have c2' : ¬ (30 : Int) < (st.sz : Int) := by omega
          unfold outD
          simp only
          generalize (Ws t).map D.str = LW at *
          generalize stD st = sd at *
          generalize GRT = G at *
          simp [pm, has_lparts.has, c2, c2', ix0]
      · rw [if_neg c1]
        have c1' : ¬ (j : Int) = ((Ws t).length : Int) := by omega
        unfold outD
        simp only
        generalize (Ws t).map D.str = LW at *
        generalize stD st = sd at *
        generalize GRT = G at *
        simp [mll, wll, c1, c1', ix1, NOS, l5]
end
theorem hIsi {cx : Cxt} {c t : String} {env : Env} {b : Bool} (h : cx.sub c t = some b) : evH cx c env (.isi t) = some (.bl b) := by
  rw [evH, h]
theorem hIsis {cx : Cxt} {c : String} {ts : List String} {env : Env} {bs : List D} (h : subs cx c ts = some bs) (hl : bs.length ≤ line) : evH cx c env (.isis ts) = some (.bl (bs.any trD)) := by
  rw [evH, h]
  exact if_pos hl
theorem hSet {cx : Cxt} {c : String} {j : Nat} {e : HE} {r : List HS} {env : Env} {s : Store} {x : D} (h : evH cx c env e = some x) : evHS cx c (.set j e :: r) env s = evHS cx c r (env.set j (some (.d x))) s := by
  rw [evHS, h]
theorem told_h (c : String) (b1 b2 b3 : Bool) (x4 : D) (bs : List D) (env : Env) (s : Store) (h1 : Δ.sub c "ValueError" = some b1) (h2 : Δ.sub c "NoStatement" = some b2) (h3 : Δ.sub c "TooGreat" = some b3)
    (h4 : subs (cxΔ Δ fuel 228) c ["NoTree", "NoPlace", "NoNumber", "NoName", "NoLine", "NothingDone", "NothingHeld"] = some bs) (hb : bs.length ≤ line) :
    evHS (cxΔ Δ fuel 228) c [.set 1 (.tup (.cons (.str REF) (.cons (.isi "ValueError") (.cons (.isi "NoStatement") (.cons (.isi "TooGreat") (.cons (.isis ["NoTree", "NoPlace", "NoNumber", "NoName", "NoLine", "NothingDone", "NothingHeld"]) .nil))))))] env s =
      .nx (env.set 1 (some (.d (.tup [.str REF, .bl b1, .bl b2, .bl b3, .bl (bs.any trD)])))) s := by
  have e1 := hIsi (env := env) (cx := cxΔ Δ fuel 228) (c := c) (t := "ValueError") (b := b1) (by rw [cx_sub]; exact h1)
  have e2 := hIsi (env := env) (cx := cxΔ Δ fuel 228) (c := c) (t := "NoStatement") (b := b2) (by rw [cx_sub]; exact h2)
  have e3 := hIsi (env := env) (cx := cxΔ Δ fuel 228) (c := c) (t := "TooGreat") (b := b3) (by rw [cx_sub]; exact h3)
  have e4 := hIsis (env := env) h4 hb
  have l5 : (5 : Nat) ≤ line := by decide
  have et : evH (cxΔ Δ fuel 228) c env (.tup (.cons (.str REF) (.cons (.isi "ValueError") (.cons (.isi "NoStatement") (.cons (.isi "TooGreat") (.cons (.isis ["NoTree", "NoPlace", "NoNumber", "NoName", "NoLine", "NothingDone", "NothingHeld"]) .nil)))))) = some (.tup [.str REF, .bl b1, .bl b2, .bl b3, .bl (bs.any trD)]) := by
    rw [evH, evHs, evH, evHs, e1, evHs, e2, evHs, e3, evHs, e4, evHs]
    exact if_pos l5
  rw [hSet et]
  rfl
theorem tr0 : trD (.bl false) = false := rfl
theorem sp_lread (t : Tx) (hl : t.length ≤ 1000000) (hv : t.length ≤ 300 → lev (Ws t) 0 ≤ 110) (s : Store) : Φ Δ fuel 229 "_law_read" [.d (.str t)] s = .ok (.d (outD (outT t))) s := by
  show Φ Δ fuel (228 + 1) "_law_read" _ s = _
  rw [has_lread.run rfl]
  unfold b__law_read
  have e := sp_read t hl hv s
  rw [seqE (e1 := [some (.d (.str t)), some (.d .non), none]) (s1 := s) (by simp)]
  cases o : outT t with
  | st st =>
    rw [o] at e
    unfold outR at e
    simp only at e
    have b : evSs (cxΔ Δ fuel 228) (.cons (.set 1 (.call "read_statement" (.cons (.var 0) .nil))) .nil) [some (.d (.str t)), some (.d .non), none] s = .nx [some (.d (.str t)), some (.d (stD st)), none] s := by
      generalize stD st = sd at *
      simp [e, has_read.has]
    have x := tryN (c := "TrunkError") (i := 2) (h := [.set 1 (.tup (.cons (.str REF) (.cons (.isi "ValueError") (.cons (.isi "NoStatement") (.cons (.isi "TooGreat") (.cons (.isis ["NoTree", "NoPlace", "NoNumber", "NoName", "NoLine", "NothingDone", "NothingHeld"]) .nil))))))]) (by rw [cx_hnd]; rfl) b
    rw [seqE x]
    unfold outD
    simp only
    generalize stD st = sd at *
    simp
  | great =>
    rw [o] at e
    unfold outR at e
    simp only at e
    have b : evSs (cxΔ Δ fuel 228) (.cons (.set 1 (.call "read_statement" (.cons (.var 0) .nil))) .nil) [some (.d (.str t)), some (.d .non), none] s = .exc "TooGreat" [some (.d (.str t)), some (.d .non), none] s := by
      simp [e, has_read.has]
    have x := tryX (c := "TrunkError") (i := 2) (h := [.set 1 (.tup (.cons (.str REF) (.cons (.isi "ValueError") (.cons (.isi "NoStatement") (.cons (.isi "TooGreat") (.cons (.isis ["NoTree", "NoPlace", "NoNumber", "NoName", "NoLine", "NothingDone", "NothingHeld"]) .nil))))))]) (by rw [cx_hnd]; rfl) b (by rw [cx_hnd]; rfl) (by simp)
    rw [told_h "TooGreat" true false true .non [.bl false, .bl false, .bl false, .bl false, .bl false, .bl false, .bl false] _ s rfl rfl rfl rfl (by decide)] at x
    rw [seqE x]
    simp [outD, GRT, tr0]
  | none =>
    rw [o] at e
    unfold outR at e
    simp only at e
    have b : evSs (cxΔ Δ fuel 228) (.cons (.set 1 (.call "read_statement" (.cons (.var 0) .nil))) .nil) [some (.d (.str t)), some (.d .non), none] s = .exc "NoStatement" [some (.d (.str t)), some (.d .non), none] s := by
      simp [e, has_read.has]
    have x := tryX (c := "TrunkError") (i := 2) (h := [.set 1 (.tup (.cons (.str REF) (.cons (.isi "ValueError") (.cons (.isi "NoStatement") (.cons (.isi "TooGreat") (.cons (.isis ["NoTree", "NoPlace", "NoNumber", "NoName", "NoLine", "NothingDone", "NothingHeld"]) .nil))))))]) (by rw [cx_hnd]; rfl) b (by rw [cx_hnd]; rfl) (by simp)
    rw [told_h "NoStatement" true true false .non [.bl false, .bl false, .bl false, .bl false, .bl false, .bl false, .bl false] _ s rfl rfl rfl rfl (by decide)] at x
    rw [seqE x]
    simp [outD, NOS, tr0]
end Pv.L

/-! Law 13: how many opening brackets stand alone in a text. -/
namespace Pv.L
open PySem Pv
def br (w : Tx) : Bool := decide (w = [40])
def cb (w : Tx) : Nat := if w = [40] then 1 else 0
def q (t : Tx) : Nat := (splitC 32 t).countP br
theorem cb_le (w : Tx) : cb w ≤ 1 := by unfold cb; split <;> omega
theorem count_cons (w : Tx) (l : List Tx) : (w :: l).countP br = cb w + l.countP br := by
  unfold cb
  by_cases h : w = [40]
  · rw [List.countP_cons_of_pos (by unfold br; simpa using h), if_pos h]
    omega
  · rw [List.countP_cons_of_neg (by unfold br; simpa using h), if_neg h]
    omega
theorem splitC_app (c : Nat) : ∀ (x r : Tx), c ∉ x → splitC c (x ++ c :: r) = x :: splitC c r
  | [], r, _ => by rw [List.nil_append, splitC, if_pos rfl]
  | a :: x, r, h => by
    have h1 : a ≠ c := fun e => h (e ▸ List.mem_cons_self)
    rw [List.cons_append, splitC, if_neg h1, splitC_app c x r fun m => h (List.mem_cons_of_mem _ m)]
theorem splitC_one (c : Nat) : ∀ (x : Tx), c ∉ x → splitC c x = [x]
  | [], _ => rfl
  | a :: x, h => by
    have h1 : a ≠ c := fun e => h (e ▸ List.mem_cons_self)
    rw [splitC, if_neg h1, splitC_one c x fun m => h (List.mem_cons_of_mem _ m)]
theorem splitC_ne (c : Nat) : ∀ t : Tx, splitC c t ≠ []
  | [] => by simp [splitC]
  | x :: r => by
    rw [splitC]
    split
    · simp
    · split <;> simp
theorem splitC_pre (c : Nat) : ∀ (x y : Tx), c ∉ x → ∃ h tl, splitC c y = h :: tl ∧ splitC c (x ++ y) = (x ++ h) :: tl
  | [], y, _ => by
    obtain ⟨h, tl, e⟩ : ∃ h tl, splitC c y = h :: tl := by
      cases e : splitC c y with
      | nil => exact absurd e (splitC_ne c y)
      | cons h tl => exact ⟨h, tl, rfl⟩
    exact ⟨h, tl, e, e⟩
  | a :: x, y, hx => by
    have h1 : a ≠ c := fun e => hx (e ▸ List.mem_cons_self)
    obtain ⟨h, tl, e1, e2⟩ := splitC_pre c x y fun m => hx (List.mem_cons_of_mem _ m)
    refine ⟨h, tl, e1, ?_⟩
    rw [List.cons_append, splitC, if_neg h1, e2]
    rfl
theorem first_blank : ∀ x : Tx, 32 ∈ x → ∃ w r, x = w ++ 32 :: r ∧ 32 ∉ w
  | a :: x, h => by
    by_cases e : a = 32
    · exact ⟨[], x, by rw [e]; rfl, by simp⟩
    · obtain ⟨w, r, e1, e2⟩ := first_blank x (by
        rcases List.mem_cons.mp h with q | q
        · exact absurd q.symm e
        · exact q)
      exact ⟨a :: w, r, by rw [e1]; rfl, by
        intro m
        rcases List.mem_cons.mp m with q | q
        · exact e q.symm
        · exact e2 q⟩
theorem q_word {w : Tx} (h : 32 ∉ w) : q w = cb w := by
  unfold q
  rw [splitC_one 32 w h, count_cons]
  rfl
theorem q_cut {w : Tx} (h : 32 ∉ w) (r : Tx) : q (w ++ 32 :: r) = cb w + q r := by
  unfold q
  rw [splitC_app 32 w r h, count_cons]
theorem q_app (n : Nat) : ∀ (x y : Tx), x.length ≤ n → q (x ++ y) ≤ q x + q y := by
  induction n with
  | zero =>
    intro x y h
    have : x = [] := List.eq_nil_of_length_eq_zero (by omega)
    subst this
    exact Nat.le_add_left _ _
  | succ n ih =>
    intro x y h
    by_cases m : 32 ∈ x
    · obtain ⟨w, r, rfl, hw⟩ := first_blank x m
      rw [List.append_assoc, List.cons_append, q_cut hw, q_cut hw]
      have := ih r y (by rw [List.length_append, List.length_cons] at h; omega)
      omega
    · obtain ⟨hd, tl, e1, e2⟩ := splitC_pre 32 x y m
      rw [q_word m]
      unfold q
      rw [e1, e2, count_cons, count_cons]
      have : cb (x ++ hd) ≤ cb x + cb hd := by
        unfold cb
        by_cases c : x ++ hd = [40]
        · rw [if_pos c]
          match x, c with
          | [], c => rw [List.nil_append] at c; rw [if_pos c]; omega
          | a :: x', c =>
            rw [List.cons_append] at c
            injection c with c1 c2
            have c3 : x' = [] := (List.append_eq_nil_iff.mp c2).1
            rw [c1, c3]
            simp
        · rw [if_neg c]
          omega
      omega
theorem qa (x y : Tx) : q (x ++ y) ≤ q x + q y := q_app x.length x y (Nat.le_refl _)
theorem q_rep (x : Tx) : ∀ n : Nat, q (List.replicate n x).flatten ≤ n * q x
  | 0 => by show 0 ≤ _; omega
  | n + 1 => by
    rw [List.replicate_succ, List.flatten_cons]
    have := qa x (List.replicate n x).flatten
    have := q_rep x n
    rw [Nat.succ_mul]
    omega
theorem q_take (m : Nat) : ∀ (t : Tx) (n : Nat), t.length ≤ m → q (t.take n) ≤ q t + 1 := by
  induction m with
  | zero =>
    intro t n h
    have : t = [] := List.eq_nil_of_length_eq_zero (by omega)
    subst this
    rw [List.take_nil]
    omega
  | succ m ih =>
    intro t n h
    by_cases hm : 32 ∈ t
    · obtain ⟨w, r, rfl, hw⟩ := first_blank t hm
      rw [q_cut hw]
      by_cases c : n ≤ w.length
      · rw [List.take_append_of_le_length c]
        have : 32 ∉ w.take n := fun z => hw (List.mem_of_mem_take z)
        rw [q_word this]
        have := cb_le (w.take n)
        omega
      · have e : (w ++ 32 :: r).take n = w ++ 32 :: r.take (n - w.length - 1) := by
          rw [List.take_append, List.take_of_length_le (by omega)]
          congr 1
          rw [show n - w.length = (n - w.length - 1) + 1 by omega, List.take_succ_cons]
          rfl
        rw [e, q_cut hw]
        have := ih r (n - w.length - 1) (by rw [List.length_append, List.length_cons] at h; omega)
        omega
    · have : 32 ∉ t.take n := fun z => hm (List.mem_of_mem_take z)
      rw [q_word this]
      have := cb_le (t.take n)
      omega
theorem splitC_no (c : Nat) : ∀ (t : Tx), ∀ w ∈ splitC c t, c ∉ w
  | [], w, h => by
    rw [splitC] at h
    simp at h
    rw [h]
    simp
  | x :: r, w, h => by
    have ih := splitC_no c r
    rw [splitC] at h
    split at h
    · rcases List.mem_cons.mp h with e | e
      · rw [e]; simp
      · exact ih w e
    · rename_i hx
      split at h
      · simp at h
        rw [h]
        simp
        exact fun e => hx e.symm
      · rename_i y tl e
        rw [e] at ih
        rcases List.mem_cons.mp h with q | q
        · rw [q]
          intro m
          rcases List.mem_cons.mp m with z | z
          · exact hx z.symm
          · exact ih y List.mem_cons_self z
        · exact ih w (List.mem_cons_of_mem _ q)
/-! sums over words -/
def sm (f : Tx → Nat) (l : List Tx) : Nat := (l.map f).sum
theorem sm_cons (f : Tx → Nat) (x : Tx) (l : List Tx) : sm f (x :: l) = f x + sm f l := by unfold sm; rw [List.map_cons, List.sum_cons]
theorem sm_set (f : Tx → Nat) (x : Tx) : ∀ (l : List Tx) (i : Nat), sm f (l.set i x) ≤ sm f l + f x
  | [], i => by simp [sm]
  | y :: l, 0 => by rw [List.set_cons_zero, sm_cons, sm_cons]; omega
  | y :: l, i + 1 => by
    have := sm_set f x l i
    rw [List.set_cons_succ, sm_cons, sm_cons]
    omega
theorem sm_erase (f : Tx → Nat) : ∀ (l : List Tx) (i : Nat), sm f (l.eraseIdx i) ≤ sm f l
  | [], i => by simp [sm]
  | y :: l, 0 => by rw [List.eraseIdx_cons_zero, sm_cons]; omega
  | y :: l, i + 1 => by
    have := sm_erase f l i
    rw [List.eraseIdx_cons_succ, sm_cons, sm_cons]
    omega
theorem sm_app (f : Tx → Nat) : ∀ (l k : List Tx), sm f (l ++ k) = sm f l + sm f k
  | [], k => by simp [sm]
  | y :: l, k => by rw [List.cons_append, sm_cons, sm_cons, sm_app f l k]; omega
theorem sm_take (f : Tx → Nat) (l : List Tx) (n : Nat) : sm f (l.take n) ≤ sm f l := by
  have := sm_app f (l.take n) (l.drop n)
  rw [List.take_append_drop] at this
  omega
theorem sm_ins (f : Tx → Nat) (x : Tx) (l : List Tx) (n : Nat) : sm f (l.take n ++ [x] ++ l.drop n) = sm f l + f x := by
  have := sm_app f (l.take n) (l.drop n)
  rw [List.take_append_drop] at this
  rw [sm_app, sm_app, sm_cons]
  have : sm f [] = 0 := rfl
  omega
theorem q_ws (t : Tx) : sm q (Ws t) = q t := by
  have key : ∀ l : List Tx, (∀ w ∈ l, 32 ∉ w) → sm q l = l.countP br := fun l => by
    induction l with
    | nil => exact fun _ => rfl
    | cons w l ih =>
      intro h
      rw [sm_cons, count_cons, q_word (h w List.mem_cons_self), ih fun x hx => h x (List.mem_cons_of_mem _ hx)]
  exact key _ (splitC_no 32 t)
def ln (w : Tx) : Nat := w.length + 1
theorem ln_ws : ∀ t : Tx, sm ln (Ws t) = t.length + 1
  | [] => rfl
  | x :: r => by
    have ih := ln_ws r
    unfold Ws at ih ⊢
    rw [splitC]
    split
    · rw [sm_cons, ih, List.length_cons]
      show 0 + 1 + _ = _
      omega
    · split
      · rename_i e
        exact absurd e (splitC_ne _ _)
      · rename_i y tl e
        rw [e, sm_cons] at ih
        rw [sm_cons, List.length_cons]
        unfold ln at ih ⊢
        rw [List.length_cons]
        omega
theorem join_q : ∀ l : List Tx, q (joinT [32] l) ≤ sm q l
  | [] => by show 0 ≤ _; omega
  | [x] => by rw [joinT, sm_cons]; omega
  | x :: y :: r => by
    have ih := join_q (y :: r)
    rw [joinT, sm_cons]
    have h1 := qa (x ++ [32]) (joinT [32] (y :: r))
    have h2 := qa x [32]
    have h3 : q [32] = 0 := rfl
    omega
theorem join_ln : ∀ l : List Tx, (joinT [32] l).length ≤ sm ln l
  | [] => by show 0 ≤ _; omega
  | [x] => by rw [joinT, sm_cons]; unfold ln; omega
  | x :: y :: r => by
    have ih := join_ln (y :: r)
    rw [joinT, sm_cons, List.length_append, List.length_append]
    unfold ln at ih ⊢
    show x.length + 1 + _ ≤ _
    omega
theorem lev_q (t : Tx) (hq : q t ≤ 60) (hl : t.length ≤ 300) : lev (Ws t) 0 ≤ 110 := by
  have key : ∀ l : List Tx, 4 * l.countP spc ≤ sm ln l + 2 * l.countP br := fun l => by
    induction l with
    | nil => exact Nat.le_refl _
    | cons w l ih =>
      rw [count_cons, sm_cons]
      by_cases h : spc w = true
      · rw [List.countP_cons_of_pos h]
        unfold spc at h
        simp only [Bool.or_eq_true, decide_eq_true_eq] at h
        rcases h with ((h | h) | h) | h <;> subst h <;> simp only [ln, cb, NOT, SOME, ALL, List.length_cons, List.length_nil] <;> (try simp) <;> omega
      · rw [List.countP_cons_of_neg h]
        omega
  have h1 := key (Ws t)
  have h2 := ln_ws t
  have h3 : (Ws t).countP br = q t := rfl
  have h4 : lev (Ws t) 0 = (Ws t).countP spc := by unfold lev; rw [List.drop_zero]
  omega
end Pv.L

/-! Law 13: texts spoilt. -/
namespace Pv.L
open PySem Pv
theorem has_spoilt : Has Δ "_law_spoilt" 2 9 b__law_spoilt := ⟨_, _, rfl, rfl, rfl⟩
section
variable {s : Store} {a b x : Cell} {l : List Cell}
theorem kg0 : (s ++ a :: l)[s.length]? = some a := by simp
theorem kg1 : (s ++ a :: b :: l)[s.length + 1]? = some b := by
  rw [List.getElem?_append_right (by omega), show s.length + 1 - s.length = 1 by omega]; rfl
theorem kp0 : (s ++ a :: l).set s.length x = s ++ x :: l := by simp
end
def MENU : List Tx := [[40], [41], [97, 110, 100], [111, 114], [110, 111, 116], [115, 111, 109, 101], [97, 108, 108], [111, 110, 101], [105, 110], [108, 101, 102, 116], [114, 105, 103, 104, 116], [98, 101, 108, 111, 119], [97], [90], [97, 98],
  [], [65, 66], [73, 78], [78, 111, 116], [49], [91], [64], [96], [123], [105, 115, 105, 110], [105, 115], [45], [65], [122], [120], [95]]
theorem menu_ok : ∀ u ∈ MENU, 32 ∉ u ∧ u.length ≤ 5 := by decide
theorem menu_len : MENU.length = 31 := rfl
theorem getTx {l : List Tx} {i : Nat} (h : i < l.length) : L2.atI (l.map D.str) (i : Int) = some (.str (l.getD i [])) ∧ l.getD i [] ∈ l := by
  rw [atI_nat (by rw [List.length_map]; exact h), List.getElem?_map, List.getD_eq_getElem?_getD, List.getElem?_eq_getElem h]
  exact ⟨rfl, List.getElem_mem h⟩
theorem ixN_nat' {n i : Nat} (h : i < n) : L2.ixN n (i : Int) = some i := by
  unfold L2.ixN
  rw [if_pos (by omega), if_pos (by omega)]
  congr 1
theorem sm_ln (l : List Tx) : sm ln l = (l.map List.length).sum + l.length := by
  induction l with
  | nil => rfl
  | cons x l ih =>
    rw [sm_cons, ih, List.map_cons, List.sum_cons, List.length_cons]
    unfold ln
    omega
theorem sm_len (l : List Tx) : l.length ≤ sm ln l := by rw [sm_ln]; omega
theorem joinRef {S : Store} {r : Nat} (l : List Tx) (h : S[r]? = some (.lst (l.map D.str))) (hl : sm ln l ≤ line) : methV .join (.d (.str [32])) [.ref r] S = .ok (.d (.str (joinT [32] l))) S := by
  have e : seqOf (.ref r) S = some (l.map D.str) := by
    show (S[r]?).map Cell.items = _
    rw [h]
    rfl
  have hl' : (l.map List.length).sum + l.length * ([32] : Tx).length ≤ line := by
    rw [sm_ln] at hl
    show _ + l.length * 1 ≤ _
    omega
  show (match seqOf (.ref r) S with | some xs => _ | none => _) = _
  rw [e]
  show (match allM txOf (l.map D.str) with | some ts => _ | none => _) = _
  rw [allM_txt]
  exact if_pos hl'
theorem erase_map {α β : Type} (f : α → β) : ∀ (l : List α) (i : Nat), (l.eraseIdx i).map f = (l.map f).eraseIdx i
  | [], i => by simp
  | x :: l, 0 => rfl
  | x :: l, i + 1 => by
    rw [List.eraseIdx_cons_succ, List.map_cons, List.map_cons, List.eraseIdx_cons_succ, erase_map f l i]
theorem slR {S : Store} {r : Nat} {xs : List D} (hi : Option Int) (h : S[r]? = some (.lst xs)) : sliceV (.ref r) none hi S = .ok (.new (cutL xs none hi)) S := by
  have e : lstOf (.ref r) S = some xs := by
    show (S[r]?).map Cell.items = _
    rw [h]
    rfl
  show (match lstOf (.ref r) S with | some z => _ | none => _) = _
  rw [e]
def M15 : List D := [.str [40], .str [41], .str [97, 110, 100], .str [111, 114], .str [110, 111, 116], .str [115, 111, 109, 101], .str [97, 108, 108], .str [111, 110, 101], .str [105, 110], .str [108, 101, 102, 116], .str [114, 105, 103, 104, 116], .str [98, 101, 108, 111, 119], .str [97], .str [90], .str [97, 98]]
def M16 : List D := [.str [], .str [65, 66], .str [73, 78], .str [78, 111, 116], .str [49], .str [91], .str [64], .str [96], .str [123], .str [105, 115, 105, 110], .str [105, 115], .str [45], .str [65], .str [122], .str [120], .str [95]]
section
variable {d : Nat}
def spE (t : Tx) (DS : List D) (how a b : Int) (u : Tx) (r : Nat) (v8 : Option Val) : Env := [some (.d (.str t)), some (.d (.lst DS)), some (.d (.lst (MENU.map D.str))), some (.ref r), some (.d (.int how)), some (.d (.int a)), some (.d (.int b)), some (.d (.str u)), v8]
def spIf : S := (.ife (.cmp .eq (.var 4) (.int 0)) (.cons (.ex (.meth .pop (.var 3) (.cons (.var 5) .nil)))
 .nil) (.cons (.ife (.cmp .eq (.var 4) (.int 1)) (.cons (.ex (.meth .insert (.var 3) (.cons (.var 5) (.cons (.ix (.var 3) (.var 5)) .nil))))
 .nil) (.cons (.ife (.cmp .eq (.var 4) (.int 2)) (.cons (.set 8 (.ix (.var 3) (.var 5)))
 (.cons (.setix (.var 3) (.var 5) (.ix (.var 3) (.var 6)))
 (.cons (.setix (.var 3) (.var 6) (.var 8))
 .nil))) (.cons (.ife (.cmp .eq (.var 4) (.int 3)) (.cons (.setix (.var 3) (.var 5) (.var 7))
 .nil) (.cons (.ife (.cmp .eq (.var 4) (.int 4)) (.cons (.ex (.meth .insert (.var 3) (.cons (.var 5) (.cons (.var 7) .nil))))
 .nil) (.cons (.ife (.cmp .eq (.var 4) (.int 5)) (.cons (.setix (.var 3) (.var 5) (.bin .add (.ix (.var 3) (.var 5)) (.str [32])))
 .nil) (.cons (.ife (.cmp .eq (.var 4) (.int 6)) (.cons (.setix (.var 3) (.var 5) (.bin .add (.str [32]) (.ix (.var 3) (.var 5))))
 .nil) (.cons (.ife (.cmp .eq (.var 4) (.int 7)) (.cons (.set 3 (.slice0 (.var 3) (.bin .add (.var 5) (.int 1))))
 .nil) (.cons (.ife (.cmp .eq (.var 4) (.int 8)) (.cons (.setix (.var 3) (.var 5) (.bin .add (.bin .add (.slice0 (.ix (.var 3) (.var 5)) (.int 1)) (.var 7)) (.slice1 (.ix (.var 3) (.var 5)) (.int 1))))
 .nil) (.cons (.setix (.var 3) (.var 5) (.slice1 (.ix (.var 3) (.var 5)) (.int 1)))
 .nil))
 .nil))
 .nil))
 .nil))
 .nil))
 .nil))
 .nil))
 .nil))
 .nil))
theorem sp_turn (t : Tx) (DS : List D) (how : Int) (h0 : 0 ≤ how) (h9 : how < 10) (a b : Nat) (u : Tx) (W : List Tx) (ha : a < W.length) (hb : b < W.length) (K : Nat) (hK : ∀ w ∈ W, 32 ∉ w ∧ ln w ≤ K) (hu : 32 ∉ u ∧ u.length ≤ 5) (hW : sm ln W + 2 * K + 10 ≤ line) (s : Store) :
    ∃ (W' : List Tx) (r : Nat) (v8 : Option Val) (S : Store), S.take s.length = s ∧ S[r]? = some (.lst (W'.map D.str)) ∧ sm q W' ≤ sm q W + 2 ∧ sm ln W' ≤ sm ln W + 2 * K + 10 ∧
      evS (cxΔ Δ fuel d) spIf (spE t DS how a b u s.length none) (s ++ [.lst (W.map D.str)]) = .nx (spE t DS how a b u r v8) S := by
  obtain ⟨a1, am⟩ := getTx ha
  obtain ⟨b1, bm⟩ := getTx hb
  obtain ⟨wa1, wa2⟩ := hK _ am
  obtain ⟨wb1, wb2⟩ := hK _ bm
  have xa := ixN_nat' ha
  have xb := ixN_nat' hb
  generalize hwa : W.getD a [] = wa at *
  generalize W.getD b [] = wb at *
  have hL : line = 16777216 := rfl
  have ml : (W.map D.str).length = W.length := List.length_map _
  have wl := sm_len W
  have lla : ln wa = wa.length + 1 := rfl
  have hlt : (W.map D.str).length < line := by rw [ml]; omega
  have hle : (W.map D.str).length ≤ line := Nat.le_of_lt hlt
  have a63 : (a : Int) < 9223372036854775808 := by omega
  have a0 : (0 : Int) ≤ (a : Int) := by omega
  have qa1 : q wa ≤ 1 := by rw [q_word wa1]; exact cb_le _
  have qb1 : q wb ≤ 1 := by rw [q_word wb1]; exact cb_le _
  have qu1 : q u ≤ 1 := by rw [q_word hu.1]; exact cb_le _
  have lnu : ln u ≤ 6 := by have := hu.2; unfold ln; omega
  have q32 : q [32] = 0 := rfl
  have insq := insP_ok (xs := W.map D.str) (k := (a : Int)) (a := .ok (.d .non) (s ++ [.lst ((W.map D.str).take a ++ [D.str wa] ++ (W.map D.str).drop a)])) hlt a0 a63
  unfold spIf spE
  have c10 : how = 0 ∨ how = 1 ∨ how = 2 ∨ how = 3 ∨ how = 4 ∨ how = 5 ∨ how = 6 ∨ how = 7 ∨ how = 8 ∨ how = 9 := by omega
  generalize MENU.map D.str = MM at *
  rcases c10 with rfl | rfl | rfl | rfl | rfl | rfl | rfl | rfl | rfl | rfl
  · refine ⟨W.eraseIdx a, s.length, none, s ++ [.lst ((W.eraseIdx a).map D.str)], by simp, by simp, Nat.le_add_right_of_le (sm_erase _ _ _), Nat.le_trans (sm_erase _ _ _) (by omega), ?_⟩
    have e : (W.eraseIdx a).map D.str = (W.map D.str).eraseIdx a := by rw [erase_map]
    rw [e]
    have g : (W.map D.str)[a]? = some (.str wa) := by rw [← a1, atI_nat (by rw [ml]; exact ha)]
    rw [← ml] at xa
    generalize W.map D.str = LW at *
    simp [kg0, kp0, hle, xa, g]
  · refine ⟨W.take a ++ [wa] ++ W.drop a, s.length, none, s ++ [.lst ((W.take a ++ [wa] ++ W.drop a).map D.str)], by simp, by simp, by rw [sm_ins]; omega, by rw [sm_ins]; omega, ?_⟩
    have e : (W.take a ++ [wa] ++ W.drop a).map D.str = (W.map D.str).take a ++ [D.str wa] ++ (W.map D.str).drop a := by
      rw [List.map_append, List.map_append, List.map_take, List.map_drop]
      rfl
    rw [e]
    have ins := fun X => insP_ok (xs := W.map D.str) (k := (a : Int)) (a := X) hlt a0 a63
    generalize W.map D.str = LW at *
    simp [kg0, kp0, a1, ins]
  · refine ⟨(W.set a wb).set b wa, s.length, some (.d (.str wa)), s ++ [.lst (((W.set a wb).set b wa).map D.str)], by simp, by simp, ?_, ?_, ?_⟩
    · have := sm_set q wa (W.set a wb) b
      have := sm_set q wb W a
      omega
    · have := sm_set ln wa (W.set a wb) b
      have := sm_set ln wb W a
      omega
    · have e : ((W.set a wb).set b wa).map D.str = ((W.map D.str).set a (.str wb)).set b (.str wa) := by rw [List.map_set, List.map_set]
      rw [e]
      rw [← ml] at xa xb
      generalize W.map D.str = LW at *
      simp [kg0, kp0, a1, b1, xa, xb]
  · refine ⟨W.set a u, s.length, none, s ++ [.lst ((W.set a u).map D.str)], by simp, by simp, ?_, ?_, ?_⟩
    · have := sm_set q u W a
      omega
    · have := sm_set ln u W a
      omega
    · rw [List.map_set]
      rw [← ml] at xa
      generalize W.map D.str = LW at *
      simp [kg0, kp0, xa]
  · refine ⟨W.take a ++ [u] ++ W.drop a, s.length, none, s ++ [.lst ((W.take a ++ [u] ++ W.drop a).map D.str)], by simp, by simp, by rw [sm_ins]; omega, by rw [sm_ins]; omega, ?_⟩
    have e : (W.take a ++ [u] ++ W.drop a).map D.str = (W.map D.str).take a ++ [D.str u] ++ (W.map D.str).drop a := by
      rw [List.map_append, List.map_append, List.map_take, List.map_drop]
      rfl
    rw [e]
    have ins := fun X => insP_ok (xs := W.map D.str) (k := (a : Int)) (a := X) hlt a0 a63
    generalize W.map D.str = LW at *
    simp [kg0, kp0, ins]
  · have wl1 : wa.length + 1 ≤ line := by omega
    refine ⟨W.set a (wa ++ [32]), s.length, none, s ++ [.lst ((W.set a (wa ++ [32])).map D.str)], by simp, by simp, ?_, ?_, ?_⟩
    · have := sm_set q (wa ++ [32]) W a
      have := qa wa [32]
      omega
    · have := sm_set ln (wa ++ [32]) W a
      have : ln (wa ++ [32]) = ln wa + 1 := by unfold ln; rw [List.length_append]; rfl
      omega
    · rw [List.map_set]
      rw [← ml] at xa
      generalize W.map D.str = LW at *
      simp [kg0, kp0, a1, xa, wl1]
  · have wl1 : 1 + wa.length ≤ line := by omega
    refine ⟨W.set a ([32] ++ wa), s.length, none, s ++ [.lst ((W.set a ([32] ++ wa)).map D.str)], by simp, by simp, ?_, ?_, ?_⟩
    · have := sm_set q ([32] ++ wa) W a
      have := qa [32] wa
      omega
    · have := sm_set ln ([32] ++ wa) W a
      have : ln ([32] ++ wa) = ln wa + 1 := by unfold ln; rw [List.length_append]; show 1 + _ + 1 = _; omega
      omega
    · rw [List.map_set]
      rw [← ml] at xa
      generalize W.map D.str = LW at *
      simp [kg0, kp0, a1, xa, wl1]
  · refine ⟨W.take (a + 1), s.length + 1, none, s ++ [.lst (W.map D.str), .lst ((W.take (a + 1)).map D.str)], by simp, kg1, Nat.le_add_right_of_le (sm_take _ _ _), Nat.le_trans (sm_take _ _ _) (by omega), ?_⟩
    rw [List.map_take]
    have cu : cutL (W.map D.str) none (some ((a : Int) + 1)) = (W.map D.str).take (a + 1) := by
      rw [cut_to _ (by omega)]
      congr 1
    have sl := slR (S := s ++ [.lst (W.map D.str)]) (r := s.length) (xs := W.map D.str) (some ((a : Int) + 1)) kg0
    rw [cu] at sl
    have tl : ((W.map D.str).take (a + 1)).length ≤ line := by rw [List.length_take]; omega
    generalize W.map D.str = LW at *
    generalize LW.take (a + 1) = TK at *
    simp [kg0, sl, cu]
  · have ct : cutL wa none (some 1) = wa.take 1 := by rw [cut_to _ (by omega)]; rfl
    have cd : cutL wa (some 1) none = wa.drop 1 := by rw [cut_from _ (by omega)]; rfl
    have wl0 : wa.length ≤ line := by omega
    have tk : (wa.take 1).length ≤ wa.length := by rw [List.length_take]; omega
    have dk : (wa.drop 1).length ≤ wa.length := by rw [List.length_drop]; omega
    have g1 : (wa.take 1).length + u.length ≤ line := by omega
    have g2 : (wa.take 1 ++ u).length + (wa.drop 1).length ≤ line := by rw [List.length_append]; omega
    have nb : 32 ∉ wa.take 1 ++ u ++ wa.drop 1 := fun z => by
      rcases List.mem_append.mp z with z | z
      · rcases List.mem_append.mp z with z | z
        · exact wa1 (List.mem_of_mem_take z)
        · exact hu.1 z
      · exact wa1 (List.mem_of_mem_drop z)
    have tdl : (wa.take 1).length + (wa.drop 1).length = wa.length := by rw [← List.length_append, List.take_append_drop]
    refine ⟨W.set a (wa.take 1 ++ u ++ wa.drop 1), s.length, none, s ++ [.lst ((W.set a (wa.take 1 ++ u ++ wa.drop 1)).map D.str)], by simp, by simp, ?_, ?_, ?_⟩
    · have := sm_set q (wa.take 1 ++ u ++ wa.drop 1) W a
      have := q_word nb
      have := cb_le (wa.take 1 ++ u ++ wa.drop 1)
      omega
    · have := sm_set ln (wa.take 1 ++ u ++ wa.drop 1) W a
      have : ln (wa.take 1 ++ u ++ wa.drop 1) ≤ ln wa + 5 := by
        have := hu.2
        unfold ln
        rw [List.length_append, List.length_append]
        omega
      omega
    · rw [List.map_set]
      rw [← ml] at xa
      generalize W.map D.str = LW at *
      generalize wa.take 1 = w1 at *
      generalize wa.drop 1 = w2 at *
      have g2' : w1.length + u.length + w2.length ≤ line := by rw [List.length_append] at g2; exact g2
      simp [kg0, kp0, a1, xa, wl0, ct, cd, g1, g2']
  · have cd : cutL wa (some 1) none = wa.drop 1 := by rw [cut_from _ (by omega)]; rfl
    have wl0 : wa.length ≤ line := by omega
    have nb : 32 ∉ wa.drop 1 := fun z => wa1 (List.mem_of_mem_drop z)
    refine ⟨W.set a (wa.drop 1), s.length, none, s ++ [.lst ((W.set a (wa.drop 1)).map D.str)], by simp, by simp, ?_, ?_, ?_⟩
    · have := sm_set q (wa.drop 1) W a
      have := q_word nb
      have := cb_le (wa.drop 1)
      omega
    · have := sm_set ln (wa.drop 1) W a
      have : ln (wa.drop 1) ≤ ln wa := by unfold ln; rw [List.length_drop]; omega
      omega
    · rw [List.map_set]
      rw [← ml] at xa
      generalize W.map D.str = LW at *
      generalize wa.drop 1 = w2 at *
      simp [kg0, kp0, a1, xa, wl0, cd]
theorem sp_spoilt (t : Tx) (ds : List Int) (h6 : ds.length = 6) (hl : t.length ≤ 100000) (s : Store) : ∃ t', q t' ≤ q t + 2 ∧ t'.length ≤ 3 * t.length + 20 ∧
    Φ Δ fuel (d + 1) "_law_spoilt" [.d (.str t), .d (.lst (ds.map .int))] s = .ok (.d (.str t')) s := by
  obtain ⟨y0, y1, y2, y3, y4, y5, rfl⟩ : ∃ a b c e f g, ds = [a, b, c, e, f, g] := by
    match ds, h6 with
    | [a, b, c, e, f, g], _ => exact ⟨a, b, c, e, f, g, rfl⟩
  rw [has_spoilt.run rfl]
  unfold b__law_spoilt
  have hL : line = 16777216 := rfl
  have d0 : L2.atI [D.int y0, .int y1, .int y2, .int y3, .int y4, .int y5] 0 = some (.int y0) := rfl
  have d1 : L2.atI [D.int y0, .int y1, .int y2, .int y3, .int y4, .int y5] 1 = some (.int y1) := rfl
  have d2 : L2.atI [D.int y0, .int y1, .int y2, .int y3, .int y4, .int y5] 2 = some (.int y2) := rfl
  have d3 : L2.atI [D.int y0, .int y1, .int y2, .int y3, .int y4, .int y5] 3 = some (.int y3) := rfl
  have d4 : L2.atI [D.int y0, .int y1, .int y2, .int y3, .int y4, .int y5] 4 = some (.int y4) := rfl
  have d5 : L2.atI [D.int y0, .int y1, .int y2, .int y3, .int y4, .int y5] 5 = some (.int y5) := rfl
  have m64 : ∀ x s, binV .mul (.d (.int 64)) (.d (.int x)) s = .ok (.d (.int (64 * x))) s := fun x s => bin_mul _ _ _ (okM1 (by omega))
  have Wn : 0 < (Ws t).length := by
    have := splitC_ne 32 t
    exact List.length_pos_iff.mpr this
  have Wl := splitC_len 32 t
  have Wl : (Ws t).length ≤ t.length + 1 := Wl
  obtain ⟨a, ha, ea⟩ : ∃ a : Nat, a < (Ws t).length ∧ (a : Int) = (64 * y1 + y2) % ((Ws t).length : Int) := by
    have := Int.emod_nonneg (64 * y1 + y2) (by omega : ((Ws t).length : Int) ≠ 0)
    have := Int.emod_lt_of_pos (64 * y1 + y2) (by omega : (0 : Int) < ((Ws t).length : Int))
    exact ⟨((64 * y1 + y2) % ((Ws t).length : Int)).toNat, by omega, by omega⟩
  obtain ⟨b, hb, eb⟩ : ∃ a : Nat, a < (Ws t).length ∧ (a : Int) = (64 * y3 + y4) % ((Ws t).length : Int) := by
    have := Int.emod_nonneg (64 * y3 + y4) (by omega : ((Ws t).length : Int) ≠ 0)
    have := Int.emod_lt_of_pos (64 * y3 + y4) (by omega : (0 : Int) < ((Ws t).length : Int))
    exact ⟨((64 * y3 + y4) % ((Ws t).length : Int)).toNat, by omega, by omega⟩
  obtain ⟨k, hk, ek⟩ : ∃ a : Nat, a < MENU.length ∧ (a : Int) = y5 % 31 := by
    rw [menu_len]
    exact ⟨(y5 % 31).toNat, by omega, by omega⟩
  obtain ⟨u1, um⟩ := getTx hk
  have hu := menu_ok _ um
  generalize MENU.getD k [] = u at *
  rw [ek] at u1
  have mlen : (MENU.map D.str).length = 31 := rfl
  obtain ⟨W', r, v8, S, hS, hr, hq, hln, ev⟩ := sp_turn (d := d) t [D.int y0, .int y1, .int y2, .int y3, .int y4, .int y5] (y0 % 10) (by omega) (by omega) a b u (Ws t) ha hb (t.length + 1) (fun w hw => ⟨splitC_no 32 t w hw, by
    have := splitC_mem 32 t w hw
    unfold ln
    omega⟩) hu (by rw [ln_ws]; omega) s
  rw [ln_ws] at hln
  rw [q_ws] at hq
  refine ⟨joinT [32] W', Nat.le_trans (join_q W') hq, Nat.le_trans (join_ln W') (by omega), ?_⟩
  have jr := joinRef W' hr (by omega)
  have tl2 : t.length + 2 ≤ line := by omega
  have wll : (Ws t).length ≤ line := by omega
  have mll : ((Ws t).map D.str).length = (Ws t).length := List.length_map _
  have eW : splitC 32 t = Ws t := rfl
  have l15 : (15 : Nat) ≤ line := by decide
  have l16 : (16 : Nat) ≤ line := by decide
  have l31 : (31 : Nat) ≤ line := by decide
  have Wp : (0 : Int) < ((Ws t).length : Int) := by omega
  unfold spE at ev
  have eM : MENU.map D.str = M15 ++ M16 := rfl
  have h15 : M15.length = 15 := rfl
  rw [seqE (e1 := [some (.d (.str t)), some (.d (.lst [D.int y0, .int y1, .int y2, .int y3, .int y4, .int y5])), some (.d (.lst M15)), none, none, none, none, none, none]) (s1 := s) (by simp [l15, M15])]
  rw [seqE (e1 := [some (.d (.str t)), some (.d (.lst [D.int y0, .int y1, .int y2, .int y3, .int y4, .int y5])), some (.d (.lst (MENU.map D.str))), none, none, none, none, none, none]) (s1 := s) (by
    rw [eM]
    have e16 : M16 = [.str [], .str [65, 66], .str [73, 78], .str [78, 111, 116], .str [49], .str [91], .str [64], .str [96], .str [123], .str [105, 115, 105, 110], .str [105, 115], .str [45], .str [65], .str [122], .str [120], .str [95]] := rfl
    rw [e16]
    generalize M15 = EE at *
    simp [l16, h15, l31])]
  generalize MENU.map D.str = MM at *
  rw [seqE (e1 := [some (.d (.str t)), some (.d (.lst [D.int y0, .int y1, .int y2, .int y3, .int y4, .int y5])), some (.d (.lst MM)), some (.ref s.length), none, none, none, none, none]) (s1 := s ++ [.lst ((Ws t).map D.str)]) (by simp [tl2, eW, mll, wll])]
  rw [seqE (e1 := [some (.d (.str t)), some (.d (.lst [D.int y0, .int y1, .int y2, .int y3, .int y4, .int y5])), some (.d (.lst MM)), some (.ref s.length), some (.d (.int (y0 % 10))), none, none, none, none]) (s1 := s ++ [.lst ((Ws t).map D.str)]) (by simp [d0])]
  rw [seqE (e1 := [some (.d (.str t)), some (.d (.lst [D.int y0, .int y1, .int y2, .int y3, .int y4, .int y5])), some (.d (.lst MM)), some (.ref s.length), some (.d (.int (y0 % 10))), some (.d (.int a)), none, none, none]) (s1 := s ++ [.lst ((Ws t).map D.str)]) (by
    rw [ea]
    have mw : ∀ x st, binV .mod (.d (.int x)) (.d (.int ((Ws t).length : Int))) st = .ok (.d (.int (x % ((Ws t).length : Int)))) st := fun x st => bin_mod _ _ _ Wp
    generalize (Ws t).length = n at *
    generalize (Ws t).map D.str = LW at *
    simp [d1, d2, m64, kg0, mll, wll, mw])]
  rw [seqE (e1 := [some (.d (.str t)), some (.d (.lst [D.int y0, .int y1, .int y2, .int y3, .int y4, .int y5])), some (.d (.lst MM)), some (.ref s.length), some (.d (.int (y0 % 10))), some (.d (.int a)), some (.d (.int b)), none, none]) (s1 := s ++ [.lst ((Ws t).map D.str)]) (by
    rw [eb]
    have mw : ∀ x st, binV .mod (.d (.int x)) (.d (.int ((Ws t).length : Int))) st = .ok (.d (.int (x % ((Ws t).length : Int)))) st := fun x st => bin_mod _ _ _ Wp
    generalize (Ws t).length = n at *
    generalize (Ws t).map D.str = LW at *
    simp [d3, d4, m64, kg0, mll, wll, mw])]
  rw [seqE (e1 := [some (.d (.str t)), some (.d (.lst [D.int y0, .int y1, .int y2, .int y3, .int y4, .int y5])), some (.d (.lst MM)), some (.ref s.length), some (.d (.int (y0 % 10))), some (.d (.int a)), some (.d (.int b)), some (.d (.str u)), none]) (s1 := s ++ [.lst ((Ws t).map D.str)]) (by
    generalize (Ws t).map D.str = LW at *
    simp [d5, mlen, l31, u1])]
  have ev : evS (cxΔ Δ fuel d) spIf [some (.d (.str t)), some (.d (.lst [D.int y0, .int y1, .int y2, .int y3, .int y4, .int y5])), some (.d (.lst MM)), some (.ref s.length), some (.d (.int (y0 % 10))), some (.d (.int a)), some (.d (.int b)), some (.d (.str u)), none] (s ++ [.lst ((Ws t).map D.str)]) = .nx [some (.d (.str t)), some (.d (.lst [D.int y0, .int y1, .int y2, .int y3, .int y4, .int y5])), some (.d (.lst MM)), some (.ref r), some (.d (.int (y0 % 10))), some (.d (.int a)), some (.d (.int b)), some (.d (.str u)), v8] S := ev
  unfold spIf at ev
  rw [seqE ev]
  generalize joinT [32] W' = z at *
  simp [jr, hS]
end
end Pv.L

/-! Law 13: the texts. -/
namespace Pv.L
open PySem Pv
theorem has_written : Has Δ "_law_written" 1 1 b__law_written := ⟨_, _, rfl, rfl, rfl⟩
theorem has_same : Has Δ "_law_same" 2 3 b__law_same := ⟨_, _, rfl, rfl, rfl⟩
theorem has_cell : Has Δ "_law_cell" 2 2 b__law_cell := ⟨_, _, rfl, rfl, rfl⟩
theorem has_mixed : Has Δ "_law_mixed" 3 4 b__law_mixed := ⟨_, _, rfl, rfl, rfl⟩
theorem has_draws : Has Δ "_law_draws" 3 6 b__law_draws := ⟨_, _, rfl, rfl, rfl⟩
theorem has_pool : Has Δ "_law_pool" 3 7 b__law_pool := ⟨_, _, rfl, rfl, rfl⟩
theorem has_built : Has Δ "_law_built" 3 12 b__law_built := ⟨_, _, rfl, rfl, rfl⟩
theorem has_one_of : Has Δ "_law_one_of" 2 5 b__law_one_of := ⟨_, _, rfl, rfl, rfl⟩
theorem has_text_of : Has Δ "_law_text_of" 2 10 b__law_text_of := ⟨_, _, rfl, rfl, rfl⟩
/-- as it is written -/
def tex : Stm → Tx
  | .leaf w a b => [a] ++ [32] ++ leafW w ++ [32] ++ [b]
  | .one a => [111, 110, 101, 32] ++ [a]
  | .neg s => [110, 111, 116, 32] ++ tex s
  | .qu q a s => quW q ++ [32] ++ [a] ++ [32] ++ tex s
  | .bi o s t => [40, 32] ++ tex s ++ [32] ++ biW o ++ [32] ++ tex t ++ [32, 41]
theorem tex_len : ∀ st : Stm, (tex st).length ≤ 9 * st.sz
  | .leaf w a b => by
    have : (leafW w).length ≤ 5 := by match w with
      | 0 => decide
      | 1 => decide
      | 2 => decide
      | 3 => decide
    simp [tex, Stm.sz]; omega
  | .one a => by simp [tex, Stm.sz]
  | .neg s => by have := tex_len s; simp [tex, Stm.sz]; omega
  | .qu q a s => by
    have := tex_len s
    have : (quW q).length ≤ 4 := by cases q <;> decide
    simp [tex, Stm.sz]; omega
  | .bi o s t => by
    have := tex_len s
    have := tex_len t
    have : (biW o).length ≤ 3 := by cases o <;> decide
    simp [tex, Stm.sz]; omega
theorem q_let {a : Nat} (h : a ∈ LETTERS) : q [a] = 0 := by
  have h1 : a ≠ 32 := fun e => by rw [e] at h; revert h; decide
  have h2 : a ≠ 40 := fun e => by rw [e] at h; revert h; decide
  rw [q_word (by simpa using fun e : 32 = a => h1 e.symm)]
  unfold cb
  rw [if_neg (by simpa using h2)]
theorem tex_q : ∀ st : Stm, st.on (· ∈ LETTERS) → q (tex st) ≤ st.sz
  | .leaf w a b, on => by
    have h1 := qa ([a] ++ [32] ++ leafW w ++ [32]) [b]
    have h2 := qa ([a] ++ [32] ++ leafW w) [32]
    have h3 := qa ([a] ++ [32]) (leafW w)
    have h4 := qa [a] [32]
    have e1 := q_let on.1
    have e2 := q_let on.2
    have e3 : q [32] = 0 := rfl
    have e4 : q (leafW w) = 0 := by match w with
      | 0 => rfl
      | 1 => rfl
      | 2 => rfl
      | 3 => rfl
    show q ([a] ++ [32] ++ leafW w ++ [32] ++ [b]) ≤ 1
    omega
  | .one a, on => by
    have h1 := qa [111, 110, 101, 32] [a]
    have e1 := q_let on
    have e2 : q [111, 110, 101, 32] = 0 := rfl
    show q ([111, 110, 101, 32] ++ [a]) ≤ 1
    omega
  | .neg s, on => by
    have ih := tex_q s on
    have h1 := qa [110, 111, 116, 32] (tex s)
    have e2 : q [110, 111, 116, 32] = 0 := rfl
    show q ([110, 111, 116, 32] ++ tex s) ≤ s.sz + 1
    omega
  | .qu c a s, on => by
    have ih := tex_q s on.2
    have h1 := qa (quW c ++ [32] ++ [a] ++ [32]) (tex s)
    have h2 := qa (quW c ++ [32] ++ [a]) [32]
    have h3 := qa (quW c ++ [32]) [a]
    have h4 := qa (quW c) [32]
    have e1 := q_let on.1
    have e3 : q [32] = 0 := rfl
    have e4 : q (quW c) = 0 := by cases c <;> rfl
    show q (quW c ++ [32] ++ [a] ++ [32] ++ tex s) ≤ s.sz + 1
    omega
  | .bi o s t, on => by
    have i1 := tex_q s on.1
    have i2 := tex_q t on.2
    have h1 := qa ([40, 32] ++ tex s ++ [32] ++ biW o ++ [32] ++ tex t) [32, 41]
    have h2 := qa ([40, 32] ++ tex s ++ [32] ++ biW o ++ [32]) (tex t)
    have h3 := qa ([40, 32] ++ tex s ++ [32] ++ biW o) [32]
    have h4 := qa ([40, 32] ++ tex s ++ [32]) (biW o)
    have h5 := qa ([40, 32] ++ tex s) [32]
    have h6 := qa [40, 32] (tex s)
    have e1 : q [40, 32] = 1 := rfl
    have e2 : q [32, 41] = 0 := rfl
    have e3 : q [32] = 0 := rfl
    have e4 : q (biW o) = 0 := by cases o <;> rfl
    show q ([40, 32] ++ tex s ++ [32] ++ biW o ++ [32] ++ tex t ++ [32, 41]) ≤ s.sz + t.sz + 1
    omega
theorem sp_written : ∀ (st : Stm) (d : Nat) (s : Store), st.sz ≤ 1000 → Φ Δ fuel (d + st.sz) "_law_written" [.d (stD st)] s = .ok (.d (.str (tex st))) s := by
  intro st
  induction st with
  | leaf w a b =>
    intro d s _
    rw [show d + (Stm.leaf w a b).sz = d + 1 by simp only [Stm.sz], has_written.run rfl]
    unfold b__law_written
    rcases leafW4 w with e | e | e | e <;> simp (disch := first | assumption | (simp only [List.length_append, List.length_cons, List.length_nil]; have hline : line = 16777216 := rfl; omega)) [stD, tex, e, i0, i1, i2]
  | one a =>
    intro d s _
    rw [show d + (Stm.one a).sz = d + 1 by simp only [Stm.sz], has_written.run rfl]
    unfold b__law_written
    simp (disch := first | assumption | (simp only [List.length_append, List.length_cons, List.length_nil]; have hline : line = 16777216 := rfl; omega)) [stD, tex, i0, i1]
  | neg t ih =>
    intro d s hz
    simp only [Stm.sz] at hz
    have tl := tex_len t
    have ih := ih d s (by omega)
    rw [show d + (Stm.neg t).sz = d + t.sz + 1 by simp only [Stm.sz]; omega, has_written.run rfl]
    unfold b__law_written
    simp (disch := first | assumption | (simp only [List.length_append, List.length_cons, List.length_nil]; have hline : line = 16777216 := rfl; omega)) [stD, tex, i0, i1, ih, has_written.has]
  | qu q a t ih =>
    intro d s hz
    simp only [Stm.sz] at hz
    have tl := tex_len t
    have ih := ih d s (by omega)
    rw [show d + (Stm.qu q a t).sz = d + t.sz + 1 by simp only [Stm.sz]; omega, has_written.run rfl]
    unfold b__law_written
    rcases quW2 q with e | e <;> simp (disch := first | assumption | (simp only [List.length_append, List.length_cons, List.length_nil]; have hline : line = 16777216 := rfl; omega)) [stD, tex, e, i0, i1, i2, ih, has_written.has]
  | bi o t1 t2 ih1 ih2 =>
    intro d s hz
    simp only [Stm.sz] at hz
    have tl1 := tex_len t1
    have tl2 := tex_len t2
    have ih1 := ih1 (d + t2.sz) s (by omega)
    have ih2 := ih2 (d + t1.sz) s (by omega)
    rw [show d + t1.sz + t2.sz = d + t2.sz + t1.sz by omega] at ih2
    rw [show d + (Stm.bi o t1 t2).sz = d + t2.sz + t1.sz + 1 by simp only [Stm.sz]; omega, has_written.run rfl]
    unfold b__law_written
    rcases biW2 o with e | e <;> simp (disch := first | assumption | (simp only [List.length_append, List.length_cons, List.length_nil]; have hline : line = 16777216 := rfl; omega)) [stD, tex, e, i0, i1, i2, ih1, ih2, has_written.has]
def PLAIN : List Tx := [[111, 110, 101, 32, 97], [97, 32, 105, 110, 32, 66], [90, 32, 108, 101, 102, 116, 32, 121], [97, 32, 114, 105, 103, 104, 116, 32, 97], [113, 32, 98, 101, 108, 111, 119, 32, 98], [111, 110, 101, 32, 75]]
theorem plain_ok : ∀ u ∈ PLAIN, q u = 0 ∧ u.length ≤ 11 := by decide
def PADS : List Tx := [[32], [97], [40], [32, 110, 111, 116], [122, 32]]
theorem pads_ok : ∀ u ∈ PADS, (q u = 0 ∨ u = [40]) ∧ u.length ≤ 4 := by decide
def JOI : List Tx := [[32, 97, 110, 100, 32], [32, 111, 114, 32]]
theorem joi_ok : ∀ u ∈ JOI, q u = 0 ∧ u.length ≤ 5 := by decide
theorem q_br (n : Nat) : q (List.replicate n [40]).flatten ≤ 1 := by
  have : 32 ∉ (List.replicate n ([40] : Tx)).flatten := fun z => by
    obtain ⟨l, h1, h2⟩ := List.mem_flatten.mp z
    have := (List.mem_replicate.mp h1).2
    rw [this] at h2
    simp at h2
  rw [q_word this]
  exact cb_le _
theorem rep_ln (x : Tx) : ∀ k : Nat, (List.replicate k x).flatten.length = k * x.length
  | 0 => by simp
  | k + 1 => by rw [List.replicate_succ, List.flatten_cons, List.length_append, rep_ln x k, Nat.succ_mul, Nat.add_comm]
theorem atN {L : List Int} {i : Nat} (h : i < L.length) : L2.atI (L.map D.int) (i : Int) = some (.int (L.getD i 0)) := by
  rw [atI_nat (by rw [List.length_map]; exact h), List.getElem?_map, List.getD_eq_getElem?_getD, List.getElem?_eq_getElem h]
  rfl
/-- what a script of six kinds makes of the written text -/
def txIf : S := (.ife (.cmp .eq (.var 3) (.int 3)) (.cons (.set 7 (.bin .add (.int 27) (.bin .mod (.ix (.var 2) (.int 3)) (.int 4))))
 (.cons (.ife (.cmp .eq (.bin .mod (.ix (.var 2) (.int 4)) (.int 2)) (.int 1)) (.cons (.set 7 (.bin .add (.int 68) (.bin .mod (.ix (.var 2) (.int 3)) (.int 8))))
 .nil) .nil)
 (.cons (.set 6 (.bin .add (.bin .add (.bin .mul (.str [110, 111, 116, 32]) (.var 7)) (.bin .mul (.str [115, 111, 109, 101, 32, 120, 32]) (.bin .mod (.ix (.var 2) (.int 5)) (.int 4)))) (.var 5)))
 (.cons (.set 4 (.bin .mod (.var 4) (.int 2)))
 .nil)))) (.cons (.ife (.cmp .eq (.var 3) (.int 4)) (.cons (.set 8 (.bin .sub (.bin .add (.int 297) (.bin .mod (.ix (.var 2) (.int 3)) (.int 7))) (.blt .len (.cons (.var 6) .nil))))
 (.cons (.set 6 (.bin .add (.var 6) (.bin .mul (.ix (.list (.cons (.str [32]) (.cons (.str [97]) (.cons (.str [40]) (.cons (.str [32, 110, 111, 116]) (.cons (.str [122, 32]) .nil)))))) (.bin .mod (.ix (.var 2) (.int 4)) (.int 5))) (.var 8))))
 (.cons (.set 6 (.slice0 (.var 6) (.bin .add (.int 297) (.bin .mod (.ix (.var 2) (.int 3)) (.int 7)))))
 (.cons (.set 4 (.int 0))
 .nil)))) (.cons (.ife (.cmp .eq (.var 3) (.int 5)) (.cons (.set 7 (.bin .add (.int 10) (.bin .mod (.ix (.var 2) (.int 3)) (.int 11))))
 (.cons (.set 6 (.bin .add (.bin .add (.bin .mul (.str [40, 32]) (.var 7)) (.str [111, 110, 101, 32, 97])) (.bin .mul (.bin .add (.bin .add (.ix (.list (.cons (.str [32, 97, 110, 100, 32]) (.cons (.str [32, 111, 114, 32]) .nil))) (.bin .mod (.ix (.var 2) (.int 4)) (.int 2))) (.var 5)) (.str [32, 41])) (.var 7))))
 (.cons (.set 4 (.bin .mod (.var 4) (.int 2)))
 .nil))) .nil)
 .nil))
 .nil))
section
variable {d : Nat}
def txE (ND DD : List D) (k kind sp : Int) (pl t : Tx) (v7 v8 v9 : Option Val) : Env := [some (.d (.lst ND)), some (.d (.int k)), some (.d (.lst DD)), some (.d (.int kind)), some (.d (.int sp)), some (.d (.str pl)), some (.d (.str t)), v7, v8, v9]
theorem tx_turn (ND DD : List D) (k kind sp : Int) (x3 x4 x5 : Int) (e3 : L2.atI DD 3 = some (.int x3)) (e4 : L2.atI DD 4 = some (.int x4)) (e5 : L2.atI DD 5 = some (.int x5)) (h0 : 0 ≤ kind) (h6 : kind < 6) (s0 : 0 ≤ sp) (s2 : sp < 3)
    (pl t : Tx) (hpl : q pl = 0 ∧ pl.length ≤ 11) (hq : q t ≤ 30) (hl : t.length ≤ 270) (s : Store) :
    ∃ (sp' : Nat) (t' : Tx) (v7 v8 : Option Val), sp' ≤ 2 ∧ q t' + 2 * sp' ≤ 35 ∧ t'.length ≤ 1000 ∧
      evS (cxΔ Δ fuel d) txIf (txE ND DD k kind sp pl t none none none) s = .nx (txE ND DD k kind sp' pl t' v7 v8 none) s := by
  have hL : line = 16777216 := rfl
  unfold txIf txE
  have tl : t.length ≤ line := by omega
  rcases (by omega : kind = 3 ∨ kind = 4 ∨ kind = 5 ∨ (kind ≠ 3 ∧ kind ≠ 4 ∧ kind ≠ 5)) with rfl | rfl | rfl | ⟨k3, k4, k5⟩
  · -- not, some
    obtain ⟨M, hM, eM⟩ : ∃ M : Nat, M ≤ 75 ∧ ((M : Int) = if x4 % 2 = 1 then 68 + x3 % 8 else 27 + x3 % 4) := by
      split
      · exact ⟨(68 + x3 % 8).toNat, by omega, by omega⟩
      · exact ⟨(27 + x3 % 4).toNat, by omega, by omega⟩
    obtain ⟨K, hK, eK⟩ : ∃ K : Nat, K ≤ 3 ∧ (K : Int) = x5 % 4 := ⟨(x5 % 4).toNat, by omega, by omega⟩
    obtain ⟨p, hp, ep⟩ : ∃ p : Nat, p ≤ 1 ∧ (p : Int) = sp % 2 := ⟨(sp % 2).toNat, by omega, by omega⟩
    have r1 := rep_ln [110, 111, 116, 32] M
    have r2 := rep_ln [115, 111, 109, 101, 32, 120, 32] K
    have q1 := q_rep [110, 111, 116, 32] M
    have q2 := q_rep [115, 111, 109, 101, 32, 120, 32] K
    have z1 : q [110, 111, 116, 32] = 0 := rfl
    have z2 : q [115, 111, 109, 101, 32, 120, 32] = 0 := rfl
    rw [z1] at q1
    rw [z2] at q2
    simp only [List.length_cons, List.length_nil] at r1 r2
    have tn1 : (M : Int).toNat = M := by omega
    have tn2 : (K : Int).toNat = K := by omega
    have g1 : 4 * M ≤ line ∧ (M : Int) < 9223372036854775808 ∧ -9223372036854775808 ≤ (M : Int) := by omega
    have g2 : 7 * K ≤ line ∧ (K : Int) < 9223372036854775808 ∧ -9223372036854775808 ≤ (K : Int) := by omega
    have qq := qa ((List.replicate M [110, 111, 116, 32]).flatten ++ (List.replicate K [115, 111, 109, 101, 32, 120, 32]).flatten) pl
    have qq2 := qa (List.replicate M [110, 111, 116, 32]).flatten (List.replicate K [115, 111, 109, 101, 32, 120, 32]).flatten
    generalize hA : (List.replicate M [110, 111, 116, 32]).flatten = A at *
    generalize hB : (List.replicate K [115, 111, 109, 101, 32, 120, 32]).flatten = B at *
    refine ⟨p, A ++ B ++ pl, some (.d (.int M)), none, by omega, by omega, by rw [List.length_append, List.length_append]; omega, ?_⟩
    rw [ep]
    have g3 : A.length + B.length ≤ line := by omega
    have g4 : A.length + B.length + pl.length ≤ line := by omega
    have g1a := g1.1
    have g2a := g2.1
    by_cases c : x4 % 2 = 1
    · rw [if_pos c] at eM
      simp [e3, e4, e5, c, ← eM, ← eK, tn1, tn2, g1.1, g1.2.1, g1.2.2, g2.1, g2.2.1, g2.2.2, hA, hB, g3, g4]
    · rw [if_neg c] at eM
      simp [e3, e4, e5, c, ← eM, ← eK, tn1, tn2, g1.1, g1.2.1, g1.2.2, g2.1, g2.2.1, g2.2.2, hA, hB, g3, g4]
  · -- signs behind
    obtain ⟨k, hk, ek⟩ : ∃ a : Nat, a < PADS.length ∧ (a : Int) = x4 % 5 := ⟨(x4 % 5).toNat, by show _ < 5; omega, by omega⟩
    obtain ⟨u1, um⟩ := getTx hk
    obtain ⟨pq, pl4⟩ := pads_ok _ um
    generalize PADS.getD k [] = p at *
    rw [ek] at u1
    have u1 : L2.atI [D.str [32], .str [97], .str [40], .str [32, 110, 111, 116], .str [122, 32]] (x4 % 5) = some (.str p) := u1
    have rl := rep_ln p (297 + x3 % 7 - (t.length : Int)).toNat
    have qR : q (List.replicate (297 + x3 % 7 - (t.length : Int)).toNat p).flatten ≤ 1 := by
      rcases pq with h | h
      · have := q_rep p (297 + x3 % 7 - (t.length : Int)).toNat
        rw [h] at this
        omega
      · rw [h]
        exact q_br _
    have gm : p.length * (297 + x3 % 7 - (t.length : Int)).toNat ≤ line := by
      have : p.length * (297 + x3 % 7 - (t.length : Int)).toNat ≤ 4 * 303 := Nat.mul_le_mul pl4 (by omega)
      omega
    have rl2 : (List.replicate (297 + x3 % 7 - (t.length : Int)).toNat p).flatten.length ≤ 1212 := by
      rw [rl]
      have : (297 + x3 % 7 - (t.length : Int)).toNat * p.length ≤ 303 * 4 := Nat.mul_le_mul (by omega) pl4
      omega
    have p1 : 297 + x3 % 7 - (t.length : Int) < 9223372036854775808 := by omega
    have p2 : -9223372036854775808 ≤ 297 + x3 % 7 - (t.length : Int) := by omega
    have l5 : (5 : Nat) ≤ line := by decide
    generalize hR : (List.replicate (297 + x3 % 7 - (t.length : Int)).toNat p).flatten = R at *
    have qq := qa t R
    have qt := q_take (t ++ R).length (t ++ R) (297 + x3 % 7).toNat (Nat.le_refl _)
    have cu : cutL (t ++ R) none (some (297 + x3 % 7)) = (t ++ R).take (297 + x3 % 7).toNat := cut_to _ (by omega)
    have g1 : t.length + R.length ≤ line := by omega
    refine ⟨0, (t ++ R).take (297 + x3 % 7).toNat, none, some (.d (.int (297 + x3 % 7 - (t.length : Int)))), by omega, by omega, by rw [List.length_take]; omega, ?_⟩
    rw [← cu]
    generalize hpd : 297 + x3 % 7 - (t.length : Int) = pd at *
    simp [e3, e4, u1, l5, tl, hpd, gm, p1, p2, hR, g1]
  · -- brackets
    obtain ⟨M, hM, eM⟩ : ∃ M : Nat, M ≤ 20 ∧ (M : Int) = 10 + x3 % 11 := ⟨(10 + x3 % 11).toNat, by omega, by omega⟩
    obtain ⟨p, hp, ep⟩ : ∃ p : Nat, p ≤ 1 ∧ (p : Int) = sp % 2 := ⟨(sp % 2).toNat, by omega, by omega⟩
    obtain ⟨k, hk, ek⟩ : ∃ a : Nat, a < JOI.length ∧ (a : Int) = x4 % 2 := ⟨(x4 % 2).toNat, by show _ < 2; omega, by omega⟩
    obtain ⟨u1, um⟩ := getTx hk
    obtain ⟨jq, jl⟩ := joi_ok _ um
    generalize JOI.getD k [] = j at *
    rw [ek] at u1
    have u1 : L2.atI [D.str [32, 97, 110, 100, 32], .str [32, 111, 114, 32]] (x4 % 2) = some (.str j) := u1
    have l2 : (2 : Nat) ≤ line := by decide
    have tn1 : (M : Int).toNat = M := by omega
    have r1 := rep_ln [40, 32] M
    have q1 := q_rep [40, 32] M
    have z1 : q [40, 32] = 1 := rfl
    rw [z1] at q1
    simp only [List.length_cons, List.length_nil] at r1
    have qw := qa (j ++ pl) [32, 41]
    have qw2 := qa j pl
    have z2 : q [32, 41] = 0 := rfl
    have z3 : q [111, 110, 101, 32, 97] = 0 := rfl
    have wl : (j ++ pl ++ [32, 41]).length ≤ 18 := by rw [List.length_append, List.length_append]; show _ + _ + 2 ≤ 18; omega
    have gw1 : j.length + pl.length ≤ line := by omega
    have gw2 : j.length + pl.length + 2 ≤ line := by omega
    have eW : (j ++ pl ++ [32, 41]).length = j.length + pl.length + 2 := by rw [List.length_append, List.length_append]; rfl
    have qW : q (j ++ pl ++ [32, 41]) = 0 := by omega
    have r2 := rep_ln (j ++ pl ++ [32, 41]) M
    have q2 := q_rep (j ++ pl ++ [32, 41]) M
    rw [qW] at q2
    have r2' : M * (j ++ pl ++ [32, 41]).length ≤ 20 * 18 := Nat.mul_le_mul hM wl
    have r3 : (j ++ pl ++ [32, 41]).length * M ≤ line := by rw [Nat.mul_comm]; omega
    have g1 : 2 * M ≤ line := by omega
    have m1 : (M : Int) < 9223372036854775808 := by omega
    have m2 : -9223372036854775808 ≤ (M : Int) := by omega
    generalize hA : (List.replicate M ([40, 32] : Tx)).flatten = A at *
    generalize hw : j ++ pl ++ [32, 41] = w at *
    generalize hB : (List.replicate M w).flatten = B at *
    have qq := qa (A ++ [111, 110, 101, 32, 97]) B
    have qq2 := qa A [111, 110, 101, 32, 97]
    have g3 : A.length + 5 ≤ line := by omega
    have g4 : A.length + 5 + B.length ≤ line := by omega
    refine ⟨p, A ++ [111, 110, 101, 32, 97] ++ B, some (.d (.int M)), none, by omega, by omega, by rw [List.length_append, List.length_append]; show _ + 5 + _ ≤ _; omega, ?_⟩
    rw [ep]
    simp [e3, e4, ← eM, tn1, g1, m1, m2, hA, u1, l2, gw1, gw2, hw, r3, hB, g3, g4]
  · refine ⟨sp.toNat, t, none, none, by omega, by omega, by omega, ?_⟩
    rw [show ((sp.toNat : Nat) : Int) = sp by omega]
    simp [k3, k4, k5]
end
end Pv.L

/-! Law 13: the law. -/
namespace Pv.L
open PySem Pv
abbrev depth : Nat := 230
theorem has_law : Has Δ "law" 1 4 b_law := ⟨_, _, rfl, rfl, rfl⟩
theorem sp_text_of (ns : List Int) (k : Int) (k0 : 0 ≤ k) (k1 : k ≤ 10) (s : Store) : ∃ t, q t ≤ 35 ∧ t.length ≤ 20000 ∧ Φ Δ fuel 229 "_law_text_of" [.d (.lst (ns.map .int)), .d (.int k)] s = .ok (.d (.str t)) s := by
  show ∃ t, _ ∧ _ ∧ Φ Δ fuel (228 + 1) "_law_text_of" _ s = _
  rw [has_text_of.run rfl]
  unfold b__law_text_of
  obtain ⟨c, hc⟩ := sp_cell (m := fuel) (d := 227) has_cell ns (k + 4)
  have hc : Φ Δ fuel 228 "_law_cell" [.d (.lst (ns.map .int)), .d (.int (k + 4))] s = .ok (.d (.int c)) s := hc s
  have hd : Φ Δ fuel 228 "_law_draws" [.d (.int c), .d (.int 18), .d (.int (600011 + 500 * k))] s = .ok (.new ((drawsI c 18 (600011 + 500 * k)).map .int)) s := sp_draws (m := fuel) (d := 226) has_draws has_mixed c 18 (600011 + 500 * k) (by omega) (by omega) s
  have hdl := drawsI_len c 18 (600011 + 500 * k)
  generalize drawsI c 18 (600011 + 500 * k) = ds at hd hdl
  have hdl : ds.length = 18 := hdl
  obtain ⟨st, sz, on, ho⟩ := sp_one_of (m := fuel) (d := 224) has_one_of has_built has_cell has_pool has_draws has_mixed ns k k0 (by omega) (by decide) s
  have ho : Φ Δ fuel 228 "_law_one_of" [.d (.lst (ns.map .int)), .d (.int k)] s = .ok (.d (stD st)) s := ho
  have hw := sp_written st (228 - st.sz) s (by omega)
  rw [show 228 - st.sz + st.sz = 228 by omega] at hw
  have m500 : ∀ st, binV .mul (.d (.int 500)) (.d (.int k)) st = .ok (.d (.int (500 * k))) st := fun st => bin_mul _ _ _ (okM1 (by omega))
  have x0 := atN (L := ds) (i := 0) (by omega)
  have x1 := atN (L := ds) (i := 1) (by omega)
  have x2 := atN (L := ds) (i := 2) (by omega)
  have x3 := atN (L := ds) (i := 3) (by omega)
  have x4 := atN (L := ds) (i := 4) (by omega)
  have x5 := atN (L := ds) (i := 5) (by omega)
  have x0 : L2.atI (ds.map D.int) 0 = some (.int (ds.getD 0 0)) := x0
  have x1 : L2.atI (ds.map D.int) 1 = some (.int (ds.getD 1 0)) := x1
  have x2 : L2.atI (ds.map D.int) 2 = some (.int (ds.getD 2 0)) := x2
  have x3 : L2.atI (ds.map D.int) 3 = some (.int (ds.getD 3 0)) := x3
  have x4 : L2.atI (ds.map D.int) 4 = some (.int (ds.getD 4 0)) := x4
  have x5 : L2.atI (ds.map D.int) 5 = some (.int (ds.getD 5 0)) := x5
  generalize ds.getD 0 0 = y0 at *
  generalize ds.getD 1 0 = y1 at *
  generalize ds.getD 2 0 = y2 at *
  generalize ds.getD 3 0 = y3 at *
  generalize ds.getD 4 0 = y4 at *
  generalize ds.getD 5 0 = y5 at *
  obtain ⟨j, hj, ej⟩ : ∃ a : Nat, a < PLAIN.length ∧ (a : Int) = y2 % 6 := ⟨(y2 % 6).toNat, by show _ < 6; omega, by omega⟩
  obtain ⟨u1, um⟩ := getTx hj
  have hpl := plain_ok _ um
  generalize PLAIN.getD j [] = pl at *
  rw [ej] at u1
  have u1 : L2.atI [D.str [111, 110, 101, 32, 97], .str [97, 32, 105, 110, 32, 66], .str [90, 32, 108, 101, 102, 116, 32, 121], .str [97, 32, 114, 105, 103, 104, 116, 32, 97], .str [113, 32, 98, 101, 108, 111, 119, 32, 98], .str [111, 110, 101, 32, 75]] (y2 % 6) = some (.str pl) := u1
  have l6 : (6 : Nat) ≤ line := by decide
  obtain ⟨sp, t0, v7, v8, hsp, hq0, hl0, ev⟩ := tx_turn (d := 228) (ns.map .int) (ds.map .int) k (y0 % 6) (y1 % 3) y3 y4 y5 x3 x4 x5 (by omega) (by omega) (by omega) (by omega) pl (tex st) hpl (Nat.le_trans (tex_q st on) sz) (Nat.le_trans (tex_len st) (by omega)) s
  unfold txIf txE at ev
  have key := forL_inv (w := ⟨rangeL 0 sp, none⟩) (n := s.length) (tg := .name 9) (body := fun e s => evSs (cxΔ Δ fuel 228) b__law_text_of_1 e s)
    (env := [some (.d (.lst (ns.map .int))), some (.d (.int k)), some (.d (.lst (ds.map .int))), some (.d (.int (y0 % 6))), some (.d (.int (sp : Nat))), some (.d (.str pl)), some (.d (.str t0)), v7, v8, none]) (s := s)
    (fun i env s1 => (∃ t w7 w8 w9, env = [some (.d (.lst (ns.map .int))), some (.d (.int k)), some (.d (.lst (ds.map .int))), some (.d (.int (y0 % 6))), some (.d (.int (sp : Nat))), some (.d (.str pl)), some (.d (.str t)), w7, w8, w9] ∧ q t ≤ q t0 + 2 * i ∧ t.length ≤ 1000 * 4 ^ i) ∧ s1 = s)
    ⟨⟨t0, _, _, _, rfl, by omega, by omega⟩, rfl⟩ (by
    rintro i dd env s1 hdd ⟨⟨t, w7, w8, w9, rfl, hq, hlt⟩, es⟩
    subst s1
    obtain ⟨hi, rfl⟩ := rl_get _ hdd
    refine ⟨rfl, _, rfl, ?_⟩
    rw [Int.zero_add]
    have hp : (4 : Nat) ^ i ≤ 4 ^ 1 := Nat.pow_le_pow_right (by decide) (by omega)
    have hcut : cutL (ds.map D.int) (some (6 + 6 * (i : Int))) (some (12 + 6 * (i : Int))) = ((ds.take (12 + 6 * i)).drop (6 + 6 * i)).map .int := by
      rw [cut_mid _ (by omega) (by omega), show (12 + 6 * (i : Int)).toNat = 12 + 6 * i by omega, show (6 + 6 * (i : Int)).toNat = 6 + 6 * i by omega, List.map_drop, List.map_take]
    have h6 : ((ds.take (12 + 6 * i)).drop (6 + 6 * i)).length = 6 := by rw [List.length_drop, List.length_take]; omega
    generalize (ds.take (12 + 6 * i)).drop (6 + 6 * i) = d6 at *
    obtain ⟨t', q', l', e'⟩ := sp_spoilt (d := 227) t d6 h6 (by omega) s
    have e' : Φ Δ fuel 228 "_law_spoilt" [.d (.str t), .d (.lst (d6.map .int))] s = .ok (.d (.str t')) s := e'
    have m6 : ∀ st, binV .mul (.d (.int 6)) (.d (.int (i : Int))) st = .ok (.d (.int (6 * i))) st := fun st => bin_mul _ _ _ (okM1 (by omega))
    generalize hDD : ds.map D.int = DD at *
    generalize ns.map D.int = ND at *
    generalize d6.map D.int = D6 at *
    have e2 : evSs (cxΔ Δ fuel 228) b__law_text_of_1 [some (.d (.lst ND)), some (.d (.int k)), some (.d (.lst DD)), some (.d (.int (y0 % 6))), some (.d (.int (sp : Nat))), some (.d (.str pl)), some (.d (.str t)), w7, w8, some (.d (.int (i : Int)))] s = .nx [some (.d (.lst ND)), some (.d (.int k)), some (.d (.lst DD)), some (.d (.int (y0 % 6))), some (.d (.int (sp : Nat))), some (.d (.str pl)), some (.d (.str t')), w7, w8, some (.d (.int (i : Int)))] s := by
      unfold b__law_text_of_1
      simp [m6, hcut, e', has_spoilt.has]
    show (evSs (cxΔ Δ fuel 228) b__law_text_of_1 [some (.d (.lst ND)), some (.d (.int k)), some (.d (.lst DD)), some (.d (.int (y0 % 6))), some (.d (.int (sp : Nat))), some (.d (.str pl)), some (.d (.str t)), w7, w8, some (.d (.int (i : Int)))] s).turn _
    rw [e2]
    have h4 : (1 : Nat) ≤ 4 ^ i := Nat.le_trans (by decide : 1 ≤ 4 ^ 0) (Nat.pow_le_pow_right (by decide) (Nat.zero_le i))
    refine ⟨⟨t', _, _, _, rfl, by omega, ?_⟩, List.take_length⟩
    rw [Nat.pow_succ]
    omega) (fun _ _ _ => rfl)
  obtain ⟨env', s', h1, ⟨t, w7, w8, w9, rfl, hq, hlt⟩, es⟩ := key
  subst s'
  simp only [rl_len] at h1 hq hlt
  have hp : (4 : Nat) ^ sp ≤ 4 ^ 2 := Nat.pow_le_pow_right (by decide) (by omega)
  refine ⟨t, by omega, by omega, ?_⟩
  have hr := okR1 (j := (sp : Int)) (by omega) (by omega)
  generalize hDD : ds.map D.int = DD at *
  generalize ns.map D.int = ND at *
  generalize stD st = sd at *
  generalize tex st = tx at *
  rw [seqE (e1 := [some (.d (.lst ND)), some (.d (.int k)), some (.d (.lst DD)), none, none, none, none, none, none, none]) (s1 := s) (by simp [hc, has_cell.has, m500, hd, has_draws.has])]
  rw [seqE (e1 := [some (.d (.lst ND)), some (.d (.int k)), some (.d (.lst DD)), some (.d (.int (y0 % 6))), none, none, none, none, none, none]) (s1 := s) (by simp [x0])]
  rw [seqE (e1 := [some (.d (.lst ND)), some (.d (.int k)), some (.d (.lst DD)), some (.d (.int (y0 % 6))), some (.d (.int (y1 % 3))), none, none, none, none, none]) (s1 := s) (by simp [x1])]
  rw [seqE (e1 := [some (.d (.lst ND)), some (.d (.int k)), some (.d (.lst DD)), some (.d (.int (y0 % 6))), some (.d (.int (y1 % 3))), some (.d (.str pl)), none, none, none, none]) (s1 := s) (by simp [x2, l6, u1])]
  rw [seqE (e1 := [some (.d (.lst ND)), some (.d (.int k)), some (.d (.lst DD)), some (.d (.int (y0 % 6))), some (.d (.int (y1 % 3))), some (.d (.str pl)), some (.d (.str tx)), none, none, none]) (s1 := s) (by simp [ho, has_one_of.has, hw, has_written.has])]
  rw [seqE ev]
  simp [hr, h1]
theorem okD_st : ∀ st : Stm, okD (st.sz + 1) (stD st) := by
  have l2 : 2 ≤ line := by decide
  have l3 : 3 ≤ line := by decide
  have up : ∀ (n k : Nat) (x : D), okD n x → okD (n + k) x := by
    intro n
    induction n with
    | zero => exact fun k x h => h.elim
    | succ n ih =>
      intro k x h
      rw [show n + 1 + k = n + k + 1 by omega]
      cases x with
      | non => trivial
      | bl b => trivial
      | int i => trivial
      | str t => trivial
      | lst xs => exact h.elim
      | tup xs => exact ⟨h.1, fun y hy => ih k y (h.2 y hy)⟩
  intro st
  induction st with
  | leaf w a b =>
    refine ⟨l3, fun x hx => ?_⟩
    simp only [List.mem_cons, List.not_mem_nil, or_false] at hx
    rcases hx with rfl | rfl | rfl <;> trivial
  | one a =>
    refine ⟨l2, fun x hx => ?_⟩
    simp only [List.mem_cons, List.not_mem_nil, or_false] at hx
    rcases hx with rfl | rfl <;> trivial
  | neg s ih =>
    refine ⟨l2, fun x hx => ?_⟩
    simp only [List.mem_cons, List.not_mem_nil, or_false] at hx
    rcases hx with rfl | rfl
    · trivial
    · exact ih
  | qu q a s ih =>
    refine ⟨l3, fun x hx => ?_⟩
    simp only [List.mem_cons, List.not_mem_nil, or_false] at hx
    rcases hx with rfl | rfl | rfl
    · trivial
    · trivial
    · exact ih
  | bi o s t i1 i2 =>
    refine ⟨l3, fun x hx => ?_⟩
    simp only [List.mem_cons, List.not_mem_nil, or_false] at hx
    rcases hx with rfl | rfl | rfl
    · trivial
    · show okD (s.sz + t.sz + 1) _
      rw [show s.sz + t.sz + 1 = s.sz + 1 + t.sz by omega]
      exact up _ _ _ i1
    · show okD (s.sz + t.sz + 1) _
      rw [show s.sz + t.sz + 1 = t.sz + 1 + s.sz by omega]
      exact up _ _ _ i2
theorem sameO (t : Tx) (s : Store) : Φ Δ fuel 229 "_law_same" [.d (outD (outT t)), .d (outD (outT t))] s = .ok (.d (.bl true)) s := by
  have five : ∀ (a b c e f : D), (∀ x ∈ [a, b, c, e, f], okD 1 x) → okD 2 (.tup [a, b, c, e, f]) := fun a b c e f h => ⟨(by decide : 5 ≤ line), h⟩
  have g : okD 2 GRT := five _ _ _ _ _ fun x hx => by
    simp only [List.mem_cons, List.not_mem_nil, or_false] at hx
    rcases hx with rfl | rfl | rfl | rfl | rfl <;> trivial
  have n : okD 2 NOS := five _ _ _ _ _ fun x hx => by
    simp only [List.mem_cons, List.not_mem_nil, or_false] at hx
    rcases hx with rfl | rfl | rfl | rfl | rfl <;> trivial
  cases e : outT t with
  | great => exact sp_same (m := fuel) (d := 227) has_same 2 GRT s g
  | none => exact sp_same (m := fuel) (d := 227) has_same 2 NOS s n
  | st st =>
    have sz : st.sz ≤ 30 := by
      unfold outT at e
      split at e
      · cases e
      · split at e
        · cases e
        · split at e
          · split at e
            · cases e
            · cases e
              omega
          · cases e
    have := sp_same (m := fuel) (d := 229 - (st.sz + 1)) has_same (st.sz + 1) (stD st) s (okD_st st)
    rw [show 229 - (st.sz + 1) + (st.sz + 1) = 229 by omega] at this
    exact this
theorem law_true (ns : List Int) (hl : ns.length ≤ 63) : Φ Δ fuel depth "law" [.d (.lst (ns.map .int))] [] = .ok (.d (.bl true)) [] := by
  show Φ Δ fuel (229 + 1) "law" _ [] = _
  rw [has_law.run rfl]
  unfold b_law
  obtain ⟨t1, q1, l1, e1⟩ := sp_text_of ns 0 (by omega) (by omega) []
  obtain ⟨t2, q2, l2, e2⟩ := sp_text_of ns 5 (by omega) (by omega) []
  have one : ∀ (t : Tx), q t ≤ 35 → t.length ≤ 20000 → ∀ a b c, evSs (cxΔ Δ fuel 229) b_law_1 [a, b, c, some (.d (.str t))] [] = .nx [a, b, c, some (.d (.str t))] [] := fun t hq hl a b c => by
    have r := sp_lread t (by omega) (fun h => lev_q t (by omega) h) []
    have u := sp_ldue t (by omega) (fun h => lev_q t (by omega) h) []
    have sm := sameO t []
    generalize outD (outT t) = o at *
    unfold b_law_1
    rw [seqE (e1 := [a, b, c, some (.d (.str t))]) (s1 := []) (by
      rw [ifF (s1 := []) (by simp [r, has_lread.has, u, has_ldue.has, sm, has_same.has])]
      simp)]
    simp
  have l3 : (3 : Nat) ≤ line := by decide
  generalize ns.map D.int = ND at *
  have o1 := one t1 q1 l1 (some (.d (.lst ND))) (some (.d (.str t1))) (some (.d (.str t2)))
  have o2 := one t2 q2 l2 (some (.d (.lst ND))) (some (.d (.str t1))) (some (.d (.str t2)))
  rw [seqE (e1 := [some (.d (.lst ND)), some (.d (.str t1)), none, none]) (s1 := []) (by simp [e1, has_text_of.has])]
  rw [seqE (e1 := [some (.d (.lst ND)), some (.d (.str t1)), some (.d (.str t2)), none]) (s1 := []) (by simp [e2, has_text_of.has])]
  rw [seqE (e1 := [some (.d (.lst ND)), some (.d (.str t1)), some (.d (.str t2)), some (.d (.str t1))]) (s1 := []) (by
    simp [l3, forL, Walk.ok, o1, o2])]
  simp
end Pv.L

namespace Pv.L
open PySem PySem.Spec PyProof.Rows L2
def top (i : Nat) : Stmt := PySem.Challenge.pw_trunksay_k13_statement_texts_refused.main.body.getD i (.Pass ⟨0, 0, 0, 0⟩)
theorem k_is_letter : chkFn f_is_letter (top 14) = true := by decide +kernel
theorem k_parts_many : chkFn f_parts_many (top 16) = true := by decide +kernel
theorem k_word_at : chkFn f_word_at (top 20) = true := by decide +kernel
theorem k_letter_at : chkFn f_letter_at (top 21) = true := by decide +kernel
theorem k_joined_part : chkFn f_joined_part (top 22) = true := by decide +kernel
theorem k_read_part : chkFn f_read_part (top 23) = true := by decide +kernel
theorem k_read_statement : chkFn f_read_statement (top 24) = true := by decide +kernel
theorem k__law_cell : chkFn f__law_cell (top 26) = true := by decide +kernel
theorem k__law_mixed : chkFn f__law_mixed (top 27) = true := by decide +kernel
theorem k__law_draws : chkFn f__law_draws (top 28) = true := by decide +kernel
theorem k__law_pool : chkFn f__law_pool (top 29) = true := by decide +kernel
theorem k__law_built : chkFn f__law_built (top 30) = true := by decide +kernel
theorem k__law_one_of : chkFn f__law_one_of (top 31) = true := by decide +kernel
theorem k__law_written : chkFn f__law_written (top 32) = true := by decide +kernel
theorem k__law_letter_at : chkFn f__law_letter_at (top 33) = true := by decide +kernel
theorem k__law_parsed : chkFn f__law_parsed (top 34) = true := by decide +kernel
theorem k__law_joint : chkFn f__law_joint (top 35) = true := by decide +kernel
theorem k__law_parts : chkFn f__law_parts (top 36) = true := by decide +kernel
theorem k__law_spoilt : chkFn f__law_spoilt (top 37) = true := by decide +kernel
theorem k__law_text_of : chkFn f__law_text_of (top 38) = true := by decide +kernel
theorem k__law_read : chkFn f__law_read (top 39) = true := by decide +kernel
theorem k__law_same : chkFn f__law_same (top 40) = true := by decide +kernel
theorem k__law_due : chkFn f__law_due (top 41) = true := by decide +kernel
theorem k_law : chkFn f_law (top 42) = true := by decide +kernel
theorem all_mk {l : PySem.W.OpenLaw} {w : World} {K : Frag} {h : Heap} {mg : Str → Option Value} {fa f0 f1 f2 f3 f4 f5 f6 f7 f8 f9 f10 f11 f12 f13 f14 f15 f16 f17 f18 f19 f20 f21 f22 f23 C0 C1 C2 C3 C4 C5 C6 C7 C8 C9 : Addr} (X : K.In h) (G : h.Ns mainGlobals mg) (hfa : mg "law" = some (.ref fa))
  {od0 an0 : Option Addr} {sl0 : Array (Option Value)} {oc0 kV0 dc0 pm0 cd0 ct0 : Value} (a0 : PySem.W.nsIn K mainGlobals "is_letter" = some (some (.ref f0))) (l0 : K.lookup f0 = some ⟨oc0, od0, .func (PySem.W.fnOf "is_letter" "is_letter" (defArgs (top 14)) (defBody (top 14)) (defScope (top 14)) .none kV0 dc0 pm0 an0 cd0 ct0), sl0⟩) (c0 : PySem.W.codeIn K cd0 "is_letter" = true) (k0 : PySem.W.keepIn K (.ref f0) = true)
  {od1 an1 : Option Addr} {sl1 : Array (Option Value)} {oc1 kV1 dc1 pm1 cd1 ct1 : Value} (a1 : PySem.W.nsIn K mainGlobals "parts_many" = some (some (.ref f1))) (l1 : K.lookup f1 = some ⟨oc1, od1, .func (PySem.W.fnOf "parts_many" "parts_many" (defArgs (top 16)) (defBody (top 16)) (defScope (top 16)) .none kV1 dc1 pm1 an1 cd1 ct1), sl1⟩) (c1 : PySem.W.codeIn K cd1 "parts_many" = true) (k1 : PySem.W.keepIn K (.ref f1) = true)
  {od2 an2 : Option Addr} {sl2 : Array (Option Value)} {oc2 kV2 dc2 pm2 cd2 ct2 : Value} (a2 : PySem.W.nsIn K mainGlobals "word_at" = some (some (.ref f2))) (l2 : K.lookup f2 = some ⟨oc2, od2, .func (PySem.W.fnOf "word_at" "word_at" (defArgs (top 20)) (defBody (top 20)) (defScope (top 20)) .none kV2 dc2 pm2 an2 cd2 ct2), sl2⟩) (c2 : PySem.W.codeIn K cd2 "word_at" = true) (k2 : PySem.W.keepIn K (.ref f2) = true)
  {od3 an3 : Option Addr} {sl3 : Array (Option Value)} {oc3 kV3 dc3 pm3 cd3 ct3 : Value} (a3 : PySem.W.nsIn K mainGlobals "letter_at" = some (some (.ref f3))) (l3 : K.lookup f3 = some ⟨oc3, od3, .func (PySem.W.fnOf "letter_at" "letter_at" (defArgs (top 21)) (defBody (top 21)) (defScope (top 21)) .none kV3 dc3 pm3 an3 cd3 ct3), sl3⟩) (c3 : PySem.W.codeIn K cd3 "letter_at" = true) (k3 : PySem.W.keepIn K (.ref f3) = true)
  {od4 an4 : Option Addr} {sl4 : Array (Option Value)} {oc4 kV4 dc4 pm4 cd4 ct4 : Value} (a4 : PySem.W.nsIn K mainGlobals "joined_part" = some (some (.ref f4))) (l4 : K.lookup f4 = some ⟨oc4, od4, .func (PySem.W.fnOf "joined_part" "joined_part" (defArgs (top 22)) (defBody (top 22)) (defScope (top 22)) .none kV4 dc4 pm4 an4 cd4 ct4), sl4⟩) (c4 : PySem.W.codeIn K cd4 "joined_part" = true) (k4 : PySem.W.keepIn K (.ref f4) = true)
  {od5 an5 : Option Addr} {sl5 : Array (Option Value)} {oc5 kV5 dc5 pm5 cd5 ct5 : Value} (a5 : PySem.W.nsIn K mainGlobals "read_part" = some (some (.ref f5))) (l5 : K.lookup f5 = some ⟨oc5, od5, .func (PySem.W.fnOf "read_part" "read_part" (defArgs (top 23)) (defBody (top 23)) (defScope (top 23)) .none kV5 dc5 pm5 an5 cd5 ct5), sl5⟩) (c5 : PySem.W.codeIn K cd5 "read_part" = true) (k5 : PySem.W.keepIn K (.ref f5) = true)
  {od6 an6 : Option Addr} {sl6 : Array (Option Value)} {oc6 kV6 dc6 pm6 cd6 ct6 : Value} (a6 : PySem.W.nsIn K mainGlobals "read_statement" = some (some (.ref f6))) (l6 : K.lookup f6 = some ⟨oc6, od6, .func (PySem.W.fnOf "read_statement" "read_statement" (defArgs (top 24)) (defBody (top 24)) (defScope (top 24)) .none kV6 dc6 pm6 an6 cd6 ct6), sl6⟩) (c6 : PySem.W.codeIn K cd6 "read_statement" = true) (k6 : PySem.W.keepIn K (.ref f6) = true)
  {od7 an7 : Option Addr} {sl7 : Array (Option Value)} {oc7 kV7 dc7 pm7 cd7 ct7 : Value} (a7 : PySem.W.nsIn K mainGlobals "_law_cell" = some (some (.ref f7))) (l7 : K.lookup f7 = some ⟨oc7, od7, .func (PySem.W.fnOf "_law_cell" "_law_cell" (defArgs (top 26)) (defBody (top 26)) (defScope (top 26)) .none kV7 dc7 pm7 an7 cd7 ct7), sl7⟩) (c7 : PySem.W.codeIn K cd7 "_law_cell" = true) (k7 : PySem.W.keepIn K (.ref f7) = true)
  {od8 an8 : Option Addr} {sl8 : Array (Option Value)} {oc8 kV8 dc8 pm8 cd8 ct8 : Value} (a8 : PySem.W.nsIn K mainGlobals "_law_mixed" = some (some (.ref f8))) (l8 : K.lookup f8 = some ⟨oc8, od8, .func (PySem.W.fnOf "_law_mixed" "_law_mixed" (defArgs (top 27)) (defBody (top 27)) (defScope (top 27)) .none kV8 dc8 pm8 an8 cd8 ct8), sl8⟩) (c8 : PySem.W.codeIn K cd8 "_law_mixed" = true) (k8 : PySem.W.keepIn K (.ref f8) = true)
  {od9 an9 : Option Addr} {sl9 : Array (Option Value)} {oc9 kV9 dc9 pm9 cd9 ct9 : Value} (a9 : PySem.W.nsIn K mainGlobals "_law_draws" = some (some (.ref f9))) (l9 : K.lookup f9 = some ⟨oc9, od9, .func (PySem.W.fnOf "_law_draws" "_law_draws" (defArgs (top 28)) (defBody (top 28)) (defScope (top 28)) .none kV9 dc9 pm9 an9 cd9 ct9), sl9⟩) (c9 : PySem.W.codeIn K cd9 "_law_draws" = true) (k9 : PySem.W.keepIn K (.ref f9) = true)
  {od10 an10 : Option Addr} {sl10 : Array (Option Value)} {oc10 kV10 dc10 pm10 cd10 ct10 : Value} (a10 : PySem.W.nsIn K mainGlobals "_law_pool" = some (some (.ref f10))) (l10 : K.lookup f10 = some ⟨oc10, od10, .func (PySem.W.fnOf "_law_pool" "_law_pool" (defArgs (top 29)) (defBody (top 29)) (defScope (top 29)) .none kV10 dc10 pm10 an10 cd10 ct10), sl10⟩) (c10 : PySem.W.codeIn K cd10 "_law_pool" = true) (k10 : PySem.W.keepIn K (.ref f10) = true)
  {od11 an11 : Option Addr} {sl11 : Array (Option Value)} {oc11 kV11 dc11 pm11 cd11 ct11 : Value} (a11 : PySem.W.nsIn K mainGlobals "_law_built" = some (some (.ref f11))) (l11 : K.lookup f11 = some ⟨oc11, od11, .func (PySem.W.fnOf "_law_built" "_law_built" (defArgs (top 30)) (defBody (top 30)) (defScope (top 30)) .none kV11 dc11 pm11 an11 cd11 ct11), sl11⟩) (c11 : PySem.W.codeIn K cd11 "_law_built" = true) (k11 : PySem.W.keepIn K (.ref f11) = true)
  {od12 an12 : Option Addr} {sl12 : Array (Option Value)} {oc12 kV12 dc12 pm12 cd12 ct12 : Value} (a12 : PySem.W.nsIn K mainGlobals "_law_one_of" = some (some (.ref f12))) (l12 : K.lookup f12 = some ⟨oc12, od12, .func (PySem.W.fnOf "_law_one_of" "_law_one_of" (defArgs (top 31)) (defBody (top 31)) (defScope (top 31)) .none kV12 dc12 pm12 an12 cd12 ct12), sl12⟩) (c12 : PySem.W.codeIn K cd12 "_law_one_of" = true) (k12 : PySem.W.keepIn K (.ref f12) = true)
  {od13 an13 : Option Addr} {sl13 : Array (Option Value)} {oc13 kV13 dc13 pm13 cd13 ct13 : Value} (a13 : PySem.W.nsIn K mainGlobals "_law_written" = some (some (.ref f13))) (l13 : K.lookup f13 = some ⟨oc13, od13, .func (PySem.W.fnOf "_law_written" "_law_written" (defArgs (top 32)) (defBody (top 32)) (defScope (top 32)) .none kV13 dc13 pm13 an13 cd13 ct13), sl13⟩) (c13 : PySem.W.codeIn K cd13 "_law_written" = true) (k13 : PySem.W.keepIn K (.ref f13) = true)
  {od14 an14 : Option Addr} {sl14 : Array (Option Value)} {oc14 kV14 dc14 pm14 cd14 ct14 : Value} (a14 : PySem.W.nsIn K mainGlobals "_law_letter_at" = some (some (.ref f14))) (l14 : K.lookup f14 = some ⟨oc14, od14, .func (PySem.W.fnOf "_law_letter_at" "_law_letter_at" (defArgs (top 33)) (defBody (top 33)) (defScope (top 33)) .none kV14 dc14 pm14 an14 cd14 ct14), sl14⟩) (c14 : PySem.W.codeIn K cd14 "_law_letter_at" = true) (k14 : PySem.W.keepIn K (.ref f14) = true)
  {od15 an15 : Option Addr} {sl15 : Array (Option Value)} {oc15 kV15 dc15 pm15 cd15 ct15 : Value} (a15 : PySem.W.nsIn K mainGlobals "_law_parsed" = some (some (.ref f15))) (l15 : K.lookup f15 = some ⟨oc15, od15, .func (PySem.W.fnOf "_law_parsed" "_law_parsed" (defArgs (top 34)) (defBody (top 34)) (defScope (top 34)) .none kV15 dc15 pm15 an15 cd15 ct15), sl15⟩) (c15 : PySem.W.codeIn K cd15 "_law_parsed" = true) (k15 : PySem.W.keepIn K (.ref f15) = true)
  {od16 an16 : Option Addr} {sl16 : Array (Option Value)} {oc16 kV16 dc16 pm16 cd16 ct16 : Value} (a16 : PySem.W.nsIn K mainGlobals "_law_joint" = some (some (.ref f16))) (l16 : K.lookup f16 = some ⟨oc16, od16, .func (PySem.W.fnOf "_law_joint" "_law_joint" (defArgs (top 35)) (defBody (top 35)) (defScope (top 35)) .none kV16 dc16 pm16 an16 cd16 ct16), sl16⟩) (c16 : PySem.W.codeIn K cd16 "_law_joint" = true) (k16 : PySem.W.keepIn K (.ref f16) = true)
  {od17 an17 : Option Addr} {sl17 : Array (Option Value)} {oc17 kV17 dc17 pm17 cd17 ct17 : Value} (a17 : PySem.W.nsIn K mainGlobals "_law_parts" = some (some (.ref f17))) (l17 : K.lookup f17 = some ⟨oc17, od17, .func (PySem.W.fnOf "_law_parts" "_law_parts" (defArgs (top 36)) (defBody (top 36)) (defScope (top 36)) .none kV17 dc17 pm17 an17 cd17 ct17), sl17⟩) (c17 : PySem.W.codeIn K cd17 "_law_parts" = true) (k17 : PySem.W.keepIn K (.ref f17) = true)
  {od18 an18 : Option Addr} {sl18 : Array (Option Value)} {oc18 kV18 dc18 pm18 cd18 ct18 : Value} (a18 : PySem.W.nsIn K mainGlobals "_law_spoilt" = some (some (.ref f18))) (l18 : K.lookup f18 = some ⟨oc18, od18, .func (PySem.W.fnOf "_law_spoilt" "_law_spoilt" (defArgs (top 37)) (defBody (top 37)) (defScope (top 37)) .none kV18 dc18 pm18 an18 cd18 ct18), sl18⟩) (c18 : PySem.W.codeIn K cd18 "_law_spoilt" = true) (k18 : PySem.W.keepIn K (.ref f18) = true)
  {od19 an19 : Option Addr} {sl19 : Array (Option Value)} {oc19 kV19 dc19 pm19 cd19 ct19 : Value} (a19 : PySem.W.nsIn K mainGlobals "_law_text_of" = some (some (.ref f19))) (l19 : K.lookup f19 = some ⟨oc19, od19, .func (PySem.W.fnOf "_law_text_of" "_law_text_of" (defArgs (top 38)) (defBody (top 38)) (defScope (top 38)) .none kV19 dc19 pm19 an19 cd19 ct19), sl19⟩) (c19 : PySem.W.codeIn K cd19 "_law_text_of" = true) (k19 : PySem.W.keepIn K (.ref f19) = true)
  {od20 an20 : Option Addr} {sl20 : Array (Option Value)} {oc20 kV20 dc20 pm20 cd20 ct20 : Value} (a20 : PySem.W.nsIn K mainGlobals "_law_read" = some (some (.ref f20))) (l20 : K.lookup f20 = some ⟨oc20, od20, .func (PySem.W.fnOf "_law_read" "_law_read" (defArgs (top 39)) (defBody (top 39)) (defScope (top 39)) .none kV20 dc20 pm20 an20 cd20 ct20), sl20⟩) (c20 : PySem.W.codeIn K cd20 "_law_read" = true) (k20 : PySem.W.keepIn K (.ref f20) = true)
  {od21 an21 : Option Addr} {sl21 : Array (Option Value)} {oc21 kV21 dc21 pm21 cd21 ct21 : Value} (a21 : PySem.W.nsIn K mainGlobals "_law_same" = some (some (.ref f21))) (l21 : K.lookup f21 = some ⟨oc21, od21, .func (PySem.W.fnOf "_law_same" "_law_same" (defArgs (top 40)) (defBody (top 40)) (defScope (top 40)) .none kV21 dc21 pm21 an21 cd21 ct21), sl21⟩) (c21 : PySem.W.codeIn K cd21 "_law_same" = true) (k21 : PySem.W.keepIn K (.ref f21) = true)
  {od22 an22 : Option Addr} {sl22 : Array (Option Value)} {oc22 kV22 dc22 pm22 cd22 ct22 : Value} (a22 : PySem.W.nsIn K mainGlobals "_law_due" = some (some (.ref f22))) (l22 : K.lookup f22 = some ⟨oc22, od22, .func (PySem.W.fnOf "_law_due" "_law_due" (defArgs (top 41)) (defBody (top 41)) (defScope (top 41)) .none kV22 dc22 pm22 an22 cd22 ct22), sl22⟩) (c22 : PySem.W.codeIn K cd22 "_law_due" = true) (k22 : PySem.W.keepIn K (.ref f22) = true)
  {od23 an23 : Option Addr} {sl23 : Array (Option Value)} {oc23 kV23 dc23 pm23 cd23 ct23 : Value} (a23 : PySem.W.nsIn K mainGlobals "law" = some (some (.ref f23))) (l23 : K.lookup f23 = some ⟨oc23, od23, .func (PySem.W.fnOf "law" "law" (defArgs (top 42)) (defBody (top 42)) (defScope (top 42)) .none kV23 dc23 pm23 an23 cd23 ct23), sl23⟩) (c23 : PySem.W.codeIn K cd23 "law" = true) (k23 : PySem.W.keepIn K (.ref f23) = true)
  {gv0 : Value} (g0 : PySem.W.nsIn K mainGlobals "GREAT_LETTERS" = some (some gv0))
  (gr0 : RelV (.str (txt [65, 66, 67, 68, 69, 70, 71, 72, 73, 74, 75, 76, 77, 78, 79, 80, 81, 82, 83, 84, 85, 86, 87, 88, 89, 90])) gv0)
  {gv1 : Value} (g1 : PySem.W.nsIn K mainGlobals "SMALL_LETTERS" = some (some gv1))
  (gr1 : RelV (.str (txt [97, 98, 99, 100, 101, 102, 103, 104, 105, 106, 107, 108, 109, 110, 111, 112, 113, 114, 115, 116, 117, 118, 119, 120, 121, 122])) gv1)
  {gv2 : Value} (g2 : PySem.W.nsIn K mainGlobals "SIGNS_MOST" = some (some gv2))
  (gr2 : RelV (.int 300) gv2)
  {gv3 : Value} (g3 : PySem.W.nsIn K mainGlobals "PARTS_MOST" = some (some gv3))
  (gr3 : RelV (.int 30) gv3)
  (ca0 : PySem.W.nsIn K mainGlobals "TrunkError" = some (some (.ref C0)))
  (ca1 : PySem.W.nsIn K mainGlobals "NoTree" = some (some (.ref C1)))
  (ca2 : PySem.W.nsIn K mainGlobals "NoStatement" = some (some (.ref C2)))
  (cx2 : PySem.W.excIn K C2 [.type "ValueError", .type "Exception", .type "BaseException", .type "object"] "ValueError.__new__" = true) (ck2 : PySem.W.keepIn K (.ref C2) = true) (cs2 : PySem.W.subIn K (.ref C2) (.type "BaseException") = some true) (ct2_ : PySem.W.typeIn K (.ref C2) = some (.type "type"))
  (ce2 : L2.ExcC K C2)
  (ca3 : PySem.W.nsIn K mainGlobals "NoPlace" = some (some (.ref C3)))
  (ca4 : PySem.W.nsIn K mainGlobals "NoNumber" = some (some (.ref C4)))
  (ca5 : PySem.W.nsIn K mainGlobals "TooGreat" = some (some (.ref C5)))
  (cx5 : PySem.W.excIn K C5 [.type "ValueError", .type "Exception", .type "BaseException", .type "object"] "ValueError.__new__" = true) (ck5 : PySem.W.keepIn K (.ref C5) = true) (cs5 : PySem.W.subIn K (.ref C5) (.type "BaseException") = some true) (ct5_ : PySem.W.typeIn K (.ref C5) = some (.type "type"))
  (ce5 : L2.ExcC K C5)
  (ca6 : PySem.W.nsIn K mainGlobals "NoName" = some (some (.ref C6)))
  (ca7 : PySem.W.nsIn K mainGlobals "NoLine" = some (some (.ref C7)))
  (ca8 : PySem.W.nsIn K mainGlobals "NothingDone" = some (some (.ref C8)))
  (ca9 : PySem.W.nsIn K mainGlobals "NothingHeld" = some (some (.ref C9)))
  (cu0 : PySem.W.kitOne K (.ref C2) (.type "ValueError") = some true)
  (cu1 : PySem.W.kitOne K (.ref C2) (.ref C1) = some false)
  (cu2 : PySem.W.kitOne K (.ref C2) (.ref C2) = some true)
  (cu3 : PySem.W.kitOne K (.ref C2) (.ref C3) = some false)
  (cu4 : PySem.W.kitOne K (.ref C2) (.ref C4) = some false)
  (cu5 : PySem.W.kitOne K (.ref C2) (.ref C5) = some false)
  (cu6 : PySem.W.kitOne K (.ref C2) (.ref C6) = some false)
  (cu7 : PySem.W.kitOne K (.ref C2) (.ref C7) = some false)
  (cu8 : PySem.W.kitOne K (.ref C2) (.ref C8) = some false)
  (cu9 : PySem.W.kitOne K (.ref C2) (.ref C9) = some false)
  (cu10 : PySem.W.kitOne K (.ref C5) (.type "ValueError") = some true)
  (cu11 : PySem.W.kitOne K (.ref C5) (.ref C1) = some false)
  (cu12 : PySem.W.kitOne K (.ref C5) (.ref C2) = some false)
  (cu13 : PySem.W.kitOne K (.ref C5) (.ref C3) = some false)
  (cu14 : PySem.W.kitOne K (.ref C5) (.ref C4) = some false)
  (cu15 : PySem.W.kitOne K (.ref C5) (.ref C5) = some true)
  (cu16 : PySem.W.kitOne K (.ref C5) (.ref C6) = some false)
  (cu17 : PySem.W.kitOne K (.ref C5) (.ref C7) = some false)
  (cu18 : PySem.W.kitOne K (.ref C5) (.ref C8) = some false)
  (cu19 : PySem.W.kitOne K (.ref C5) (.ref C9) = some false)
  (ch0 : PySem.W.exmOne K (.ref C2) (.ref C0) = some true)
  (ch1 : PySem.W.exmOne K (.ref C5) (.ref C0) = some true)
  (ch2 : PySem.W.exmOne K (.ref C0) (.ref C0) = some true)
  (cb0 : PySem.W.nsIn K mainGlobals "ValueError" = some none)
  (z0 : PySem.W.nsIn K mainGlobals "len" = some none)
  (z1 : PySem.W.nsIn K mainGlobals "tuple" = some none)
  (z2 : PySem.W.nsIn K mainGlobals "list" = some none)
  (z3 : PySem.W.nsIn K mainGlobals "sorted" = some none)
  (z4 : PySem.W.nsIn K mainGlobals "max" = some none)
  (z5 : PySem.W.nsIn K mainGlobals "min" = some none)
  (z6 : PySem.W.nsIn K mainGlobals "sum" = some none)
  (z7 : PySem.W.nsIn K mainGlobals "abs" = some none)
  (z8 : PySem.W.nsIn K mainGlobals "int" = some none)
  (z9 : PySem.W.nsIn K mainGlobals "ord" = some none)
  (z10 : PySem.W.nsIn K mainGlobals "str" = some none)
  (z11 : PySem.W.nsIn K mainGlobals "any" = some none)
  (z12 : PySem.W.nsIn K mainGlobals "all" = some none)
  (z13 : PySem.W.nsIn K mainGlobals "isinstance" = some none)
  (z14 : PySem.W.nsIn K mainGlobals "bool" = some none)
  (z15 : PySem.W.nsIn K mainGlobals "range" = some none)
  (z16 : PySem.W.nsIn K mainGlobals "enumerate" = some none)
  (z17 : PySem.W.nsIn K mainGlobals "zip" = some none)
  (z18 : PySem.W.nsIn K mainGlobals "set" = some none)
  (z19 : PySem.W.nsIn K mainGlobals "dict" = some none)
  (law : ∀ ns : List Int, ns.length ≤ 63 → Φ Δ fuel depth "law" [.d (.lst (ns.map .int))] [] = .ok (.d (.bl true)) []) :
  ∃ fd : FuncData, (∀ (s : Shared) (v : Value), BindsTo s fd ⟨[v], []⟩ [("_law_script", v)]) ∧ ∀ base : Heap, K.In base → base.Ns mainGlobals mg → FnOk l.prog w K mg base (L2.CX l.prog w) depth fa fd ["_law_script"] (spLaw K) := by
  have e := hfa.symm.trans (PySem.W.mg_of X G a23)
  cases e
  have T : Top Δ K mg := by
    refine ⟨fun f F hf => ?_, fun g d hg => ?_, fun n hn => ?_, fun c hc => ?_, fun c t b hc => ?_, fun c t b hc => ?_, fun f cs hc => ?_⟩
    · change fnT f = some F at hf
      unfold fnT at hf
      split at hf
      · cases hf
        have F0 := fun_mk (st := top 14) l0 c0 k0
        exact ⟨_, _, _, _, PySem.W.mg_of X G a0, F0, k_is_letter, F0.binds (ps := f_is_letter.P) fun _ _ _ _ _ _ us hl => match us, hl with | [_], _ => rfl⟩
      · cases hf
        have F1 := fun_mk (st := top 16) l1 c1 k1
        exact ⟨_, _, _, _, PySem.W.mg_of X G a1, F1, k_parts_many, F1.binds (ps := f_parts_many.P) fun _ _ _ _ _ _ us hl => match us, hl with | [_], _ => rfl⟩
      · cases hf
        have F2 := fun_mk (st := top 20) l2 c2 k2
        exact ⟨_, _, _, _, PySem.W.mg_of X G a2, F2, k_word_at, F2.binds (ps := f_word_at.P) fun _ _ _ _ _ _ us hl => match us, hl with | [_, _], _ => rfl⟩
      · cases hf
        have F3 := fun_mk (st := top 21) l3 c3 k3
        exact ⟨_, _, _, _, PySem.W.mg_of X G a3, F3, k_letter_at, F3.binds (ps := f_letter_at.P) fun _ _ _ _ _ _ us hl => match us, hl with | [_, _], _ => rfl⟩
      · cases hf
        have F4 := fun_mk (st := top 22) l4 c4 k4
        exact ⟨_, _, _, _, PySem.W.mg_of X G a4, F4, k_joined_part, F4.binds (ps := f_joined_part.P) fun _ _ _ _ _ _ us hl => match us, hl with | [_, _], _ => rfl⟩
      · cases hf
        have F5 := fun_mk (st := top 23) l5 c5 k5
        exact ⟨_, _, _, _, PySem.W.mg_of X G a5, F5, k_read_part, F5.binds (ps := f_read_part.P) fun _ _ _ _ _ _ us hl => match us, hl with | [_, _], _ => rfl⟩
      · cases hf
        have F6 := fun_mk (st := top 24) l6 c6 k6
        exact ⟨_, _, _, _, PySem.W.mg_of X G a6, F6, k_read_statement, F6.binds (ps := f_read_statement.P) fun _ _ _ _ _ _ us hl => match us, hl with | [_], _ => rfl⟩
      · cases hf
        have F7 := fun_mk (st := top 26) l7 c7 k7
        exact ⟨_, _, _, _, PySem.W.mg_of X G a7, F7, k__law_cell, F7.binds (ps := f__law_cell.P) fun _ _ _ _ _ _ us hl => match us, hl with | [_, _], _ => rfl⟩
      · cases hf
        have F8 := fun_mk (st := top 27) l8 c8 k8
        exact ⟨_, _, _, _, PySem.W.mg_of X G a8, F8, k__law_mixed, F8.binds (ps := f__law_mixed.P) fun _ _ _ _ _ _ us hl => match us, hl with | [_, _, _], _ => rfl⟩
      · cases hf
        have F9 := fun_mk (st := top 28) l9 c9 k9
        exact ⟨_, _, _, _, PySem.W.mg_of X G a9, F9, k__law_draws, F9.binds (ps := f__law_draws.P) fun _ _ _ _ _ _ us hl => match us, hl with | [_, _, _], _ => rfl⟩
      · cases hf
        have F10 := fun_mk (st := top 29) l10 c10 k10
        exact ⟨_, _, _, _, PySem.W.mg_of X G a10, F10, k__law_pool, F10.binds (ps := f__law_pool.P) fun _ _ _ _ _ _ us hl => match us, hl with | [_, _, _], _ => rfl⟩
      · cases hf
        have F11 := fun_mk (st := top 30) l11 c11 k11
        exact ⟨_, _, _, _, PySem.W.mg_of X G a11, F11, k__law_built, F11.binds (ps := f__law_built.P) fun _ _ _ _ _ _ us hl => match us, hl with | [_, _, _], _ => rfl⟩
      · cases hf
        have F12 := fun_mk (st := top 31) l12 c12 k12
        exact ⟨_, _, _, _, PySem.W.mg_of X G a12, F12, k__law_one_of, F12.binds (ps := f__law_one_of.P) fun _ _ _ _ _ _ us hl => match us, hl with | [_, _], _ => rfl⟩
      · cases hf
        have F13 := fun_mk (st := top 32) l13 c13 k13
        exact ⟨_, _, _, _, PySem.W.mg_of X G a13, F13, k__law_written, F13.binds (ps := f__law_written.P) fun _ _ _ _ _ _ us hl => match us, hl with | [_], _ => rfl⟩
      · cases hf
        have F14 := fun_mk (st := top 33) l14 c14 k14
        exact ⟨_, _, _, _, PySem.W.mg_of X G a14, F14, k__law_letter_at, F14.binds (ps := f__law_letter_at.P) fun _ _ _ _ _ _ us hl => match us, hl with | [_, _], _ => rfl⟩
      · cases hf
        have F15 := fun_mk (st := top 34) l15 c15 k15
        exact ⟨_, _, _, _, PySem.W.mg_of X G a15, F15, k__law_parsed, F15.binds (ps := f__law_parsed.P) fun _ _ _ _ _ _ us hl => match us, hl with | [_, _], _ => rfl⟩
      · cases hf
        have F16 := fun_mk (st := top 35) l16 c16 k16
        exact ⟨_, _, _, _, PySem.W.mg_of X G a16, F16, k__law_joint, F16.binds (ps := f__law_joint.P) fun _ _ _ _ _ _ us hl => match us, hl with | [_, _], _ => rfl⟩
      · cases hf
        have F17 := fun_mk (st := top 36) l17 c17 k17
        exact ⟨_, _, _, _, PySem.W.mg_of X G a17, F17, k__law_parts, F17.binds (ps := f__law_parts.P) fun _ _ _ _ _ _ us hl => match us, hl with | [_], _ => rfl⟩
      · cases hf
        have F18 := fun_mk (st := top 37) l18 c18 k18
        exact ⟨_, _, _, _, PySem.W.mg_of X G a18, F18, k__law_spoilt, F18.binds (ps := f__law_spoilt.P) fun _ _ _ _ _ _ us hl => match us, hl with | [_, _], _ => rfl⟩
      · cases hf
        have F19 := fun_mk (st := top 38) l19 c19 k19
        exact ⟨_, _, _, _, PySem.W.mg_of X G a19, F19, k__law_text_of, F19.binds (ps := f__law_text_of.P) fun _ _ _ _ _ _ us hl => match us, hl with | [_, _], _ => rfl⟩
      · cases hf
        have F20 := fun_mk (st := top 39) l20 c20 k20
        exact ⟨_, _, _, _, PySem.W.mg_of X G a20, F20, k__law_read, F20.binds (ps := f__law_read.P) fun _ _ _ _ _ _ us hl => match us, hl with | [_], _ => rfl⟩
      · cases hf
        have F21 := fun_mk (st := top 40) l21 c21 k21
        exact ⟨_, _, _, _, PySem.W.mg_of X G a21, F21, k__law_same, F21.binds (ps := f__law_same.P) fun _ _ _ _ _ _ us hl => match us, hl with | [_, _], _ => rfl⟩
      · cases hf
        have F22 := fun_mk (st := top 41) l22 c22 k22
        exact ⟨_, _, _, _, PySem.W.mg_of X G a22, F22, k__law_due, F22.binds (ps := f__law_due.P) fun _ _ _ _ _ _ us hl => match us, hl with | [_], _ => rfl⟩
      · cases hf
        have F23 := fun_mk (st := top 42) l23 c23 k23
        exact ⟨_, _, _, _, PySem.W.mg_of X G a23, F23, k_law, F23.binds (ps := f_law.P) fun _ _ _ _ _ _ us hl => match us, hl with | [_], _ => rfl⟩
      · cases hf
    · change globT g = some d at hg
      unfold globT at hg
      split at hg
      · cases hg
        exact ⟨(.str (txt [65, 66, 67, 68, 69, 70, 71, 72, 73, 74, 75, 76, 77, 78, 79, 80, 81, 82, 83, 84, 85, 86, 87, 88, 89, 90])), gv0, PySem.W.mg_of X G g0, gr0, fun H => .str _⟩
      · cases hg
        exact ⟨(.str (txt [97, 98, 99, 100, 101, 102, 103, 104, 105, 106, 107, 108, 109, 110, 111, 112, 113, 114, 115, 116, 117, 118, 119, 120, 121, 122])), gv1, PySem.W.mg_of X G g1, gr1, fun H => .str _⟩
      · cases hg
        exact ⟨(.int 300), gv2, PySem.W.mg_of X G g2, gr2, fun H => .int _⟩
      · cases hg
        exact ⟨(.int 30), gv3, PySem.W.mg_of X G g3, gr3, fun H => .int _⟩
      · cases hg
    · unfold bltNames at hn
      simp only [List.mem_cons, List.not_mem_nil, or_false] at hn
      rcases hn with rfl | rfl | rfl | rfl | rfl | rfl | rfl | rfl | rfl | rfl | rfl | rfl | rfl | rfl | rfl | rfl | rfl | rfl | rfl | rfl
      · exact PySem.W.mg_none_of X G z0
      · exact PySem.W.mg_none_of X G z1
      · exact PySem.W.mg_none_of X G z2
      · exact PySem.W.mg_none_of X G z3
      · exact PySem.W.mg_none_of X G z4
      · exact PySem.W.mg_none_of X G z5
      · exact PySem.W.mg_none_of X G z6
      · exact PySem.W.mg_none_of X G z7
      · exact PySem.W.mg_none_of X G z8
      · exact PySem.W.mg_none_of X G z9
      · exact PySem.W.mg_none_of X G z10
      · exact PySem.W.mg_none_of X G z11
      · exact PySem.W.mg_none_of X G z12
      · exact PySem.W.mg_none_of X G z13
      · exact PySem.W.mg_none_of X G z14
      · exact PySem.W.mg_none_of X G z15
      · exact PySem.W.mg_none_of X G z16
      · exact PySem.W.mg_none_of X G z17
      · exact PySem.W.mg_none_of X G z18
      · exact PySem.W.mg_none_of X G z19
    · change isxT c = true at hc
      unfold isxT at hc
      split at hc
      · exact ⟨C2, PySem.W.mg_of X G ca2, cx2, ck2, cs2, ct2_⟩
      · exact ⟨C5, PySem.W.mg_of X G ca5, cx5, ck5, cs5, ct5_⟩
      · cases hc
    · change subT c t = some _ at hc
      unfold subT at hc
      split at hc
      · cases hc
        exact ⟨C2, _, _, PySem.W.mg_of X G ca2, ce2, (.blt "ValueError" (PySem.W.mg_none_of X G cb0) (by decide +kernel) (by decide)), cu0⟩
      · cases hc
        exact ⟨C2, _, _, PySem.W.mg_of X G ca2, ce2, (.own C1 (PySem.W.mg_of X G ca1)), cu1⟩
      · cases hc
        exact ⟨C2, _, _, PySem.W.mg_of X G ca2, ce2, (.own C2 (PySem.W.mg_of X G ca2)), cu2⟩
      · cases hc
        exact ⟨C2, _, _, PySem.W.mg_of X G ca2, ce2, (.own C3 (PySem.W.mg_of X G ca3)), cu3⟩
      · cases hc
        exact ⟨C2, _, _, PySem.W.mg_of X G ca2, ce2, (.own C4 (PySem.W.mg_of X G ca4)), cu4⟩
      · cases hc
        exact ⟨C2, _, _, PySem.W.mg_of X G ca2, ce2, (.own C5 (PySem.W.mg_of X G ca5)), cu5⟩
      · cases hc
        exact ⟨C2, _, _, PySem.W.mg_of X G ca2, ce2, (.own C6 (PySem.W.mg_of X G ca6)), cu6⟩
      · cases hc
        exact ⟨C2, _, _, PySem.W.mg_of X G ca2, ce2, (.own C7 (PySem.W.mg_of X G ca7)), cu7⟩
      · cases hc
        exact ⟨C2, _, _, PySem.W.mg_of X G ca2, ce2, (.own C8 (PySem.W.mg_of X G ca8)), cu8⟩
      · cases hc
        exact ⟨C2, _, _, PySem.W.mg_of X G ca2, ce2, (.own C9 (PySem.W.mg_of X G ca9)), cu9⟩
      · cases hc
        exact ⟨C5, _, _, PySem.W.mg_of X G ca5, ce5, (.blt "ValueError" (PySem.W.mg_none_of X G cb0) (by decide +kernel) (by decide)), cu10⟩
      · cases hc
        exact ⟨C5, _, _, PySem.W.mg_of X G ca5, ce5, (.own C1 (PySem.W.mg_of X G ca1)), cu11⟩
      · cases hc
        exact ⟨C5, _, _, PySem.W.mg_of X G ca5, ce5, (.own C2 (PySem.W.mg_of X G ca2)), cu12⟩
      · cases hc
        exact ⟨C5, _, _, PySem.W.mg_of X G ca5, ce5, (.own C3 (PySem.W.mg_of X G ca3)), cu13⟩
      · cases hc
        exact ⟨C5, _, _, PySem.W.mg_of X G ca5, ce5, (.own C4 (PySem.W.mg_of X G ca4)), cu14⟩
      · cases hc
        exact ⟨C5, _, _, PySem.W.mg_of X G ca5, ce5, (.own C5 (PySem.W.mg_of X G ca5)), cu15⟩
      · cases hc
        exact ⟨C5, _, _, PySem.W.mg_of X G ca5, ce5, (.own C6 (PySem.W.mg_of X G ca6)), cu16⟩
      · cases hc
        exact ⟨C5, _, _, PySem.W.mg_of X G ca5, ce5, (.own C7 (PySem.W.mg_of X G ca7)), cu17⟩
      · cases hc
        exact ⟨C5, _, _, PySem.W.mg_of X G ca5, ce5, (.own C8 (PySem.W.mg_of X G ca8)), cu18⟩
      · cases hc
        exact ⟨C5, _, _, PySem.W.mg_of X G ca5, ce5, (.own C9 (PySem.W.mg_of X G ca9)), cu19⟩
      · cases hc
    · change hndT c t = some _ at hc
      unfold hndT at hc
      split at hc
      · cases hc
        exact ⟨C2, C0, PySem.W.mg_of X G ca2, PySem.W.mg_of X G ca0, ch0⟩
      · cases hc
        exact ⟨C5, C0, PySem.W.mg_of X G ca5, PySem.W.mg_of X G ca0, ch1⟩
      · cases hc
        exact ⟨C0, C0, PySem.W.mg_of X G ca0, PySem.W.mg_of X G ca0, ch2⟩
      · cases hc
    · exact absurd hc (by intro z; cases z)
  have FL := fun_mk (st := top 42) l23 c23 k23
  exact ⟨_, fun s v => .of_eq rfl, fun base _ _ => law_ok T (F := f_law) rfl FL k_law law⟩
end Pv.L
open PySem PySem.W PyProof.Rows Pv
theorem PySem.Challenge.cw_trunksay_k13_statement_texts_refused_holds : PySem.Challenge.rw_trunksay_k13_statement_texts_refused.Holds := by
  w_on; o_law; k_head; (case hw => w_witness2)
  k_fill
  refine Pv.walk_law (l := PySem.Challenge.rw_trunksay_k13_statement_texts_refused) (k := Pv.L.depth) (x := "_law_script") rfl rfl (by decide) (fun w h Y => PySem.W.kIn_of Y) ?F
  case F =>
    intro w mg fa h KX G hmg
    refine' Pv.L.all_mk KX G hmg ?a0 ?l0 ?c0 ?k0 ?a1 ?l1 ?c1 ?k1 ?a2 ?l2 ?c2 ?k2 ?a3 ?l3 ?c3 ?k3 ?a4 ?l4 ?c4 ?k4 ?a5 ?l5 ?c5 ?k5 ?a6 ?l6 ?c6 ?k6 ?a7 ?l7 ?c7 ?k7 ?a8 ?l8 ?c8 ?k8 ?a9 ?l9 ?c9 ?k9 ?a10 ?l10 ?c10 ?k10 ?a11 ?l11 ?c11 ?k11 ?a12 ?l12 ?c12 ?k12 ?a13 ?l13 ?c13 ?k13 ?a14 ?l14 ?c14 ?k14 ?a15 ?l15 ?c15 ?k15 ?a16 ?l16 ?c16 ?k16 ?a17 ?l17 ?c17 ?k17 ?a18 ?l18 ?c18 ?k18 ?a19 ?l19 ?c19 ?k19 ?a20 ?l20 ?c20 ?k20 ?a21 ?l21 ?c21 ?k21 ?a22 ?l22 ?c22 ?k22 ?a23 ?l23 ?c23 ?k23 ?pvg0 ?pvr0 ?pvg1 ?pvr1 ?pvg2 ?pvr2 ?pvg3 ?pvr3 ?pva0 ?pva1 ?pva2 ?pvx2 ?pvk2 ?pvs2 ?pvt2 ?pve2 ?pva3 ?pva4 ?pva5 ?pvx5 ?pvk5 ?pvs5 ?pvt5 ?pve5 ?pva6 ?pva7 ?pva8 ?pva9 ?pvu0 ?pvu1 ?pvu2 ?pvu3 ?pvu4 ?pvu5 ?pvu6 ?pvu7 ?pvu8 ?pvu9 ?pvu10 ?pvu11 ?pvu12 ?pvu13 ?pvu14 ?pvu15 ?pvu16 ?pvu17 ?pvu18 ?pvu19 ?pvh0 ?pvh1 ?pvh2 ?pvb0 ?z0 ?z1 ?z2 ?z3 ?z4 ?z5 ?z6 ?z7 ?z8 ?z9 ?z10 ?z11 ?z12 ?z13 ?z14 ?z15 ?z16 ?z17 ?z18 ?z19 Pv.L.law_true
    (case a0 => k_is); (case l0 => k_is); (case c0 => k_is); (case k0 => k_is)
    (case a1 => k_is); (case l1 => k_is); (case c1 => k_is); (case k1 => k_is)
    (case a2 => k_is); (case l2 => k_is); (case c2 => k_is); (case k2 => k_is)
    (case a3 => k_is); (case l3 => k_is); (case c3 => k_is); (case k3 => k_is)
    (case a4 => k_is); (case l4 => k_is); (case c4 => k_is); (case k4 => k_is)
    (case a5 => k_is); (case l5 => k_is); (case c5 => k_is); (case k5 => k_is)
    (case a6 => k_is); (case l6 => k_is); (case c6 => k_is); (case k6 => k_is)
    (case a7 => k_is); (case l7 => k_is); (case c7 => k_is); (case k7 => k_is)
    (case a8 => k_is); (case l8 => k_is); (case c8 => k_is); (case k8 => k_is)
    (case a9 => k_is); (case l9 => k_is); (case c9 => k_is); (case k9 => k_is)
    (case a10 => k_is); (case l10 => k_is); (case c10 => k_is); (case k10 => k_is)
    (case a11 => k_is); (case l11 => k_is); (case c11 => k_is); (case k11 => k_is)
    (case a12 => k_is); (case l12 => k_is); (case c12 => k_is); (case k12 => k_is)
    (case a13 => k_is); (case l13 => k_is); (case c13 => k_is); (case k13 => k_is)
    (case a14 => k_is); (case l14 => k_is); (case c14 => k_is); (case k14 => k_is)
    (case a15 => k_is); (case l15 => k_is); (case c15 => k_is); (case k15 => k_is)
    (case a16 => k_is); (case l16 => k_is); (case c16 => k_is); (case k16 => k_is)
    (case a17 => k_is); (case l17 => k_is); (case c17 => k_is); (case k17 => k_is)
    (case a18 => k_is); (case l18 => k_is); (case c18 => k_is); (case k18 => k_is)
    (case a19 => k_is); (case l19 => k_is); (case c19 => k_is); (case k19 => k_is)
    (case a20 => k_is); (case l20 => k_is); (case c20 => k_is); (case k20 => k_is)
    (case a21 => k_is); (case l21 => k_is); (case c21 => k_is); (case k21 => k_is)
    (case a22 => k_is); (case l22 => k_is); (case c22 => k_is); (case k22 => k_is)
    (case a23 => k_is); (case l23 => k_is); (case c23 => k_is); (case k23 => k_is)
    (case pvg0 => k_is); (case pvr0 => exact ⟨_, rfl⟩)
    (case pvg1 => k_is); (case pvr1 => exact ⟨_, rfl⟩)
    (case pvg2 => k_is); (case pvr2 => exact ⟨_, rfl⟩)
    (case pvg3 => k_is); (case pvr3 => exact ⟨_, rfl⟩)
    (case pva0 => k_is)
    (case pva1 => k_is)
    (case pva2 => k_is)
    (case pvx2 => k_exc); (case pvk2 => k_is); (case pvs2 => k_is); (case pvt2 => k_is)
    (case pve2 => (constructor <;> k_is))
    (case pva3 => k_is)
    (case pva4 => k_is)
    (case pva5 => k_is)
    (case pvx5 => k_exc); (case pvk5 => k_is); (case pvs5 => k_is); (case pvt5 => k_is)
    (case pve5 => (constructor <;> k_is))
    (case pva6 => k_is)
    (case pva7 => k_is)
    (case pva8 => k_is)
    (case pva9 => k_is)
    (case pvu0 => kit_is)
    (case pvu1 => kit_is)
    (case pvu2 => kit_is)
    (case pvu3 => kit_is)
    (case pvu4 => kit_is)
    (case pvu5 => kit_is)
    (case pvu6 => kit_is)
    (case pvu7 => kit_is)
    (case pvu8 => kit_is)
    (case pvu9 => kit_is)
    (case pvu10 => kit_is)
    (case pvu11 => kit_is)
    (case pvu12 => kit_is)
    (case pvu13 => kit_is)
    (case pvu14 => kit_is)
    (case pvu15 => kit_is)
    (case pvu16 => kit_is)
    (case pvu17 => kit_is)
    (case pvu18 => kit_is)
    (case pvu19 => kit_is)
    (case pvh0 => kts_exm)
    (case pvh1 => kts_exm)
    (case pvh2 => kts_exm)
    (case pvb0 => k_is)
    (case z0 => k_is)
    (case z1 => k_is)
    (case z2 => k_is)
    (case z3 => k_is)
    (case z4 => k_is)
    (case z5 => k_is)
    (case z6 => k_is)
    (case z7 => k_is)
    (case z8 => k_is)
    (case z9 => k_is)
    (case z10 => k_is)
    (case z11 => k_is)
    (case z12 => k_is)
    (case z13 => k_is)
    (case z14 => k_is)
    (case z15 => k_is)
    (case z16 => k_is)
    (case z17 => k_is)
    (case z18 => k_is)
    (case z19 => k_is)
#print axioms PySem.Challenge.cw_trunksay_k13_statement_texts_refused_holds

