import PyProof.Rows.All
import Wide.All
import OpenK.AllK
import Wide.FinOn
import PyProof.EqLayable
import HandS.HeadHook4
import HandS.HeadWalk
import HandS.ExcIs
import KE.KIsAll
import KE.KStateDown
import Lean
import HandS.Head0
import HandS.Head1
import HandS.Head2
import HandS.ForMost
import HandS.Exc
import HandS.Lambda
import HandS.TupAny
import HandS.TupLe
import HandS.TupMul
import HandS.Conv
import HandS.Flow
import HandS.IsInst
import HandS.Steps
import HandS.More
import HandS.SortRule
import HandS.SortInts
import HandS.Keys
import HandS.Iter
import KE.GoesEnum
import HandS.Style
import HandS.Comp
import KE.KDictWalk
import PyProof.Rows.TupDisplay
import HandS.ExcOwn
import HandS.ExcCtx
import HandS.ExcInit
import KE.KExcSuper
import HandS.HotCalls
import HandS.ExcField
import HandS.Defaults
import HandS.EndTab
import Open.Pieces
import PySem.Challenge.RW_dueslots_k03_plain_rows_and_loads_of_due
set_option Elab.async false
set_option linter.all false
set_option autoImplicit false
/-! Sim0: a small interpreter of the Python subset, over deep values and a store of handles. No model in sight. -/
namespace Sim
open PySem (Str PyData)
/-! ### values -/
inductive D where
  | non | bl (b : Bool) | int (i : Int) | str (x : Str) | tup (l : List D) | ref (r : Nat)
  | klst (l : List D)
  | clo (f i : Nat) (caps : List (Option D))
  deriving Inhabited
/-- mutable objects -/
inductive MO where
  | lst (l : List D)
  | dct (kvs : List (D × D)) (lock : Bool)
  | gone
  deriving Inhabited
abbrev Store := List MO
/-- an exception: its class (by its place in the table of classes), what -/
structure Exn where
  cls : Nat
  what : D
inductive Ex (α : Type) where
  | val (a : α)
  | exc (x : Exn)
abbrev M (α : Type) := Store → Option (Ex α × Store)
abbrev Loc := List (Option D)
def ok {α : Type} (a : α) : M α := fun S => some (.val a, S)
def stk {α : Type} : M α := fun _ => none
def bd {α β : Type} (m : M α) (f : α → M β) : M β := fun S =>
  match m S with
  | some (.val a, S1) => f a S1
  | some (.exc x, S1) => some (.exc x, S1)
  | none => none
/-- what may not raise -/
def noX {α : Type} (m : M α) : M α := fun S =>
  match m S with
  | some (.val a, S1) => some (.val a, S1)
  | _ => none
def ofO {α : Type} (o : Option α) : M α := fun S => o.map fun a => (.val a, S)
def guard' {α : Type} (c : Bool) (m : M α) : M α := fun S => if c = true then m S else none
def alloc (o : MO) : M D := fun S => some (.val (.ref S.length), S ++ [o])
/-- the list that a value is: one's own (by its handle), or one that is only read -/
def lstAt (S : Store) : D → Option (List D)
  | .ref r => match S[r]? with
    | some (.lst l) => some l
    | _ => none
  | .klst l => some l
  | _ => none
/-! ### the tree -/
inductive UOp | neg | inv deriving DecidableEq
inductive BOp | add | sub | mul | fdiv | mod | pow | shl | shr | band | bor deriving DecidableEq
inductive COp | eq | ne | lt | le | gt | ge | is | isn | mem | nmem deriving DecidableEq
inductive Bi | len | int | abs | min2 | max2 | min1 | max1 | sum | all1 | any1 | tuple | list | sorted | str deriving DecidableEq
inductive Ty | int | bool | str | tuple | list deriving DecidableEq
inductive Me | append | extend | insert | pop1 | index | remove | join | get2 | setdefault | popd2 deriving DecidableEq
mutual
inductive E where
  | var (i : Nat)
  | int (i : Int) | bl (b : Bool) | non | str (x : Str)
  | glob (x : Str) (v : D)
  | tup (es : Es) | lst (es : Es) | dct0
  | un (op : UOp) (a : E)
  | bin (op : BOp) (a b : E)
  | cmp (op : COp) (a b : E)
  | cmp2 (o1 o2 : COp) (a b c : E)
  | and (es : Es) | or (es : Es) | not (a : E)
  | ite (c a b : E)
  | call (f : Nat) (es : Es)
  | bi (f : Bi) (es : Es)
  | isi (a : E) (t : Ty)
  | meth (m : Me) (o : E) (es : Es)
  | sub (a i : E)
  | rev (a : E)
  | slU (a hi : E) | slL (a lo : E) | slB (a lo hi : E)
  | lrg1 (a : E) | lrg2 (a b : E) | trg1 (a : E) | trg2 (a b : E)
  | comp (own : List Nat) (elt : E) (tg : Tg) (it : It) (ifs : Es)
  | compD (own : List Nat) (elt : E) (tg : Tg) (k : Bool) (i : Nat) (ifs : Es)
  | dct (es : Es)
inductive Es where
  | nil | cons (e : E) (r : Es)
  | lam (i : Nat) (r : Es)
  | pass (i : Nat) (r : Es)
inductive Tg where
  | name (i : Nat) | tup (ts : Tgs) | sub (o i : E)
inductive Tgs where
  | nil | cons (t : Tg) (r : Tgs)
inductive It where
  | seq (e : E) | rg1 (a : E) | rg2 (a b : E) | rg3 (a b c : E) | enum (e : E) | items (e : E) | values (e : E)
end
mutual
inductive S where
  | asg (tg : Tg) (e : E)
  | aug (i : Nat) (op : BOp) (e : E)
  | augS (o i : E) (op : BOp) (e : E)
  | expr (e : E)
  | ret (e : E) | ret0
  | ite (c : E) (a b : Ss)
  | for (tg : Tg) (it : It) (b : Ss)
  | forD (tg : Tg) (k : Bool) (i : Nat) (b : Ss)
  | whl (c : E) (b : Ss)
  | brk | cont | pass
  | raise (c : Nat) (e : E)
  | tryB (b : Ss) (cs : List Nat) (v : D)
  | tryW (b : Ss) (cs : List Nat)
  | heard (i : Nat) (told : Str) (g : List (Str × Nat)) (rs : List Nat)
inductive Ss where
  | nil | cons (s : S) (r : Ss)
end
/-! ### operations by values -/
def LIM : Nat := 16777216
def flat : D → Bool
  | .non | .bl _ | .int _ | .str _ => true
  | _ => false
def eqF : D → D → Bool
  | .non, .non => true
  | .bl a, .bl b => a == b
  | .bl a, .int b => (if a then 1 else 0) == b
  | .int a, .bl b => a == (if b then 1 else 0)
  | .int a, .int b => a == b
  | .str a, .str b => a == b
  | _, _ => false
mutual
def pd (S : Store) : Nat → D → Option PyData
  | 0, _ => none
  | _ + 1, .non => some .none
  | _ + 1, .bl b => some (.bool b)
  | _ + 1, .int i => some (.int i)
  | _ + 1, .str x => some (.str x)
  | n + 1, .tup l => (pdA S n l).map .tuple
  | n + 1, .ref r => match S[r]? with
    | some (.lst l) => (pdA S n l).map .list
    | _ => none
  | n + 1, .klst l => (pdA S n l).map .list
  | _ + 1, .clo .. => none
def pdA (S : Store) : Nat → List D → Option (List PyData)
  | _, [] => some []
  | 0, _ :: _ => none
  | n + 1, x :: xs => match pd S n x, pdA S n xs with
    | some d, some ds => some (d :: ds)
    | _, _ => none
end
def eqDp (S : Store) (a b : D) : Option Bool :=
  match pd S 1000 a, pd S 1000 b with
  | some d, some e => if PySem.SeqAt.shaped d && PySem.SeqAt.shaped e then some (PyData.eqv d e) else none
  | _, _ => none
def eqD (S : Store) (a b : D) : Option Bool := if flat a && flat b then some (eqF a b) else eqDp S a b
def lexLt : List Int → List Int → Bool
  | [], [] => false
  | [], _ :: _ => true
  | _ :: _, [] => false
  | x :: xs, y :: ys => if x = y then lexLt xs ys else decide (x < y)
def lexLe : List Int → List Int → Bool
  | [], _ => true
  | _ :: _, [] => false
  | x :: xs, y :: ys => if x = y then lexLe xs ys else decide (x ≤ y)
def intsL : List D → Option (List Int)
  | [] => some []
  | .int i :: r => (intsL r).map (i :: ·)
  | _ :: _ => none
def ltOp (op : COp) (ns ms : List Int) : Option Bool := match op with
  | .lt => some (lexLt ns ms)
  | .le => some (lexLe ns ms)
  | _ => none
def ltD (op : COp) (a b : D) : Option Bool :=
  match a, b with
  | .int i, .int j => match op with
    | .lt => some (decide (i < j)) | .le => some (decide (i ≤ j)) | .gt => some (decide (j < i)) | .ge => some (decide (j ≤ i)) | _ => none
  | .tup l, .tup m => match intsL l, intsL m with
    | some ns, some ms => ltOp op ns ms
    | _, _ => none
  | _, _ => none
def memD (S : Store) (x y : D) : Option Bool :=
  match y with
  | .tup l => if flat x && l.all flat then some (l.any fun z => eqF z x) else none
  | y => match lstAt S y with
    | some l => if flat x && l.all flat then some (l.any fun z => eqF z x) else none
    | none => none
def isD (a b : D) : Option Bool := match b with
  | .non => match a with
    | .non => some true
    | _ => some false
  | .bl c => match a with
    | .bl d => some (d == c)
    | _ => some false
  | _ => none
def cmpD (op : COp) (a b : D) : M D := fun S =>
  (match op with
    | .eq => eqD S a b
    | .ne => (eqD S a b).map (!·)
    | .is => isD a b
    | .isn => (isD a b).map (!·)
    | .mem => memD S a b
    | .nmem => (memD S a b).map (!·)
    | op => ltD op a b).map fun c => (.val (.bl c), S)
def mulOk (i j : Int) : Prop := (-(2 ^ 64) < i ∧ i < 2 ^ 64) ∨ (-(2 ^ 64) < j ∧ j < 2 ^ 64)
instance (i j : Int) : Decidable (mulOk i j) := by unfold mulOk; infer_instance
def tupOk (l : List D) : Option D := if l.length ≤ LIM then some (.tup l) else none
def binD (op : BOp) (a b : D) : M D := fun S =>
  match op, a, b with
  | .add, .int i, .int j => ok (.int (i + j)) S
  | .sub, .int i, .int j => ok (.int (i - j)) S
  | .mul, .int i, .int j => if mulOk i j then ok (.int (i * j)) S else none
  | .fdiv, .int i, .int j => if j ≠ 0 ∧ j.natAbs < 1073741824 then ok (.int (i.fdiv j)) S else none
  | .mod, .int i, .int j => if j ≠ 0 then ok (.int (i.fmod j)) S else none
  | .pow, .int i, .int j => if 0 ≤ j ∧ j ≤ 1000000 ∧ i.natAbs < 2 ^ 64 then ok (.int (i ^ j.toNat)) S else none
  | .add, .str x, .str y => if x.length + y.length ≤ LIM then ok (.str (x ++ y)) S else none
  | .add, .tup l, .tup m => if l.length + m.length ≤ LIM then ok (.tup (l ++ m)) S else none
  | .mul, .tup l, .int k => if 2 ≤ k ∧ k ≤ 1000 ∧ l ≠ [] ∧ l.length ≤ 1000 then ok (.tup (List.replicate k.toNat l).flatten) S else none
  | .add, .ref r, .ref q => match S[r]?, S[q]? with
    | some (.lst l), some (.lst m) => if l.length + m.length ≤ LIM then alloc (.lst (l ++ m)) S else none
    | _, _ => none
  | _, _, _ => none
def unD (op : UOp) (a : D) : M D := match op, a with
  | .neg, .int i => ok (.int (-i))
  | _, _ => stk
def keyOk : D → Bool
  | .int _ | .str _ => true
  | _ => false
/-- truth -/
def truD (S : Store) : D → Option Bool
  | .non => some false
  | .bl b => some b
  | .int i => some (i != 0)
  | .str x => if x.length ≤ LIM then some ((x.length : Int) != 0) else none
  | .tup l => some (!l.isEmpty)
  | .ref r => match S[r]? with
    | some (.lst l) => some (!l.isEmpty)
    | some (.dct kvs _) => if kvs.all fun p => keyOk p.1 then some (!kvs.isEmpty) else none
    | _ => none
  | .klst l => some (!l.isEmpty)
  | .clo .. => none
def tru (d : D) : M Bool := fun S => (truD S d).map fun b => (.val b, S)
def ixN (n : Nat) (i : Int) : Option Nat := if 0 ≤ i then (if i < n then some i.toNat else none) else if -(n : Int) ≤ i then some (i + n).toNat else none
def keyT : D → Bool
  | .tup l => l.all keyOk
  | _ => false
mutual
def beqD : D → D → Bool
  | .non, .non => true
  | .bl a, .bl b => a == b
  | .int a, .int b => a == b
  | .str a, .str b => a == b
  | .tup a, .tup b => beqL a b
  | .ref a, .ref b => a == b
  | .klst a, .klst b => beqL a b
  | .clo f i c, .clo g j d => f == g && i == j && beqC c d
  | _, _ => false
def beqL : List D → List D → Bool
  | [], [] => true
  | x :: xs, y :: ys => beqD x y && beqL xs ys
  | _, _ => false
def beqC : List (Option D) → List (Option D) → Bool
  | [], [] => true
  | some x :: xs, some y :: ys => beqD x y && beqC xs ys
  | none :: xs, none :: ys => beqC xs ys
  | _, _ => false
end
def dLook (k : D) : List (D × D) → Option D
  | [] => none
  | (q, v) :: r => if beqD q k then some v else dLook k r
def dPut (k v : D) : List (D × D) → List (D × D)
  | [] => [(k, v)]
  | (q, u) :: r => if beqD q k then (q, v) :: r else (q, u) :: dPut k v r
/-- a key fits a dict: all its keys are plain ones, or all are tuples of plain ones -/
def keyFits (k : D) (kvs : List (D × D)) : Bool := (keyOk k && kvs.all fun p => keyOk p.1) || (keyT k && kvs.all fun p => keyT p.1)
def subD (a i : D) : M D := fun S =>
  match a, i with
  | .tup l, .int k => ((ixN l.length k).bind fun j => l[j]?).map fun v => (.val v, S)
  | .ref r, k => match S[r]? with
    | some (.lst l) => match k with
      | .int k => ((ixN l.length k).bind fun j => l[j]?).map fun v => (.val v, S)
      | _ => none
    | some (.dct kvs _) => if keyFits k kvs then (dLook k kvs).map fun v => (.val v, S) else none
    | _ => none
  | .klst l, .int k => ((ixN l.length k).bind fun j => l[j]?).map fun v => (.val v, S)
  | _, _ => none
def setD (o i v : D) : M Unit := fun S =>
  match o with
  | .ref r => match S[r]? with
    | some (.lst l) => match i with
      | .int k => (ixN l.length k).map fun j => (.val (), S.set r (.lst (l.set j v)))
      | _ => none
    | some (.dct kvs lock) => if !lock && keyFits i kvs && decide (kvs.length < 1000000) then some (.val (), S.set r (.dct (dPut i v kvs) lock)) else none
    | _ => none
  | _ => none
/-- the ends of a slice -/
def sIx (n d : Nat) : Option Int → Nat
  | none => d
  | some v => if v < 0 then (v + (n : Int)).toNat else min v.toNat n
def cut (l : List D) (lo hi : Option Int) : List D := (l.drop (sIx l.length 0 lo)).take (sIx l.length l.length hi - sIx l.length 0 lo)
def slD (a : D) (lo hi : Option Int) : M D := fun S =>
  match a with
  | .tup l => ok (.tup (cut l lo hi)) S
  | x => match lstAt S x with
    | some l => alloc (.lst (cut l lo hi)) S
    | none => none
def revD : D → M D
  | .tup l => ok (.tup l.reverse)
  | _ => stk
def rangeL (a : Int) (n : Nat) : List D := (List.range n).map fun (i : Nat) => D.int (a + (i : Int))
def enumL : Nat → List D → List D
  | _, [] => []
  | i, d :: r => .tup [.int i, d] :: enumL (i + 1) r
def small62 (i : Int) : Bool := decide (-(2 ^ 62) ≤ i ∧ i < 2 ^ 62)
def slU (a : D) : D → M D
  | .int j => slD a none (some j)
  | _ => stk
def slL (a : D) : D → M D
  | .int j => slD a (some j) none
  | _ => stk
def intM : D → M Int
  | .int i => ok i
  | _ => stk
def slB (a : D) (i : Int) : D → M D
  | .int j => slD a (some i) (some j)
  | _ => stk
def lrg1 : D → M D
  | .int n => guard' (decide (n ≤ 1000000) && small62 n) (alloc (.lst (rangeL 0 n.toNat)))
  | _ => stk
def lrg2 : D → D → M D
  | .int i, .int j => guard' (decide (j - i ≤ 1000000) && small62 i && small62 j) (alloc (.lst (rangeL i (j - i).toNat)))
  | _, _ => stk
def trg1 : D → M D
  | .int n => guard' (decide (n ≤ 1000000) && small62 n) (ok (.tup (rangeL 0 n.toNat)))
  | _ => stk
def trg2 : D → D → M D
  | .int i, .int j => guard' (decide (j - i ≤ 1000000) && small62 i && small62 j) (ok (.tup (rangeL i (j - i).toNat)))
  | _, _ => stk
def insertL (x : D) (lt : D → D → Bool) : List D → List D
  | [] => [x]
  | y :: r => if lt x y then x :: y :: r else y :: insertL x lt r
def sortL (lt : D → D → Bool) : List D → List D
  | [] => []
  | x :: r => insertL x lt (sortL lt r)
/-- what sorts: intsL, or tuples of one length of intsL -/
def sortKey : D → Option (List Int)
  | .int i => some [i]
  | .tup l => intsL l
  | _ => none
def allInts (l : List D) : Bool := l.all fun | .int _ => true | _ => false
def tupsOf (n : Nat) (l : List D) : Bool := l.all fun | .tup m => (intsL m).isSome && decide (m.length = n) | _ => false
def ltK (x y : D) : Bool := match sortKey x, sortKey y with
  | some a, some b => lexLt a b
  | _, _ => false
def sortD (l : List D) : Option (List D) :=
  if allInts l then some (sortL ltK l)
  else match l with
    | .tup m :: _ => if decide (1 ≤ m.length) && tupsOf m.length l && decide (l.length ≤ 1000000) then some (sortL ltK l) else none
    | _ => none
def sumL : List D → Option Int
  | [] => some 0
  | .int i :: r => (sumL r).map (i + ·)
  | _ :: _ => none
def strsL : List D → Option (List Str)
  | [] => some []
  | .str x :: r => (strsL r).map (x :: ·)
  | _ :: _ => none
def boolsL : List D → Option (List Bool)
  | [] => some []
  | .bl b :: r => (boolsL r).map (b :: ·)
  | _ :: _ => none
def intKey : D → Bool
  | .int _ => true
  | _ => false
def biD (f : Bi) (as : List D) : M D := fun S =>
  match f, as with
  | .len, [x] => match x with
    | .tup l => ok (.int l.length) S
    | .str x => if x.length ≤ LIM then ok (.int x.length) S else none
    | .klst l => ok (.int l.length) S
    | .ref r => match S[r]? with
      | some (.lst l) => ok (.int l.length) S
      | some (.dct kvs _) => if kvs.all fun p => keyOk p.1 then ok (.int kvs.length) S else none
      | _ => none
    | _ => none
  | .int, [x] => match x with
    | .int i => ok (.int i) S
    | .bl b => ok (.int (if b then 1 else 0)) S
    | _ => none
  | .abs, [x] => match x with
    | .int i => ok (.int (if i < 0 then -i else i)) S
    | _ => none
  | .min2, [x, y] => match x, y with
    | .int i, .int j => ok (.int (if j < i then j else i)) S
    | _, _ => none
  | .max2, [x, y] => match x, y with
    | .int i, .int j => ok (.int (if j > i then j else i)) S
    | _, _ => none
  | .tuple, [x] => match x with
    | .tup l => ok (.tup l) S
    | x => match lstAt S x with
      | some l => ok (.tup l) S
      | none => none
  | .list, [x] => match x with
    | .tup l => alloc (.lst l) S
    | x => match lstAt S x with
      | some l => alloc (.lst l) S
      | none => none
  | .sorted, [x] => match x with
    | .ref r => match S[r]? with
      | some (.lst l) => (sortD l).bind fun m => alloc (.lst m) S
      | some (.dct kvs _) => if (kvs.all fun p => keyT p.1) = true then (sortD (kvs.map (·.1))).bind fun m => alloc (.lst m) S else if ((kvs.all fun p => intKey p.1) && decide (kvs.length ≤ 1000000)) = true then alloc (.lst (sortL ltK (kvs.map (·.1)))) S else none
      | _ => none
    | _ => none
  | .any1, [x] => match lstAt S x with
    | some l => (boolsL l).map fun bs => (.val (.bl (bs.any id)), S)
    | none => none
  | .all1, [x] => match lstAt S x with
    | some l => (boolsL l).map fun bs => (.val (.bl (bs.all id)), S)
    | none => none
  | .sum, [x] => match lstAt S x with
    | some l => (sumL l).map fun n => (.val (.int n), S)
    | none => none
  | _, _ => none
def isiD (t : Ty) (S : Store) : D → Option Bool
  | .non => some false
  | .bl _ => some (t == .int || t == .bool)
  | .int _ => some (t == .int)
  | .str _ => some (t == .str)
  | .tup _ => some (t == .tuple)
  | .ref r => match S[r]? with
    | some (.lst _) => some (t == .list)
    | _ => none
  | .klst _ => some (t == .list)
  | .clo .. => none
def methD (m : Me) (o : D) (as : List D) : M D := fun S =>
  match m, o, as with
  | .append, .ref r, [x] => match S[r]? with
    | some (.lst l) => if l.length < LIM then some (.val .non, S.set r (.lst (l ++ [x]))) else none
    | _ => none
  | .extend, .ref r, [y] => match S[r]?, y with
    | some (.lst l), .ref q => match S[q]? with
      | some (.lst k) => if l.length + k.length ≤ LIM then some (.val .non, S.set r (.lst (l ++ k))) else none
      | _ => none
    | _, _ => none
  | .insert, .ref r, [i, x] => match S[r]?, i with
    | some (.lst l), .int i => if 0 ≤ i ∧ i ≤ l.length ∧ l.length < LIM then some (.val .non, S.set r (.lst (l.take i.toNat ++ x :: l.drop i.toNat))) else none
    | _, _ => none
  | .get2, .ref r, [k, x] => match S[r]? with
    | some (.dct kvs _) => if keyFits k kvs then ok ((dLook k kvs).getD x) S else none
    | _ => none
  | .join, .str x, [y] => match lstAt S y with
    | some l => match strsL l with
      | some xs => if (xs.map (·.length)).sum + xs.length * x.length ≤ LIM then ok (.str (PySem.Str.join x xs)) S else none
      | none => none
    | none => none
  | _, _, _ => none
def isiM (t : Ty) (x : D) : M D := fun S => (isiD t S x).map fun b => (.val (.bl b), S)
/-- what a method's owner is -/
def mTy (m : Me) (o : D) : M Unit := fun S =>
  match m, o with
  | .append, .ref r | .extend, .ref r | .insert, .ref r => match S[r]? with
    | some (.lst _) => ok () S
    | _ => none
  | .get2, .ref r => match S[r]? with
    | some (.dct _ _) => ok () S
    | _ => none
  | .join, .str _ => ok () S
  | _, _ => none
/-! ### the interpreter -/
structure Orc where
  call : Nat → List D → M D
  clo : Nat → Nat → Loc → M D
  me : Nat
  caps : Nat → List Nat
def getL (L : Loc) (i : Nat) : Option D := (L[i]?).bind id
def getV (L : Loc) (i : Nat) : Option D := match getL L i with
  | some (.clo _ _ _) => none
  | o => o
def getC (L : Loc) (i : Nat) : Option D := match getL L i with
  | some (.clo f j c) => some (.clo f j c)
  | _ => none
def restrict (cs : List Nat) (L : Loc) : Loc := cs.map fun i => getV L i
def wipeL (own : List Nat) (L : Loc) : Loc := own.foldr (fun i L => L.set i none) L
/-- what a for or a comprehension walks: the items; the list (or dict) that must stand still -/
structure Src where
  items : List D
  at_ : Option (Nat × List D)
def still (src : Src) (S : Store) : Bool := match src.at_ with
  | none => true
  | some (r, l) => match S[r]? with
    | some (.lst m) => beqL m l
    | _ => false
def seqS (x : D) : M Src := fun S => match x with
  | .tup l => ok ⟨l, none⟩ S
  | .klst l => ok ⟨l, none⟩ S
  | .ref r => match S[r]? with
    | some (.lst l) => ok ⟨l, some (r, l)⟩ S
    | _ => none
  | _ => none
def enumS (x : D) : M Src := fun S => match x with
  | .tup l => ok ⟨enumL 0 l, none⟩ S
  | .klst l => ok ⟨enumL 0 l, none⟩ S
  | .ref r => match S[r]? with
    | some (.lst l) => ok ⟨enumL 0 l, some (r, l)⟩ S
    | _ => none
  | _ => none
def rgS1 : D → M Src
  | .int n => guard' (small62 n) (ok ⟨rangeL 0 n.toNat, none⟩)
  | _ => stk
def rgS2 : D → D → M Src
  | .int i, .int j => guard' (small62 i && small62 j) (ok ⟨rangeL i (j - i).toNat, none⟩)
  | _, _ => stk
def rgS3 : D → D → D → M Src
  | .int i, .int j, .int k => guard' (k == -1 && small62 i && small62 j) (ok ⟨(List.range (i - j).toNat).map fun (k : Nat) => D.int (i - (k : Int)), none⟩)
  | _, _, _ => stk
def pushO (y : Option D) (ys : List D) : List D := match y with
  | some y => y :: ys
  | none => ys
/-- a comprehension's turns -/
def cmpRun (f : D → Loc → M (Option D)) (src : Src) (L : Loc) : List D → M (List D)
  | [] => fun S => if still src S = true then some (.val [], S) else none
  | d :: r => fun S => if still src S = true then bd (f d L) (fun y => bd (cmpRun f src L r) (fun ys => ok (pushO y ys))) S else none
/-- what a dict's walk tells: its values, or its pairs -/
def dItems (k : Bool) (kvs : List (D × D)) : List D := if k = true then kvs.map fun p => .tup [p.1, p.2] else kvs.map (·.2)
/-- a dict taken away while m runs, and put back -/
def away (r : Nat) (mo : MO) (m : M D) : M D := fun S => match m (S.set r .gone) with
  | some (.val d, S1) => some (.val d, S1.set r mo)
  | x => x
def awayD (d : Option D) (f : List (D × D) → M D) : M D := fun S => match d with
  | some (.ref r) => match S[r]? with
    | some (.dct kvs false) => away r (.dct kvs false) (f kvs) S
    | _ => none
  | _ => none
/-- a dict made of keys and values, in turn -/
def pairsL : List D → Option (List (D × D))
  | [] => some []
  | [_] => none
  | k :: v :: r => (pairsL r).map ((k, v) :: ·)
def dMake (ds : List D) : M D := fun S => match pairsL ds with
  | some ps => if ((ps.all fun p => keyOk p.1) || (ps.all fun p => keyT p.1)) && !ps.isEmpty && decide (ps.length ≤ 15) then alloc (.dct (ps.foldl (fun kvs p => dPut p.1 p.2 kvs) []) false) S else none
  | none => none
mutual
def evE (O : Orc) : E → Loc → M D
  | .var i, L => ofO (getV L i)
  | .int i, _ => ok (.int i)
  | .bl b, _ => ok (.bl b)
  | .non, _ => ok .non
  | .str x, _ => ok (.str x)
  | .glob _ v, _ => ok v
  | .tup es, L => bd (evEs O es L) fun ds => ok (.tup ds)
  | .lst es, L => bd (evEs O es L) fun ds => alloc (.lst ds)
  | .dct0, _ => alloc (.dct [] false)
  | .un op a, L => bd (evE O a L) (unD op)
  | .bin op a b, L => bd (evE O a L) fun x => bd (evE O b L) fun y => binD op x y
  | .cmp op a b, L => bd (evE O a L) fun x => bd (evE O b L) fun y => cmpD op x y
  | .cmp2 o1 o2 a b c, L => bd (evE O a L) fun x => bd (evE O b L) fun y => bd (cmpD o1 x y) fun k => bd (tru k) fun t =>
      if t = true then bd (evE O c L) fun z => cmpD o2 y z else ok (.bl false)
  | .and es, L => evAnd O es L
  | .or es, L => evOr O es L
  | .not a, L => bd (evE O a L) fun x => bd (tru x) fun b => ok (.bl (!b))
  | .ite c a b, L => bd (evE O c L) fun x => bd (tru x) fun t => if t = true then evE O a L else evE O b L
  | .call f es, L => bd (evEs O es L) fun ds => O.call f ds
  | .bi f es, L => bd (evEs O es L) fun ds => biD f ds
  | .isi a t, L => bd (evE O a L) (isiM t)
  | .meth m o es, L => bd (evE O o L) fun x => bd (mTy m x) fun _ => bd (evEs O es L) fun ds => methD m x ds
  | .sub a i, L => bd (evE O a L) fun x => bd (evE O i L) fun y => subD x y
  | .rev a, L => bd (evE O a L) revD
  | .slU a hi, L => bd (evE O a L) fun x => bd (evE O hi L) fun y => slU x y
  | .slL a lo, L => bd (evE O a L) fun x => bd (evE O lo L) fun y => slL x y
  | .slB a lo hi, L => bd (evE O a L) fun x => bd (evE O lo L) fun y => bd (intM y) fun i => bd (evE O hi L) fun z => slB x i z
  | .lrg1 a, L => bd (evE O a L) lrg1
  | .lrg2 a b, L => bd (evE O a L) fun x => bd (evE O b L) fun y => lrg2 x y
  | .trg1 a, L => bd (evE O a L) trg1
  | .trg2 a b, L => bd (evE O a L) fun x => bd (evE O b L) fun y => trg2 x y
  | .comp own elt tg it ifs, L => bd (evIt O it L) fun src =>
      guard' (decide (src.items.length ≤ 1000000)) (bd (noX (cmpRun (fun d L1 => bd (asg O tg d L1) fun L2 => bd (evIfs O ifs L2) fun b => if b = true then bd (evE O elt L2) fun y => ok (some y) else ok none)
        src (wipeL own L) src.items)) fun ys => alloc (.lst ys))
  | .compD own elt tg k i ifs, L => awayD (getV L i) fun kvs =>
      guard' (decide ((dItems k kvs).length ≤ 1000000)) (bd (noX (cmpRun (fun d L1 => bd (asg O tg d L1) fun L2 => bd (evIfs O ifs L2) fun b => if b = true then bd (evE O elt L2) fun y => ok (some y) else ok none)
        ⟨dItems k kvs, none⟩ (wipeL own L) (dItems k kvs))) fun ys => alloc (.lst ys))
  | .dct es, L => bd (evEs O es L) dMake
def evEs (O : Orc) : Es → Loc → M (List D)
  | .nil, _ => ok []
  | .cons e r, L => bd (evE O e L) fun d => bd (evEs O r L) fun ds => ok (d :: ds)
  | .lam i r, L => bd (evEs O r L) fun ds => ok (.clo O.me i (restrict (O.caps i) L) :: ds)
  | .pass i r, L => bd (ofO (getC L i)) fun d => bd (evEs O r L) fun ds => ok (d :: ds)
def evAnd (O : Orc) : Es → Loc → M D
  | .nil, _ => stk
  | .cons e .nil, L => evE O e L
  | .cons e r, L => bd (evE O e L) fun x => bd (tru x) fun b => if b = true then evAnd O r L else ok x
  | .lam _ _, _ => stk
  | .pass _ _, _ => stk
def evOr (O : Orc) : Es → Loc → M D
  | .nil, _ => stk
  | .cons e .nil, L => evE O e L
  | .cons e r, L => bd (evE O e L) fun x => bd (tru x) fun b => if b = true then ok x else evOr O r L
  | .lam _ _, _ => stk
  | .pass _ _, _ => stk
def evIfs (O : Orc) : Es → Loc → M Bool
  | .nil, _ => ok true
  | .cons e r, L => bd (evE O e L) fun x => bd (tru x) fun b => if b = true then evIfs O r L else ok false
  | .lam _ _, _ => stk
  | .pass _ _, _ => stk
def evIt (O : Orc) : It → Loc → M Src
  | .seq e, L => bd (evE O e L) seqS
  | .rg1 a, L => bd (evE O a L) rgS1
  | .rg2 a b, L => bd (evE O a L) fun x => bd (evE O b L) fun y => rgS2 x y
  | .rg3 a b c, L => bd (evE O a L) fun x => bd (evE O b L) fun y => bd (evE O c L) fun z => rgS3 x y z
  | .enum e, L => bd (evE O e L) enumS
  | .items _, _ => stk
  | .values _, _ => stk
def asg (O : Orc) : Tg → D → Loc → M Loc
  | .name i, d, L => if i < L.length then ok (L.set i (some d)) else stk
  | .tup ts, d, L => match d with
      | .tup l => asgs O ts l L
      | _ => stk
  | .sub o i, d, L => noX (bd (evE O o L) fun x => bd (evE O i L) fun y => bd (setD x y d) fun _ => ok L)
def asgs (O : Orc) : Tgs → List D → Loc → M Loc
  | .nil, l, L => if l.isEmpty then ok L else stk
  | .cons t r, l, L => match l with
      | d :: l' => bd (asg O t d L) fun L1 => asgs O r l' L1
      | [] => stk
end
/-! ### statements -/
inductive Out where
  | nx | bk | ct | ret (d : D) | exc (x : Exn)
abbrev R := Option (Out × Loc × Store)
def ex {α : Type} (m : M α) (L : Loc) (S : Store) (k : α → Store → R) : R :=
  match m S with
  | some (.val a, S1) => k a S1
  | some (.exc x, S1) => some (.exc x, L, S1)
  | none => none
def forRun (f : D → Loc → Store → R) (src : Src) : List D → Loc → Store → R
  | [], L, S => if still src S = true then some (.nx, L, S) else none
  | d :: r, L, S => if still src S = true then
      match f d L S with
      | some (.nx, L1, S1) => forRun f src r L1 S1
      | some (.ct, L1, S1) => forRun f src r L1 S1
      | some (.bk, L1, S1) => some (.nx, L1, S1)
      | x => x
    else none
def whlRun (c : Loc → M Bool) (f : Loc → Store → R) : Nat → Loc → Store → R
  | 0, _, _ => none
  | n + 1, L, S => ex (c L) L S fun b S1 => if b = true then
      match f L S1 with
      | some (.nx, L1, S2) => whlRun c f n L1 S2
      | some (.ct, L1, S2) => whlRun c f n L1 S2
      | some (.bk, L1, S2) => some (.nx, L1, S2)
      | x => x
    else some (.nx, L, S1)
/-- a dict taken away while a run goes on, and put back if it ends in no exception -/
def awayR (r : Nat) (mo : MO) (f : Store → R) (S : Store) : R := match f (S.set r .gone) with
  | some (.exc x, L, S1) => some (.exc x, L, S1)
  | some (o, L, S1) => some (o, L, S1.set r mo)
  | none => none
def awayF (d : Option D) (S : Store) (f : List (D × D) → Store → R) : R := match d with
  | some (.ref r) => match S[r]? with
    | some (.dct kvs false) => awayR r (.dct kvs false) (f kvs) S
    | _ => none
  | _ => none
def names (x : Exn) (g : List (Str × Nat)) : List Str := (g.filter fun p => p.2 == x.cls).map (·.1)
def blank : Str := ⟨#[32]⟩
mutual
def evS (O : Orc) (W : Nat) : S → Loc → Store → R
  | .asg tg e, L, S => ex (evE O e L) L S fun d S1 => ex (asg O tg d L) L S1 fun L1 S2 => some (.nx, L1, S2)
  | .aug i op e, L, S => match getV L i with
    | some x => ex (evE O e L) L S fun y S1 => ex (binD op x y) L S1 fun z S2 => some (.nx, L.set i (some z), S2)
    | none => none
  | .augS o i op e, L, S => ex (evE O o L) L S fun x S1 => ex (evE O i L) L S1 fun y S2 => ex (subD x y) L S2 fun old S3 => ex (evE O e L) L S3 fun v S4 =>
      ex (binD op old v) L S4 fun z S5 => ex (setD x y z) L S5 fun _ S6 => some (.nx, L, S6)
  | .expr e, L, S => ex (evE O e L) L S fun _ S1 => some (.nx, L, S1)
  | .ret e, L, S => ex (evE O e L) L S fun d S1 => some (.ret d, L, S1)
  | .ret0, L, S => some (.ret .non, L, S)
  | .ite c a b, L, S => ex (bd (evE O c L) tru) L S fun t S1 => if t = true then evSs O W a L S1 else evSs O W b L S1
  | .for tg it b, L, S => ex (evIt O it L) L S fun src S1 => forRun (fun d L1 S2 => ex (asg O tg d L1) L1 S2 fun L2 S3 => evSs O W b L2 S3) src src.items L S1
  | .forD tg k i b, L, S => awayF (getV L i) S fun kvs S1 => forRun (fun d L1 S2 => ex (asg O tg d L1) L1 S2 fun L2 S3 => evSs O W b L2 S3) ⟨dItems k kvs, none⟩ (dItems k kvs) L S1
  | .whl c b, L, S => whlRun (fun L1 => bd (evE O c L1) tru) (fun L1 S1 => evSs O W b L1 S1) W L S
  | .brk, L, S => some (.bk, L, S)
  | .cont, L, S => some (.ct, L, S)
  | .pass, L, S => some (.nx, L, S)
  | .raise c e, L, S => ex (evE O e L) L S fun d S1 => some (.exc ⟨c, d⟩, L, S1)
  | .tryB b cs v, L, S => match evSs O W b L S with
    | some (.exc x, L1, S1) => if cs.contains x.cls then some (.ret v, L1, S1) else some (.exc x, L1, S1)
    | r => r
  | .tryW b cs, L, S => match evSs O W b L S with
    | some (.exc x, L1, S1) => if cs.contains x.cls then some (.ret x.what, L1, S1) else some (.exc x, L1, S1)
    | r => r
  | .heard i told g rs, L, S => match (match getL L i with | some (.clo f j caps) => O.clo f j caps | _ => stk) S with
    | some (.val d, S1) => some (.ret (.tup [.str told, d]), L, S1)
    | some (.exc x, S1) => if rs.contains x.cls then some (.ret (.tup [.str (PySem.Str.join blank (names x g)), x.what]), L, S1) else none
    | none => none
def evSs (O : Orc) (W : Nat) : Ss → Loc → Store → R
  | .nil, L, S => some (.nx, L, S)
  | .cons s r, L, S => match evS O W s L S with
    | some (.nx, L1, S1) => evSs O W r L1 S1
    | x => x
end
/-! ### defs -/
structure Fd where
  np : Nat
  nl : Nat
  body : Ss
  lams : List (List Nat × E) := []
def argsL (n : Nat) (as : List D) : Loc := as.map some ++ List.replicate (n - as.length) none
def capsL (n : Nat) (cs : List Nat) (vs : Loc) : Loc := (cs.zip vs).foldl (fun L p => L.set p.1 p.2) (List.replicate n none)
def runDef (P : Nat → Option Fd) (W : Nat) (O : Nat → Orc) (f : Nat) (as : List D) : M D := fun S =>
  match P f with
  | some fd => if as.length = fd.np then
      match evSs (O f) W fd.body (argsL fd.nl as) S with
      | some (.ret d, _, S1) => some (.val d, S1)
      | some (.nx, _, S1) => some (.val .non, S1)
      | some (.exc x, _, S1) => some (.exc x, S1)
      | _ => none
    else none
  | none => none
def runClo (P : Nat → Option Fd) (O : Nat → Orc) (f i : Nat) (vs : Loc) : M D :=
  match P f with
  | some fd => match fd.lams[i]? with
    | some (cs, e) => evE (O f) e (capsL fd.nl cs vs)
    | none => stk
  | none => stk
def capsOf (P : Nat → Option Fd) (f i : Nat) : List Nat := match P f with
  | some fd => match fd.lams[i]? with
    | some (cs, _) => cs
    | none => []
  | none => []
def orcN (P : Nat → Option Fd) (W : Nat) : Nat → Nat → Orc
  | 0, f => ⟨fun _ _ => stk, fun _ _ _ => stk, f, fun _ => []⟩
  | n + 1, f => ⟨fun g as => runDef P W (orcN P W n) g as, fun g i vs => runClo P (orcN P W n) g i vs, f, capsOf P f⟩
/-- f called, at most n deep -/
def callN (P : Nat → Option Fd) (W n : Nat) (f : Nat) (as : List D) : M D := runDef P W (orcN P W n) f as
end Sim
set_option Elab.async false
set_option linter.all false
set_option autoImplicit false
set_option maxRecDepth 100000
/-! SimH: what the head's run looks at. -/
namespace Sim
open PySem PySem.Spec PyProof.Rows L2 LamX
def stDef (s : Stmt) : Option (Str × Arguments × List Stmt × Scope) := match s with
  | .FunctionDef n a b _ _ _ sc _ _ _ => some (n, a, b, sc)
  | _ => none
def topDefs (p : Program) : List (Str × Arguments × List Stmt × Scope) := p.main.body.filterMap stDef
def bltNames : List Str := ["len", "int", "abs", "max", "min", "sum", "tuple", "list", "isinstance", "bool", "str", "range", "enumerate", "sorted", "any", "all"]
def isR : FuncBody → Option (List Pos)
  | .stmts [.Expr (.Call (.Attribute (.Call (.Name s p0) [] [] p1) m p2) [.Name w p3] [] p4) p5, .Assign [.Attribute (.Name a p6) f p7] (.Name b p8) p9, .Assign [.Attribute (.Name a2 p10) f2 p11] (.Name b2 p12) p13] =>
    if s = "super" ∧ m = "__init__" ∧ w = "what" ∧ a = "self" ∧ f = "what" ∧ b = "what" ∧ a2 = "self" ∧ f2 = "word" ∧ b2 = "word" then some [p0, p1, p2, p3, p4, p5, p6, p7, p8, p9, p10, p11, p12, p13] else none
  | _ => none
def isB : FuncBody → Option (Str × Nat × List Pos)
  | .stmts [.Expr (.Call (.Attribute (.Call (.Name s p0) [] [] p1) m p2) [.Name w p3, .Constant (.str wd) j p4] [] p5) p6] =>
    if s = "super" ∧ m = "__init__" ∧ w = "what" then some (wd, j, [p0, p1, p2, p3, p4, p5, p6]) else none
  | _ => none
def argsAll (a : Arguments) : Option (List Str) := match a with
  | ⟨[], l, none, [], [], none, _⟩ => some (l.map (·.arg))
  | _ => none
def dflOk (K : PySem.W.Frag) (v : Value) : Bool := match v with
  | .none => true
  | .ref T => (match K.lookup T with
    | some ⟨_, _, .seq _ _, _⟩ => true
    | _ => false)
  | _ => false
def initF (K : PySem.W.Frag) (C : Addr) : Option (Addr × FuncData) := match PySem.W.findIn K (.ref C) "__init__" with
  | some (some (.ref f)) => (match K.lookup f with
    | some ⟨_, _, .func fd, _⟩ => some (f, fd)
    | _ => none)
  | _ => none
def fnShape (fd : FuncData) : Option (Addr × Addr) := match fd.closure, fd.code with
  | [(n, cc)], .ref cda => if n = "__class__" ∧ fd.globals = mainGlobals ∧ fd.builtins = builtinsNs then some (cc, cda) else none
  | _, _ => none
def scIB (N : List Str) (sc : Scope) : Bool := decide (sc.kind = .function) && !sc.isCoroutine && !sc.isGenerator && decide N.Nodup && N.all (fun x => decide (sc.names.lookup x = some .local)) && sc.names.all (fun y => match y.2 with
  | .cell => false
  | .free => decide (y.1 = "__class__")
  | _ => true)
def supKB (K : PySem.W.Frag) (file : Str) (fd : FuncData) (cda cc D : Addr) : Bool :=
  (match (fd.params.posonlyargs ++ fd.params.args).head? with
    | some ar => decide (ar.arg = "self")
    | none => false) &&
  (match K.lookup cda with
    | some ⟨_, _, .fields vs, _⟩ => (match (vs[2]? : Option Value) with
      | some (.str fl _) => file == fl
      | _ => false)
    | _ => false) &&
  (match K.lookup cc with
    | some ⟨_, _, .cell (some (.ref D')), _⟩ => decide (D' = D)
    | _ => false) && (PySem.W.clsIn K D).isSome && He.eqO (PySem.W.nsIn K cStatics "thirdparty.any") (some none) && decide (fd.scope.names.lookup ("super" : Str) = some .globalImplicit) && decide (fd.scope.names.lookup ("__class__" : Str) = some .free) &&
  decide (fd.scope.names.lookup ("self" : Str) = some .local) && decide (fd.scope.kind = .function)
def oexB (K : PySem.W.Frag) (C : Addr) : Bool := (match K.lookup C with
  | some ⟨.type t, _, .cls cd, sl⟩ => decide (t = "type") && cd.hasDict && !cd.hasDel && (match cd.mro, sl.toList with
    | .ref C' :: bm, [_, _, _, _, some (.builtin n), _] => decide (C' = C) && decide (n = "ValueError.__new__") && PySem.HandSPX.refsVE bm
    | _, _ => false)
  | _ => false) && He.eqO (PySem.W.findIn K (.ref C) "__setattr__") (some (some (.builtin "object.__setattr__"))) && decide (PySem.W.subIn K (.ref C) (.type "BaseException") = some true) && decide (PySem.W.typeIn K (.ref C) = some (.type "type")) && PySem.W.keepIn K (.ref C)
def excRB (K : PySem.W.Frag) (file : Str) (R : Addr) : Bool := match initF K R with
  | some (g, fd) => (match isR fd.body, fnShape fd with
    | some p, some (cc, cda) => ((p.getD 2 default).endLine == (p.getD 4 default).line) && PySem.W.codeIn K (.ref cda) fd.qualname && scIB ["self", "what", "word"] fd.scope && supKB K file fd cda cc R && decide (argsAll fd.params = some (["self", "what", "word"] : List Str)) && dflOk K fd.defaults && decide (PySem.W.typeIn K (.ref g) = some (.type "function")) && PySem.W.fnIn K g
    | _, _ => false)
  | none => false
def excBB (K : PySem.W.Frag) (file : Str) (R C : Addr) : Bool := match initF K C, initF K R with
  | some (f, fd), some (g, _) => (match isB fd.body, fnShape fd with
    | some (_, _, p), some (cc, cda) => ((p.getD 2 default).endLine == (p.getD 5 default).line) && PySem.W.codeIn K (.ref cda) fd.qualname && scIB ["self", "what"] fd.scope && supKB K file fd cda cc C && decide (argsAll fd.params = some (["self", "what"] : List Str)) && dflOk K fd.defaults && decide (PySem.W.typeIn K (.ref f) = some (.type "function")) &&
      oexB K C && (PySem.W.clsIn K C).isSome && decide (PySem.W.mroIn K C (.ref C) = some true) && decide (PySem.W.mroIn K C (.ref R) = some true) && He.eqO (PySem.W.ks_superIn K C C "__init__") (some (some (.ref g))) && He.eqO (PySem.W.ks_superIn K C R "__init__") (some (some (.builtin "ValueError.__init__"))) &&
      decide (PySem.W.subIn K (.ref C) (.type "ValueError") = some true) && He.eqO (PySem.W.findIn K (.ref C) "what") (some none) && He.eqO (PySem.W.findIn K (.ref C) "word") (some none)
    | _, _ => false)
  | _, _ => false
abbrev Al2 : Type := Bool × List He.FnW
def fragS (g : Addr → Option Obj) (n : List Addr) : PySem.W.Frag := He.frT g n
def obsK (fn : List He.DefD) (tf : List He.Defn) (ex : PySem.W.Frag → Bool) (g : Addr → Option Obj) (K : PySem.W.Frag) : Al2 := (ex K && (fn.all fun d => d.ok K) && He.tabsB g tf K, fn.map fun d => He.fnW K d.at_)
def obsS (n : List Addr) (fn : List He.DefD) (tf : List He.Defn) (ex : PySem.W.Frag → Bool) (g : Addr → Option Obj) : Al2 := obsK fn tf ex g (fragS g n)
structure SaysS (fn : List He.DefD) (tf : List He.Defn) (ex : PySem.W.Frag → Bool) (h : Heap) (K : PySem.W.Frag) : Prop where
  ex : ex K = true
  fns : ∀ d ∈ fn, ∃ fd, FunD K d.name d.qual d.params d.body d.scope (d.dvs K) (d.kws K) (He.fAd K d.at_) fd
  hd : ∀ p ∈ tf, PySem.W.codeHdIn K (He.cT K p).1 (He.cT K p).2 = true
  out : ∀ p ∈ tf, K.lookup (He.cT K p).2 = none
  empty : ∀ p ∈ tf, h.get? (He.cT K p).2 = some { cls := .none, data := .fields #[] }
theorem saysS_of {n : List Addr} {fn : List He.DefD} {tf : List He.Defn} {ex : PySem.W.Frag → Bool} {h : Heap} (e : obsS n fn tf ex h.get? = (true, fn.map He.DefD.val)) : SaysS fn tf ex h (fragS h.get? n) := by
  have e1 : (ex (fragS h.get? n) && (fn.all fun d => d.ok (fragS h.get? n)) && He.tabsB h.get? tf (fragS h.get? n)) = true := congrArg (fun z : Al2 => z.1) e
  have e2 : (fn.map fun d => He.fnW (fragS h.get? n) d.at_) = fn.map He.DefD.val := congrArg (fun z : Al2 => z.2) e
  rw [Bool.and_eq_true, Bool.and_eq_true] at e1
  obtain ⟨⟨h1, h2⟩, h3⟩ := e1
  have key : ∀ p ∈ tf, PySem.W.codeHdIn (fragS h.get? n) (He.cT (fragS h.get? n) p).1 (He.cT (fragS h.get? n) p).2 = true ∧ ∃ o, h.get? (He.cT (fragS h.get? n) p).2 = some o ∧ He.emptyTab o = true := fun p hp => by
    have h4 := List.all_eq_true.mp h3 p hp
    rw [Bool.and_eq_true] at h4
    refine ⟨h4.1, ?_⟩
    have h5 := h4.2
    split at h5
    · rename_i o q
      exact ⟨o, q, h5⟩
    · cases h5
  refine ⟨h1, fun d hd => ?_, fun p hp => (key p hp).1, fun p hp => ?_, fun p hp => ?_⟩
  · obtain ⟨i, hi⟩ := List.getElem?_of_mem hd
    have e3 : (fn.map fun d => He.fnW (fragS h.get? n) d.at_)[i]? = (fn.map He.DefD.val)[i]? := by rw [e2]
    rw [List.getElem?_map, List.getElem?_map, hi] at e3
    exact He.DefD.funD (Option.some.inj e3) (List.all_eq_true.mp h2 d hd)
  · obtain ⟨_, o, q, z⟩ := key p hp
    exact He.frT_none q z
  · obtain ⟨_, o, q, z⟩ := key p hp
    rw [q, He.emptyTab_eq z]
def hookS (n : List Addr) (fn : List He.DefD) (tf : List He.Defn) (ex : PySem.W.Frag → Bool) : PySem.W.Hook where
  α := Al2
  obs := fun s => obsS n fn tf ex s.heap.get?
  val := fun _ => (true, fn.map He.DefD.val)
  says := fun _ h => ∃ K : PySem.W.Frag, K.In h ∧ SaysS fn tf ex h K
  of := fun _ _ e => ⟨_, He.frT_in, saysS_of e⟩
  keeps := fun _ _ _ ⟨K, hK, c⟩ k => ⟨K, PySem.W.Frag.In.keeps hK k, ⟨c.ex, c.fns, c.hd, c.out, fun p hp => k _ _ (c.empty p hp)⟩⟩
theorem obsS_eq {n : List Addr} {fn : List He.DefD} {tf : List He.Defn} {ex : PySem.W.Frag → Bool} {g : Addr → Option Obj} {s : Shared} (h : ∀ a, g a = s.heap.get? a) : obsS n fn tf ex g = (hookS n fn tf ex).obs s := by
  have e : g = s.heap.get? := funext h
  rw [e]
  rfl
structure Card where
  slots : List (Nat × Str × List Str × Bool)
  clss : List (Str × Nat)
  globs : List (Str × D)
  prg : Nat → Option Fd
  lams : List Str
  Wf : Nat
  rs : List Nat
def toDefD (d : Str × Arguments × List Stmt × Scope) : He.DefD := { at_ := (d.1, none), name := d.1, qual := d.1, params := d.2.1, body := d.2.2.1, scope := d.2.2.2 }
def Card.tf (c : Card) : List He.Defn := c.lams.map fun x => (x, none)
def Card.fn (c : Card) (P : Program) : List He.DefD := (topDefs P).map toDefD
def gloB (K : PySem.W.Frag) (x : Str) : Bool := He.eqO (PySem.W.nsIn K mainGlobals x) (some (some (.ref (He.ga K x))))
def freeB (K : PySem.W.Frag) (x : Str) : Bool := He.eqO (PySem.W.nsIn K mainGlobals x) (some none)
def dV : D → Option V
  | .int i => some (.int i)
  | .str x => some (.str x)
  | .bl b => some (.bl b)
  | .non => some .non
  | _ => none
def globB (K : PySem.W.Frag) (x : Str) (d : D) : Bool := match dV d, PySem.W.nsIn K mainGlobals x with
  | some v, some (some u) => He.relB v u
  | _, _ => false
def Card.exK (c : Card) (P : Program) (K : PySem.W.Frag) : Bool :=
  freeB K "super" && bltNames.all (freeB K) && c.globs.all (fun p => globB K p.1 p.2) && excRB K P.main.file (He.ga K "Refused") &&
  c.clss.all (fun p => gloB K p.1 && (p.1 == ("Refused" : Str) || !c.rs.contains p.2 || excBB K P.main.file (He.ga K "Refused") (He.ga K p.1))) && c.slots.all (fun s => gloB K s.2.1) && decide ((c.tf.map fun p => (He.cT K p).2).Nodup)
def hearG (c : Card) : List (Str × Nat) := c.clss.filter fun p => !(p.1 == ("Refused" : Str))
def excCB (K : PySem.W.Frag) (D : Addr) : Bool := He.eqO (PySem.W.findIn K (.ref D) "__getattribute__") (some (some (.builtin "BaseException.__getattribute__"))) && He.eqO (PySem.W.findIn K (.ref D) "__getattr__") (some none) && decide (PySem.W.subIn K (.ref D) (.type "BaseException") = some true) && PySem.W.hasDictIn K D &&
  He.eqO (PySem.W.findIn K (.ref D) "__class__") (some (some (.builtin "object.__class__"))) && He.eqO (PySem.W.specialIn K (.builtin "object.__class__") "__get__") (some (some (.builtin "getset_descriptor.__get__"))) && decide (PySem.W.takesIn K (.builtin "object.__class__") = some true) && decide (PySem.W.mroIn K D (.type "object") = some true)
def Card.exH (c : Card) (K : PySem.W.Frag) : Bool := ((hearG c).filter fun p => c.rs.contains p.2).all fun p => excCB K (He.ga K p.1) && He.eqO (PySem.W.findIn K (.ref (He.ga K p.1)) "what") (some none) && decide (PySem.W.exmOne K (.ref (He.ga K p.1)) (.ref (He.ga K "Refused")) = some true) &&
  (hearG c).all fun q => decide (PySem.W.kitOne K (.ref (He.ga K p.1)) (.ref (He.ga K q.1)) = some (q.2 == p.2))
end Sim
set_option linter.all false
set_option maxRecDepth 100000
namespace K03
open Sim
abbrev f_whole : Nat := 0
abbrev f_asked_lot : Nat := 1
abbrev f_asked_slot : Nat := 2
abbrev f_asked_streams : Nat := 3
abbrev f_is_due_row : Nat := 4
abbrev f_made_due_rows : Nat := 5
abbrev f_summed : Nat := 6
abbrev f_asked_sums : Nat := 7
abbrev f_plain_rows : Nat := 8
abbrev f_load_due : Nat := 9
abbrev f_due_load : Nat := 10
abbrev f_law_is_whole : Nat := 11
abbrev f_law_same : Nat := 12
abbrev f_law_classes : Nat := 13
abbrev f_law_heard : Nat := 14
abbrev f_law_pool : Nat := 15
abbrev f_law_take : Nat := 16
abbrev f_law_one : Nat := 17
abbrev f_law_some : Nat := 18
abbrev f_law_is_number : Nat := 19
abbrev f_law_wrong_many : Nat := 20
abbrev f_law_wrong_slot : Nat := 21
abbrev f_law_wrong_lot : Nat := 22
abbrev f_law_drawn_lot : Nat := 23
abbrev f_law_wrong_due_rows : Nat := 24
abbrev f_law_plain_of : Nat := 25
abbrev f_law_wrong_sums : Nat := 26
abbrev f_law_due_load_of : Nat := 27
abbrev f_law_drawn_due_rows : Nat := 28
abbrev f_law_odd_count : Nat := 29
abbrev f_law_odd_lot : Nat := 30
abbrev f_law_great_rows : Nat := 31
abbrev f_law_odd_rows : Nat := 32
abbrev f_law_head_wrong : Nat := 33
abbrev f_law_plain_asked : Nat := 34
abbrev f_law_load_asked : Nat := 35
abbrev f_law_some_slot : Nat := 36
abbrev f_law_some_due : Nat := 37
abbrev f_law_loads_right : Nat := 38
abbrev f_law_head_right : Nat := 39
abbrev f_law : Nat := 40
/-- slots: 0 thing 1 low 2 high -/
def b_whole : Ss := (.cons (.ite (.or (.cons (.not (.isi (.var 0) .int)) (.cons (.isi (.var 0) .bool) .nil))) (.cons (.ret (.bl false))
  .nil) .nil)
  (.cons (.ret (.and (.cons (.cmp .le (.var 1) (.var 0)) (.cons (.or (.cons (.cmp .is (.var 2) .non) (.cons (.cmp .le (.var 0) (.var 2)) .nil))) .nil))))
  .nil))
def d_whole : Fd := ⟨3, 3, b_whole, []⟩
/-- slots: 0 n 1 lot 2 last 3 index 4 stream -/
def b_asked_lot : Ss := (.cons (.ite (.not (.isi (.var 1) .tuple)) (.cons (.raise 8 (.un .neg (.int 1)))
  .nil) .nil)
  (.cons (.asg (.name 2) (.un .neg (.int 1)))
  (.cons (.for (.tup (.cons (.name 3) (.cons (.name 4) .nil))) (.enum (.var 1)) (.cons (.ite (.not (.call f_whole (.cons (.var 4) (.cons (.bin .add (.var 2) (.int 1)) (.cons (.bin .sub (.var 0) (.int 1)) .nil))))) (.cons (.raise 8 (.var 3))
  .nil) .nil)
  (.cons (.asg (.name 2) (.var 4))
  .nil)))
  .nil)))
def d_asked_lot : Fd := ⟨2, 5, b_asked_lot, []⟩
/-- slots: 0 slot -/
def b_asked_slot : Ss := (.cons (.ite (.not (.call f_whole (.cons (.var 0) (.cons (.int 0) (.cons (.glob (PySem.Str.ofString "GREATEST") (.int 1000000)) .nil))))) (.cons (.raise 13 (.var 0))
  .nil) .nil)
  .nil)
def d_asked_slot : Fd := ⟨1, 1, b_asked_slot, []⟩
/-- slots: 0 n -/
def b_asked_streams : Ss := (.cons (.ite (.not (.call f_whole (.cons (.var 0) (.cons (.int 0) (.cons (.int 24) .nil))))) (.cons (.raise 59 (.var 0))
  .nil) .nil)
  .nil)
def d_asked_streams : Fd := ⟨1, 1, b_asked_streams, []⟩
/-- slots: 0 n 1 timed 2 thing 3 slot 4 stream 5 due 6 many -/
def b_is_due_row : Ss := (.cons (.ite (.or (.cons (.not (.isi (.var 2) .tuple)) (.cons (.cmp .ne (.bi .len (.cons (.var 2) .nil)) (.int 4)) .nil))) (.cons (.ret (.bl false))
  .nil) .nil)
  (.cons (.asg (.tup (.cons (.name 3) (.cons (.name 4) (.cons (.name 5) (.cons (.name 6) .nil))))) (.var 2))
  (.cons (.ite (.or (.cons (.not (.call f_whole (.cons (.var 3) (.cons (.int 0) (.cons (.glob (PySem.Str.ofString "GREATEST") (.int 1000000)) .nil))))) (.cons (.not (.call f_whole (.cons (.var 4) (.cons (.int 0) (.cons (.bin .sub (.var 0) (.int 1)) .nil))))) (.cons (.not (.call f_whole (.cons (.var 6) (.cons (.int 1) (.cons (.glob (PySem.Str.ofString "GREATEST") (.int 1000000)) .nil))))) .nil)))) (.cons (.ret (.bl false))
  .nil) .nil)
  (.cons (.ite (.cmp .mem (.var 4) (.var 1)) (.cons (.ret (.call f_whole (.cons (.var 5) (.cons (.var 3) (.cons (.bin .add (.var 3) (.glob (PySem.Str.ofString "GREATEST") (.int 1000000))) .nil)))))
  .nil) .nil)
  (.cons (.ret (.call f_whole (.cons (.var 5) (.cons (.un .neg (.int 1)) (.cons (.un .neg (.int 1)) .nil)))))
  .nil)))))
def d_is_due_row : Fd := ⟨3, 7, b_is_due_row, []⟩
/-- slots: 0 n 1 timed 2 thing 3 ahead 4 index 5 row 6 slot 7 stream 8 due 9 many -/
def b_made_due_rows : Ss := (.cons (.expr (.call f_asked_streams (.cons (.var 0) .nil)))
  (.cons (.expr (.call f_asked_lot (.cons (.var 0) (.cons (.var 1) .nil))))
  (.cons (.ite (.not (.isi (.var 2) .tuple)) (.cons (.raise 61 (.un .neg (.int 1)))
  .nil) .nil)
  (.cons (.ite (.cmp .gt (.bi .len (.cons (.var 2) .nil)) (.glob (PySem.Str.ofString "MOST_ROWS") (.int 400))) (.cons (.raise 60 (.bi .len (.cons (.var 2) .nil)))
  .nil) .nil)
  (.cons (.asg (.name 3) (.tup (.cons (.un .neg (.int 1)) (.cons (.un .neg (.int 1)) (.cons (.un .neg (.int 1)) .nil)))))
  (.cons (.for (.tup (.cons (.name 4) (.cons (.name 5) .nil))) (.enum (.var 2)) (.cons (.ite (.or (.cons (.not (.call f_is_due_row (.cons (.var 0) (.cons (.var 1) (.cons (.var 5) .nil))))) (.cons (.cmp .le (.slU (.var 5) (.int 3)) (.var 3)) .nil))) (.cons (.raise 61 (.var 4))
  .nil) .nil)
  (.cons (.asg (.name 3) (.slU (.var 5) (.int 3)))
  .nil)))
  (.cons (.ret (.bi .tuple (.cons (.comp [6, 7, 8, 9] (.tup (.cons (.var 6) (.cons (.var 7) (.cons (.var 8) (.cons (.var 9) .nil))))) (.tup (.cons (.name 6) (.cons (.name 7) (.cons (.name 8) (.cons (.name 9) .nil))))) (.seq (.var 2)) .nil) .nil)))
  .nil)))))))
def d_made_due_rows : Fd := ⟨3, 10, b_made_due_rows, []⟩
/-- slots: 0 rows 1 found 2 slot 3 stream 4 _ 5 many -/
def b_summed : Ss := (.cons (.asg (.name 1) .dct0)
  (.cons (.for (.tup (.cons (.name 2) (.cons (.name 3) (.cons (.name 4) (.cons (.name 5) .nil))))) (.seq (.var 0)) (.cons (.asg (.sub (.var 1) (.tup (.cons (.var 2) (.cons (.var 3) .nil)))) (.bin .add (.meth .get2 (.var 1) (.cons (.tup (.cons (.var 2) (.cons (.var 3) .nil))) (.cons (.int 0) .nil))) (.var 5)))
  .nil))
  (.cons (.ret (.var 1))
  .nil)))
def d_summed : Fd := ⟨1, 6, b_summed, []⟩
/-- slots: 0 rows 1 found 2 total 3 slot 4 stream -/
def b_asked_sums : Ss := (.cons (.asg (.name 1) (.call f_summed (.cons (.var 0) .nil)))
  (.cons (.forD (.name 2) false 1 (.cons (.ite (.cmp .gt (.var 2) (.glob (PySem.Str.ofString "GREATEST") (.int 1000000))) (.cons (.raise 60 (.var 2))
  .nil) .nil)
  .nil))
  (.cons (.ret (.bi .tuple (.cons (.compD [3, 4, 2] (.tup (.cons (.var 3) (.cons (.var 4) (.cons (.var 2) .nil)))) (.tup (.cons (.tup (.cons (.name 3) (.cons (.name 4) .nil))) (.cons (.name 2) .nil))) true 1 .nil) .nil)))
  .nil)))
def d_asked_sums : Fd := ⟨1, 5, b_asked_sums, []⟩
/-- slots: 0 n 1 timed 2 rows -/
def b_plain_rows : Ss := (.cons (.expr (.call f_made_due_rows (.cons (.var 0) (.cons (.var 1) (.cons (.var 2) .nil)))))
  (.cons (.ret (.call f_asked_sums (.cons (.var 2) .nil)))
  .nil))
def d_plain_rows : Fd := ⟨3, 3, b_plain_rows, []⟩
/-- slots: 0 timed 1 rows 2 lot 3 slot 4 due 5 at 6 stream 7 last 8 many -/
def b_load_due : Ss := (.cons (.ret (.bi .sum (.cons (.comp [5, 6, 7, 8] (.var 8) (.tup (.cons (.name 5) (.cons (.name 6) (.cons (.name 7) (.cons (.name 8) .nil))))) (.seq (.var 1)) (.cons (.and (.cons (.cmp .mem (.var 6) (.var 2)) (.cons (.cmp .mem (.var 6) (.var 0)) (.cons (.cmp .ge (.var 5) (.var 3)) (.cons (.cmp .le (.var 7) (.var 4)) .nil))))) .nil)) .nil)))
  .nil)
def d_load_due : Fd := ⟨5, 9, b_load_due, []⟩
/-- slots: 0 n 1 timed 2 rows 3 lot 4 slot 5 due -/
def b_due_load : Ss := (.cons (.expr (.call f_made_due_rows (.cons (.var 0) (.cons (.var 1) (.cons (.var 2) .nil)))))
  (.cons (.expr (.call f_asked_lot (.cons (.var 0) (.cons (.var 3) .nil))))
  (.cons (.expr (.call f_asked_slot (.cons (.var 4) .nil)))
  (.cons (.ite (.not (.call f_whole (.cons (.var 5) (.cons (.int 0) (.cons (.glob (PySem.Str.ofString "MOST_DUE") (.int 2000000)) .nil))))) (.cons (.raise 59 (.var 5))
  .nil) .nil)
  (.cons (.ret (.call f_load_due (.cons (.var 1) (.cons (.var 2) (.cons (.var 3) (.cons (.var 4) (.cons (.var 5) .nil)))))))
  .nil)))))
def d_due_load : Fd := ⟨6, 6, b_due_load, []⟩
/-- slots: 0 thing -/
def b_law_is_whole : Ss := (.cons (.ret (.and (.cons (.isi (.var 0) .int) (.cons (.not (.isi (.var 0) .bool)) .nil))))
  .nil)
def d_law_is_whole : Fd := ⟨1, 1, b_law_is_whole, []⟩
/-- slots: 0 told 1 owed 2 at -/
def b_law_same : Ss := (.cons (.ite (.cmp .is (.var 1) .non) (.cons (.ret (.cmp .is (.var 0) .non))
  .nil) .nil)
  (.cons (.ite (.isi (.var 1) .bool) (.cons (.ret (.ite (.var 1) (.cmp .is (.var 0) (.bl true)) (.cmp .is (.var 0) (.bl false))))
  .nil) .nil)
  (.cons (.ite (.isi (.var 1) .int) (.cons (.ret (.and (.cons (.call f_law_is_whole (.cons (.var 0) .nil)) (.cons (.cmp .eq (.var 0) (.var 1)) .nil))))
  .nil) .nil)
  (.cons (.ite (.isi (.var 1) .str) (.cons (.ret (.and (.cons (.isi (.var 0) .str) (.cons (.cmp .eq (.var 0) (.var 1)) .nil))))
  .nil) .nil)
  (.cons (.ite (.and (.cons (.isi (.var 1) .tuple) (.cons (.not (.isi (.var 0) .tuple)) .nil))) (.cons (.ret (.bl false))
  .nil) .nil)
  (.cons (.ite (.and (.cons (.isi (.var 1) .list) (.cons (.not (.isi (.var 0) .list)) .nil))) (.cons (.ret (.bl false))
  .nil) .nil)
  (.cons (.ite (.cmp .ne (.bi .len (.cons (.var 0) .nil)) (.bi .len (.cons (.var 1) .nil))) (.cons (.ret (.bl false))
  .nil) .nil)
  (.cons (.for (.name 2) (.rg1 (.bi .len (.cons (.var 1) .nil))) (.cons (.ite (.not (.call f_law_same (.cons (.sub (.var 0) (.var 2)) (.cons (.sub (.var 1) (.var 2)) .nil)))) (.cons (.ret (.bl false))
  .nil) .nil)
  .nil))
  (.cons (.ret (.bl true))
  .nil)))))))))
def d_law_same : Fd := ⟨2, 3, b_law_same, []⟩
/-- slots: 0 deed 1 refused_one 2 line -/
def b_law_heard : Ss := (.cons (.heard 0 (PySem.Str.ofString "told") [((PySem.Str.ofString "BadBook"), 1), ((PySem.Str.ofString "BadBar"), 2), ((PySem.Str.ofString "NoBar"), 3), ((PySem.Str.ofString "Barred"), 4), ((PySem.Str.ofString "BadPhases"), 5), ((PySem.Str.ofString "Missing"), 6), ((PySem.Str.ofString "BadStream"), 7), ((PySem.Str.ofString "BadLot"), 8), ((PySem.Str.ofString "BadOrder"), 9), ((PySem.Str.ofString "BadHang"), 10), ((PySem.Str.ofString "NotHung"), 11), ((PySem.Str.ofString "BadComings"), 12), ((PySem.Str.ofString "BadSlot"), 13), ((PySem.Str.ofString "NoCar"), 14), ((PySem.Str.ofString "BadLate"), 15), ((PySem.Str.ofString "BadWires"), 16), ((PySem.Str.ofString "BadPaper"), 17), ((PySem.Str.ofString "BadPlan"), 18), ((PySem.Str.ofString "Deaf"), 19), ((PySem.Str.ofString "BadCome"), 20), ((PySem.Str.ofString "Unheard"), 21), ((PySem.Str.ofString "BadCase"), 22), ((PySem.Str.ofString "BadLeft"), 23), ((PySem.Str.ofString "BadFormula"), 24), ((PySem.Str.ofString "BadRules"), 25), ((PySem.Str.ofString "BadRing"), 26), ((PySem.Str.ofString "BadIndex"), 27), ((PySem.Str.ofString "Ranked"), 28), ((PySem.Str.ofString "TramFlaw"), 29), ((PySem.Str.ofString "BadTurn"), 30), ((PySem.Str.ofString "BadEyes"), 31), ((PySem.Str.ofString "BadFailed"), 32), ((PySem.Str.ofString "BadGreens"), 33), ((PySem.Str.ofString "TooShort"), 34), ((PySem.Str.ofString "BadRound"), 35), ((PySem.Str.ofString "Hungry"), 36), ((PySem.Str.ofString "BadTown"), 37), ((PySem.Str.ofString "Uneven"), 38), ((PySem.Str.ofString "BadStarts"), 39), ((PySem.Str.ofString "BadSchedule"), 40), ((PySem.Str.ofString "BadTable"), 41), ((PySem.Str.ofString "YieldFlaw"), 42), ((PySem.Str.ofString "Same"), 43), ((PySem.Str.ofString "BadDeed"), 44), ((PySem.Str.ofString "Closed"), 45), ((PySem.Str.ofString "BadSlots"), 46), ((PySem.Str.ofString "Wired"), 47), ((PySem.Str.ofString "NoWire"), 48), ((PySem.Str.ofString "Behind"), 49), ((PySem.Str.ofString "BadOffice"), 50), ((PySem.Str.ofString "BadStamp"), 51), ((PySem.Str.ofString "BadDeeds"), 52), ((PySem.Str.ofString "NothingToUndo"), 53), ((PySem.Str.ofString "NothingToRedo"), 54), ((PySem.Str.ofString "BadText"), 55), ((PySem.Str.ofString "WrongLine"), 56), ((PySem.Str.ofString "BadNames"), 57), ((PySem.Str.ofString "Busy"), 58), ((PySem.Str.ofString "BadMany"), 59), ((PySem.Str.ofString "TooMany"), 60), ((PySem.Str.ofString "BadDueRows"), 61), ((PySem.Str.ofString "BadTimetable"), 62), ((PySem.Str.ofString "Forked"), 63), ((PySem.Str.ofString "Crowded"), 64), ((PySem.Str.ofString "Timed"), 65), ((PySem.Str.ofString "Untimed"), 66), ((PySem.Str.ofString "Overdue"), 67)] [8, 13, 59, 60, 61])
  .nil)
def d_law_heard : Fd := ⟨1, 3, b_law_heard, []⟩
/-- slots: 0 script 1 k 2 cell 3 big 4 mixed -/
def b_law_pool : Ss := (.cons (.asg (.name 2) (.int 0))
  (.cons (.ite (.cmp .lt (.var 1) (.bi .len (.cons (.var 0) .nil))) (.cons (.asg (.name 2) (.sub (.var 0) (.var 1)))
  .nil) (.cons (.ite (.cmp .ne (.var 0) (.lst .nil)) (.cons (.asg (.name 2) (.sub (.var 0) (.int 0)))
  .nil) .nil)
  .nil))
  (.cons (.asg (.name 3) (.bi .max2 (.cons (.bi .int (.cons (.var 2) .nil)) (.cons (.bi .int (.cons (.bin .sub (.un .neg (.int 1)) (.var 2)) .nil)) .nil))))
  (.cons (.asg (.name 4) (.bin .mod (.bi .int (.cons (.bin .mul (.bin .add (.bin .add (.bin .add (.bin .mod (.bi .int (.cons (.var 3) .nil)) (.int 2147483629)) (.bin .mul (.bin .mul (.int 7919) (.var 1)) (.var 1))) (.bin .mul (.int 31) (.var 1))) (.int 17)) (.int 48271)) .nil)) (.int 2147483647)))
  (.cons (.ret (.lst (.cons (.bin .mul (.var 3) (.bi .int (.cons (.and (.cons (.cmp .ge (.var 3) (.bin .pow (.int 10) (.int 18))) (.cons (.cmp .lt (.var 1) (.bi .len (.cons (.var 0) .nil))) .nil))) .nil))) (.cons (.var 4) .nil))))
  .nil)))))
def d_law_pool : Fd := ⟨2, 5, b_law_pool, []⟩
/-- slots: 0 jar 1 top 2 number -/
def b_law_take : Ss := (.cons (.ite (.cmp .gt (.sub (.var 0) (.int 0)) (.int 0)) (.cons (.asg (.name 2) (.bin .mod (.bi .int (.cons (.sub (.var 0) (.int 0)) .nil)) (.var 1)))
  (.cons (.asg (.sub (.var 0) (.int 0)) (.bin .fdiv (.sub (.var 0) (.int 0)) (.var 1)))
  (.cons (.ret (.var 2))
  .nil))) .nil)
  (.cons (.asg (.sub (.var 0) (.int 1)) (.bin .mod (.bi .int (.cons (.bin .add (.bin .mul (.sub (.var 0) (.int 1)) (.int 39373)) (.int 7)) .nil)) (.int 2147483647)))
  (.cons (.ret (.bin .mod (.bi .int (.cons (.bin .fdiv (.bin .mod (.bi .int (.cons (.bin .mul (.sub (.var 0) (.int 1)) (.sub (.var 0) (.int 1))) .nil)) (.int 2147483629)) (.int 32)) .nil)) (.var 1)))
  .nil)))
def d_law_take : Fd := ⟨2, 3, b_law_take, []⟩
/-- slots: 0 jar 1 things -/
def b_law_one : Ss := (.cons (.ret (.sub (.var 1) (.call f_law_take (.cons (.var 0) (.cons (.bi .len (.cons (.var 1) .nil)) .nil)))))
  .nil)
def d_law_one : Fd := ⟨2, 2, b_law_one, []⟩
/-- slots: 0 jar 1 things 2 thing -/
def b_law_some : Ss := (.cons (.ret (.comp [2] (.var 2) (.name 2) (.seq (.var 1)) (.cons (.cmp .eq (.call f_law_take (.cons (.var 0) (.cons (.int 2) .nil))) (.int 1)) .nil)))
  .nil)
def d_law_some : Fd := ⟨2, 3, b_law_some, []⟩
/-- slots: 0 thing 1 low 2 high -/
def b_law_is_number : Ss := (.cons (.ret (.and (.cons (.call f_law_is_whole (.cons (.var 0) .nil)) (.cons (.cmp .le (.var 1) (.var 0)) (.cons (.cmp .le (.var 0) (.var 2)) .nil)))))
  .nil)
def d_law_is_number : Fd := ⟨3, 3, b_law_is_number, []⟩
/-- slots: 0 thing 1 low 2 high -/
def b_law_wrong_many : Ss := (.cons (.ret (.ite (.call f_law_is_number (.cons (.var 0) (.cons (.var 1) (.cons (.var 2) .nil)))) .non (.tup (.cons (.str (PySem.Str.ofString "BadMany")) (.cons (.var 0) .nil)))))
  .nil)
def d_law_wrong_many : Fd := ⟨3, 3, b_law_wrong_many, []⟩
/-- slots: 0 thing -/
def b_law_wrong_slot : Ss := (.cons (.ret (.ite (.call f_law_is_number (.cons (.var 0) (.cons (.int 0) (.cons (.bin .pow (.int 10) (.int 6)) .nil)))) .non (.tup (.cons (.str (PySem.Str.ofString "BadSlot")) (.cons (.var 0) .nil)))))
  .nil)
def d_law_wrong_slot : Fd := ⟨1, 1, b_law_wrong_slot, []⟩
/-- slots: 0 n 1 thing 2 at -/
def b_law_wrong_lot : Ss := (.cons (.ite (.not (.isi (.var 1) .tuple)) (.cons (.ret (.tup (.cons (.str (PySem.Str.ofString "BadLot")) (.cons (.un .neg (.int 1)) .nil))))
  .nil) .nil)
  (.cons (.for (.name 2) (.rg1 (.bi .len (.cons (.var 1) .nil))) (.cons (.ite (.or (.cons (.not (.call f_law_is_number (.cons (.sub (.var 1) (.var 2)) (.cons (.int 0) (.cons (.bin .sub (.var 0) (.int 1)) .nil))))) (.cons (.and (.cons (.cmp .gt (.var 2) (.int 0)) (.cons (.cmp .le (.sub (.var 1) (.var 2)) (.sub (.var 1) (.bin .sub (.var 2) (.int 1)))) .nil))) .nil))) (.cons (.ret (.tup (.cons (.str (PySem.Str.ofString "BadLot")) (.cons (.var 2) .nil))))
  .nil) .nil)
  .nil))
  (.cons (.ret .non)
  .nil)))
def d_law_wrong_lot : Fd := ⟨2, 3, b_law_wrong_lot, []⟩
/-- slots: 0 jar 1 n -/
def b_law_drawn_lot : Ss := (.cons (.ret (.bi .tuple (.cons (.call f_law_some (.cons (.var 0) (.cons (.lrg1 (.var 1)) .nil))) .nil)))
  .nil)
def d_law_drawn_lot : Fd := ⟨2, 2, b_law_drawn_lot, []⟩
/-- slots: 0 n 1 timed_lot 2 thing 3 at 4 row 5 low 6 high -/
def b_law_wrong_due_rows : Ss := (.cons (.ite (.not (.isi (.var 2) .tuple)) (.cons (.ret (.tup (.cons (.str (PySem.Str.ofString "BadDueRows")) (.cons (.un .neg (.int 1)) .nil))))
  .nil) .nil)
  (.cons (.ite (.cmp .gt (.bi .len (.cons (.var 2) .nil)) (.int 400)) (.cons (.ret (.tup (.cons (.str (PySem.Str.ofString "TooMany")) (.cons (.bi .len (.cons (.var 2) .nil)) .nil))))
  .nil) .nil)
  (.cons (.for (.name 3) (.rg1 (.bi .len (.cons (.var 2) .nil))) (.cons (.asg (.name 4) (.sub (.var 2) (.var 3)))
  (.cons (.ite (.or (.cons (.not (.isi (.var 4) .tuple)) (.cons (.cmp .ne (.bi .len (.cons (.var 4) .nil)) (.int 4)) (.cons (.not (.call f_law_is_number (.cons (.sub (.var 4) (.int 0)) (.cons (.int 0) (.cons (.bin .pow (.int 10) (.int 6)) .nil))))) .nil)))) (.cons (.ret (.tup (.cons (.str (PySem.Str.ofString "BadDueRows")) (.cons (.var 3) .nil))))
  .nil) .nil)
  (.cons (.ite (.or (.cons (.not (.call f_law_is_number (.cons (.sub (.var 4) (.int 1)) (.cons (.int 0) (.cons (.bin .sub (.var 0) (.int 1)) .nil))))) (.cons (.not (.call f_law_is_number (.cons (.sub (.var 4) (.int 3)) (.cons (.int 1) (.cons (.bin .pow (.int 10) (.int 6)) .nil))))) .nil))) (.cons (.ret (.tup (.cons (.str (PySem.Str.ofString "BadDueRows")) (.cons (.var 3) .nil))))
  .nil) .nil)
  (.cons (.asg (.tup (.cons (.name 5) (.cons (.name 6) .nil))) (.ite (.cmp .mem (.sub (.var 4) (.int 1)) (.var 1)) (.tup (.cons (.sub (.var 4) (.int 0)) (.cons (.bin .add (.sub (.var 4) (.int 0)) (.bin .pow (.int 10) (.int 6))) .nil))) (.tup (.cons (.un .neg (.int 1)) (.cons (.un .neg (.int 1)) .nil)))))
  (.cons (.ite (.or (.cons (.not (.call f_law_is_number (.cons (.sub (.var 4) (.int 2)) (.cons (.var 5) (.cons (.var 6) .nil))))) (.cons (.and (.cons (.cmp .gt (.var 3) (.int 0)) (.cons (.cmp .le (.slU (.var 4) (.int 3)) (.slU (.sub (.var 2) (.bin .sub (.var 3) (.int 1))) (.int 3))) .nil))) .nil))) (.cons (.ret (.tup (.cons (.str (PySem.Str.ofString "BadDueRows")) (.cons (.var 3) .nil))))
  .nil) .nil)
  .nil))))))
  (.cons (.ret .non)
  .nil))))
def d_law_wrong_due_rows : Fd := ⟨3, 7, b_law_wrong_due_rows, []⟩
/-- slots: 0 rows 1 found 2 slot 3 v 4 due 5 many 6 key -/
def b_law_plain_of : Ss := (.cons (.asg (.name 1) .dct0)
  (.cons (.for (.tup (.cons (.name 2) (.cons (.name 3) (.cons (.name 4) (.cons (.name 5) .nil))))) (.seq (.var 0)) (.cons (.asg (.sub (.var 1) (.tup (.cons (.var 2) (.cons (.var 3) .nil)))) (.bin .add (.meth .get2 (.var 1) (.cons (.tup (.cons (.var 2) (.cons (.var 3) .nil))) (.cons (.int 0) .nil))) (.var 5)))
  .nil))
  (.cons (.ret (.bi .tuple (.cons (.comp [6] (.bin .add (.var 6) (.tup (.cons (.sub (.var 1) (.var 6)) .nil))) (.name 6) (.seq (.bi .sorted (.cons (.var 1) .nil))) .nil) .nil)))
  .nil)))
def d_law_plain_of : Fd := ⟨1, 7, b_law_plain_of, []⟩
/-- slots: 0 rows 1 bad 2 row -/
def b_law_wrong_sums : Ss := (.cons (.asg (.name 1) (.comp [2] (.sub (.var 2) (.int 2)) (.name 2) (.seq (.call f_law_plain_of (.cons (.var 0) .nil))) (.cons (.cmp .gt (.sub (.var 2) (.int 2)) (.bin .pow (.int 10) (.int 6))) .nil)))
  (.cons (.ret (.ite (.cmp .ne (.var 1) (.lst .nil)) (.tup (.cons (.str (PySem.Str.ofString "TooMany")) (.cons (.sub (.var 1) (.int 0)) .nil))) .non))
  .nil))
def d_law_wrong_sums : Fd := ⟨1, 3, b_law_wrong_sums, []⟩
/-- slots: 0 rows 1 streams 2 slot 3 due 4 row -/
def b_law_due_load_of : Ss := (.cons (.ret (.bi .sum (.cons (.comp [4] (.sub (.var 4) (.int 3)) (.name 4) (.seq (.var 0)) (.cons (.and (.cons (.cmp .mem (.sub (.var 4) (.int 1)) (.var 1)) (.cons (.cmp .ge (.sub (.var 4) (.int 0)) (.var 2)) (.cons (.cmp .le (.sub (.var 4) (.int 2)) (.var 3)) .nil)))) .nil)) .nil)))
  .nil)
def d_law_due_load_of : Fd := ⟨4, 5, b_law_due_load_of, []⟩
/-- slots: 0 jar 1 n 2 timed_lot 3 many 4 found 5 last 6 go 7 slot 8 v 9 cars 10 due 11 key -/
def b_law_drawn_due_rows : Ss := (.cons (.asg (.tup (.cons (.name 4) (.cons (.name 5) .nil))) (.tup (.cons .dct0 (.cons (.tup (.cons (.int 0) (.cons (.int 0) .nil))) .nil))))
  (.cons (.for (.name 6) (.rg1 (.ite (.cmp .gt (.var 1) (.int 0)) (.var 3) (.int 0))) (.cons (.asg (.name 7) (.ite (.cmp .gt (.call f_law_take (.cons (.var 0) (.cons (.int 9) .nil))) (.int 0)) (.call f_law_take (.cons (.var 0) (.cons (.int 13) .nil))) (.call f_law_take (.cons (.var 0) (.cons (.int 40) .nil)))))
  (.cons (.asg (.tup (.cons (.name 8) (.cons (.name 9) .nil))) (.tup (.cons (.call f_law_take (.cons (.var 0) (.cons (.var 1) .nil))) (.cons (.call f_law_one (.cons (.var 0) (.cons (.lst (.cons (.int 1) (.cons (.int 1) (.cons (.int 1) (.cons (.int 2) (.cons (.int 3) (.cons (.int 5) .nil))))))) .nil))) .nil))))
  (.cons (.ite (.cmp .eq (.call f_law_take (.cons (.var 0) (.cons (.int 4) .nil))) (.int 0)) (.cons (.asg (.tup (.cons (.name 7) (.cons (.name 8) .nil))) (.var 5))
  .nil) .nil)
  (.cons (.asg (.tup (.cons (.name 5) (.cons (.name 10) .nil))) (.tup (.cons (.tup (.cons (.var 7) (.cons (.var 8) .nil))) (.cons (.un .neg (.int 1)) .nil))))
  (.cons (.ite (.cmp .mem (.var 8) (.var 2)) (.cons (.asg (.name 10) (.bin .add (.var 7) (.call f_law_one (.cons (.var 0) (.cons (.lst (.cons (.int 0) (.cons (.int 0) (.cons (.int 1) (.cons (.int 2) (.cons (.int 3) (.cons (.call f_law_take (.cons (.var 0) (.cons (.int 9) .nil))) .nil))))))) .nil)))))
  .nil) .nil)
  (.cons (.asg (.sub (.var 4) (.tup (.cons (.var 7) (.cons (.var 8) (.cons (.var 10) .nil))))) (.var 9))
  .nil)))))))
  (.cons (.ret (.bi .tuple (.cons (.comp [11] (.bin .add (.var 11) (.tup (.cons (.sub (.var 4) (.var 11)) .nil))) (.name 11) (.seq (.bi .sorted (.cons (.var 4) .nil))) .nil) .nil)))
  .nil)))
def d_law_drawn_due_rows : Fd := ⟨4, 12, b_law_drawn_due_rows, []⟩
/-- slots: 0 jar -/
def b_law_odd_count : Ss := (.cons (.ret (.call f_law_one (.cons (.var 0) (.cons (.lst (.cons (.un .neg (.int 1)) (.cons (.int 25) (.cons (.bl true) (.cons .non (.cons (.str (PySem.Str.ofString "3")) (.cons (.tup (.cons (.int 3) .nil)) (.cons (.bin .pow (.int 10) (.int 30)) (.cons (.un .neg (.bin .pow (.int 10) (.int 30))) (.cons (.int 26) .nil)))))))))) .nil))))
  .nil)
def d_law_odd_count : Fd := ⟨1, 1, b_law_odd_count, []⟩
/-- slots: 0 jar 1 n 2 v 3 odds_now -/
def b_law_odd_lot : Ss := (.cons (.asg (.name 2) (.call f_law_take (.cons (.var 0) (.cons (.bin .add (.var 1) (.int 1)) .nil))))
  (.cons (.asg (.name 3) (.lst (.cons .non (.cons (.int 0) (.cons (.str (PySem.Str.ofString "")) (.cons (.lst (.cons (.var 2) .nil)) (.cons (.tup (.cons (.var 1) .nil)) (.cons (.tup (.cons (.var 2) (.cons (.var 2) .nil))) (.cons (.tup (.cons (.var 2) (.cons (.un .neg (.int 1)) .nil))) (.cons (.tup (.cons (.int 0) (.cons (.bl true) .nil))) (.cons (.tup (.cons (.var 2) (.cons .non .nil))) (.cons (.tup (.cons (.bin .add (.var 1) (.int 1)) (.cons (.int 0) .nil))) (.cons (.tup (.cons (.int 1) (.cons (.int 0) .nil))) (.cons (.tup (.cons (.un .neg (.int 1)) .nil)) .nil))))))))))))))
  (.cons (.ret (.call f_law_one (.cons (.var 0) (.cons (.bin .add (.var 3) (.lst (.cons (.tup (.cons (.tup (.cons (.var 2) .nil)) .nil)) (.cons (.tup (.cons (.var 2) (.cons (.bin .pow (.int 10) (.int 30)) .nil))) .nil)))) .nil))))
  .nil)))
def d_law_odd_lot : Fd := ⟨2, 4, b_law_odd_lot, []⟩
/-- slots: 0 jar 1 n 2 timed_lot 3 v 4 slot 5 one 6 last 7 found 8 u 9 key -/
def b_law_great_rows : Ss := (.cons (.asg (.tup (.cons (.name 3) (.cons (.name 4) .nil))) (.tup (.cons (.call f_law_take (.cons (.var 0) (.cons (.var 1) .nil))) (.cons (.call f_law_one (.cons (.var 0) (.cons (.lst (.cons (.int 0) (.cons (.int 7) (.cons (.bin .pow (.int 10) (.int 6)) .nil)))) .nil))) .nil))))
  (.cons (.ite (.cmp .nmem (.var 3) (.var 2)) (.cons (.ret (.tup (.cons (.tup (.cons (.var 4) (.cons (.var 3) (.cons (.un .neg (.int 1)) (.cons (.call f_law_one (.cons (.var 0) (.cons (.lst (.cons (.int 1) (.cons (.bin .pow (.int 10) (.int 6)) .nil))) .nil))) .nil))))) .nil)))
  .nil) .nil)
  (.cons (.asg (.name 5) (.bin .add (.int 1) (.call f_law_take (.cons (.var 0) (.cons (.bin .sub (.bin .pow (.int 10) (.int 6)) (.int 1)) .nil)))))
  (.cons (.asg (.name 6) (.bin .add (.bin .sub (.bin .pow (.int 10) (.int 6)) (.var 5)) (.call f_law_one (.cons (.var 0) (.cons (.lst (.cons (.int 0) (.cons (.int 0) (.cons (.int 1) (.cons (.int 1) (.cons (.un .neg (.int 1)) (.cons (.bin .sub (.var 5) (.int 1)) .nil))))))) .nil)))))
  (.cons (.asg (.name 7) (.dct (.cons (.tup (.cons (.var 4) (.cons (.var 3) (.cons (.var 4) .nil)))) (.cons (.var 5) (.cons (.tup (.cons (.var 4) (.cons (.var 3) (.cons (.bin .add (.var 4) (.call f_law_one (.cons (.var 0) (.cons (.lst (.cons (.int 1) (.cons (.bin .pow (.int 10) (.int 6)) (.cons (.int 5) .nil)))) .nil)))) .nil)))) (.cons (.bi .max2 (.cons (.int 1) (.cons (.bi .min2 (.cons (.var 6) (.cons (.bin .pow (.int 10) (.int 6)) .nil))) .nil))) .nil))))))
  (.cons (.asg (.name 8) (.call f_law_one (.cons (.var 0) (.cons (.var 2) .nil))))
  (.cons (.asg (.sub (.var 7) (.tup (.cons (.call f_law_one (.cons (.var 0) (.cons (.lst (.cons (.var 4) (.cons (.int 9) .nil))) .nil))) (.cons (.var 8) (.cons (.bin .add (.var 4) (.int 9)) .nil))))) (.bin .pow (.int 10) (.int 6)))
  (.cons (.ret (.bi .tuple (.cons (.comp [9] (.bin .add (.var 9) (.tup (.cons (.sub (.var 7) (.var 9)) .nil))) (.name 9) (.seq (.bi .sorted (.cons (.var 7) .nil))) (.cons (.and (.cons (.cmp .le (.sub (.var 9) (.int 0)) (.sub (.var 9) (.int 2))) (.cons (.cmp .le (.sub (.var 9) (.int 2)) (.bin .add (.sub (.var 9) (.int 0)) (.bin .pow (.int 10) (.int 6)))) .nil))) .nil)) .nil)))
  .nil))))))))
def d_law_great_rows : Fd := ⟨3, 10, b_law_great_rows, []⟩
/-- slots: 0 jar 1 n 2 rows 3 at 4 slot 5 v 6 due 7 many 8 odds_now 9 odd 10 put_in 11 put_for -/
def b_law_odd_rows : Ss := (.cons (.ite (.cmp .eq (.var 2) (.tup .nil)) (.cons (.ret (.call f_law_one (.cons (.var 0) (.cons (.lst (.cons .non (.cons (.lst .nil) (.cons (.tup (.cons (.tup (.cons (.int 0) (.cons (.var 1) (.cons (.int 0) (.cons (.int 1) .nil))))) .nil)) (.cons (.tup (.cons .non .nil)) (.cons (.tup (.cons (.tup (.cons (.int 0) (.cons (.int 0) (.cons (.un .neg (.int 2)) (.cons (.int 1) .nil))))) .nil)) .nil)))))) .nil))))
  .nil) .nil)
  (.cons (.asg (.name 3) (.call f_law_take (.cons (.var 0) (.cons (.bi .len (.cons (.var 2) .nil)) .nil))))
  (.cons (.asg (.tup (.cons (.name 4) (.cons (.name 5) (.cons (.name 6) (.cons (.name 7) .nil))))) (.sub (.var 2) (.var 3)))
  (.cons (.asg (.name 8) (.lst (.cons (.tup (.cons (.var 4) (.cons (.var 1) (.cons (.var 6) (.cons (.var 7) .nil))))) (.cons (.tup (.cons (.var 4) (.cons (.var 5) (.cons (.var 6) (.cons (.int 0) .nil))))) (.cons (.tup (.cons (.var 4) (.cons (.var 5) (.cons (.bin .sub (.var 4) (.int 1)) (.cons (.var 7) .nil))))) (.cons (.tup (.cons (.var 4) (.cons (.var 5) (.cons (.var 6) .nil)))) (.cons .non (.cons (.sub (.var 2) (.int 0)) .nil))))))))
  (.cons (.asg (.name 9) (.call f_law_one (.cons (.var 0) (.cons (.var 8) .nil))))
  (.cons (.asg (.tup (.cons (.name 10) (.cons (.name 11) .nil))) (.tup (.cons (.bin .add (.bin .add (.slU (.var 2) (.var 3)) (.tup (.cons (.var 9) .nil))) (.slL (.var 2) (.var 3))) (.cons (.bin .add (.bin .add (.slU (.var 2) (.var 3)) (.tup (.cons (.var 9) .nil))) (.slL (.var 2) (.bin .add (.var 3) (.int 1)))) .nil))))
  (.cons (.ret (.call f_law_one (.cons (.var 0) (.cons (.lst (.cons (.var 11) (.cons (.var 10) (.cons (.bi .list (.cons (.var 2) .nil)) (.cons (.rev (.var 2)) (.cons (.int 7) (.cons (.bin .mul (.tup (.cons .non .nil)) (.int 401)) .nil))))))) .nil))))
  .nil)))))))
def d_law_odd_rows : Fd := ⟨3, 12, b_law_odd_rows, []⟩
/-- slots: 0 n 1 timed_lot 2 rows 3 fault -/
def b_law_head_wrong : Ss := (.cons (.asg (.name 3) (.call f_law_wrong_many (.cons (.var 0) (.cons (.int 0) (.cons (.int 24) .nil)))))
  (.cons (.ite (.cmp .is (.var 3) .non) (.cons (.asg (.name 3) (.call f_law_wrong_lot (.cons (.var 0) (.cons (.var 1) .nil))))
  .nil) .nil)
  (.cons (.ret (.ite (.cmp .isn (.var 3) .non) (.var 3) (.call f_law_wrong_due_rows (.cons (.var 0) (.cons (.var 1) (.cons (.var 2) .nil))))))
  .nil)))
def d_law_head_wrong : Fd := ⟨3, 4, b_law_head_wrong, []⟩
/-- slots: 0 n 1 timed_lot 2 rows 3 fault 4 owed -/
def b_law_plain_asked : Ss := (.cons (.asg (.name 3) (.call f_law_head_wrong (.cons (.var 0) (.cons (.var 1) (.cons (.var 2) .nil)))))
  (.cons (.ite (.cmp .is (.var 3) .non) (.cons (.asg (.name 3) (.call f_law_wrong_sums (.cons (.var 2) .nil)))
  .nil) .nil)
  (.cons (.asg (.name 4) (.ite (.cmp .isn (.var 3) .non) (.var 3) (.tup (.cons (.str (PySem.Str.ofString "told")) (.cons (.call f_law_plain_of (.cons (.var 2) .nil)) .nil)))))
  (.cons (.ret (.call f_law_same (.cons (.call f_law_heard (.lam 0 .nil)) (.cons (.var 4) .nil))))
  .nil))))
def d_law_plain_asked : Fd := ⟨3, 5, b_law_plain_asked, [([0, 1, 2], (.call f_plain_rows (.cons (.var 0) (.cons (.var 1) (.cons (.var 2) .nil)))))]⟩
/-- slots: 0 n 1 timed_lot 2 rows 3 lot 4 slot 5 due 6 fault 7 owed 8 v -/
def b_law_load_asked : Ss := (.cons (.asg (.name 6) (.call f_law_head_wrong (.cons (.var 0) (.cons (.var 1) (.cons (.var 2) .nil)))))
  (.cons (.ite (.cmp .is (.var 6) .non) (.cons (.asg (.name 6) (.call f_law_wrong_lot (.cons (.var 0) (.cons (.var 3) .nil))))
  .nil) .nil)
  (.cons (.ite (.cmp .is (.var 6) .non) (.cons (.asg (.name 6) (.call f_law_wrong_slot (.cons (.var 4) .nil)))
  .nil) .nil)
  (.cons (.ite (.cmp .is (.var 6) .non) (.cons (.asg (.name 6) (.call f_law_wrong_many (.cons (.var 5) (.cons (.int 0) (.cons (.bin .mul (.int 2) (.bin .pow (.int 10) (.int 6))) .nil)))))
  .nil) .nil)
  (.cons (.asg (.name 7) (.var 6))
  (.cons (.ite (.cmp .is (.var 6) .non) (.cons (.asg (.name 7) (.tup (.cons (.str (PySem.Str.ofString "told")) (.cons (.call f_law_due_load_of (.cons (.var 2) (.cons (.comp [8] (.var 8) (.name 8) (.seq (.var 3)) (.cons (.cmp .mem (.var 8) (.var 1)) .nil)) (.cons (.var 4) (.cons (.var 5) .nil))))) .nil))))
  .nil) .nil)
  (.cons (.ret (.call f_law_same (.cons (.call f_law_heard (.lam 0 .nil)) (.cons (.var 7) .nil))))
  .nil)))))))
def d_law_load_asked : Fd := ⟨6, 9, b_law_load_asked, [([0, 1, 2, 3, 4, 5], (.call f_due_load (.cons (.var 0) (.cons (.var 1) (.cons (.var 2) (.cons (.var 3) (.cons (.var 4) (.cons (.var 5) .nil))))))))]⟩
/-- slots: 0 jar 1 rows 2 row -/
def b_law_some_slot : Ss := (.cons (.asg (.name 2) (.call f_law_one (.cons (.var 0) (.cons (.bin .add (.var 1) (.tup (.cons (.tup (.cons (.int 0) (.cons (.int 0) (.cons (.int 0) (.cons (.int 1) .nil))))) .nil))) .nil))))
  (.cons (.ret (.bi .min2 (.cons (.bin .pow (.int 10) (.int 6)) (.cons (.bi .max2 (.cons (.int 0) (.cons (.call f_law_one (.cons (.var 0) (.cons (.lst (.cons (.sub (.var 2) (.int 0)) (.cons (.bin .add (.sub (.var 2) (.int 0)) (.int 1)) (.cons (.bin .sub (.sub (.var 2) (.int 0)) (.int 1)) (.cons (.int 0) (.cons (.bin .pow (.int 10) (.int 6)) (.cons (.call f_law_take (.cons (.var 0) (.cons (.int 20) .nil))) .nil))))))) .nil))) .nil))) .nil))))
  .nil))
def d_law_some_slot : Fd := ⟨2, 3, b_law_some_slot, []⟩
/-- slots: 0 jar 1 rows 2 row 3 near_by -/
def b_law_some_due : Ss := (.cons (.asg (.name 2) (.call f_law_one (.cons (.var 0) (.cons (.bin .add (.var 1) (.tup (.cons (.tup (.cons (.int 0) (.cons (.int 0) (.cons (.int 0) (.cons (.int 1) .nil))))) .nil))) .nil))))
  (.cons (.asg (.name 3) (.lst (.cons (.sub (.var 2) (.int 2)) (.cons (.bin .add (.sub (.var 2) (.int 2)) (.int 1)) (.cons (.bin .sub (.sub (.var 2) (.int 2)) (.int 1)) (.cons (.int 0) (.cons (.bin .mul (.int 2) (.bin .pow (.int 10) (.int 6))) (.cons (.sub (.var 2) (.int 0)) (.cons (.call f_law_take (.cons (.var 0) (.cons (.int 30) .nil))) .nil)))))))))
  (.cons (.ret (.bi .min2 (.cons (.bin .mul (.int 2) (.bin .pow (.int 10) (.int 6))) (.cons (.bi .max2 (.cons (.int 0) (.cons (.call f_law_one (.cons (.var 0) (.cons (.var 3) .nil))) .nil))) .nil))))
  .nil)))
def d_law_some_due : Fd := ⟨2, 4, b_law_some_due, []⟩
/-- slots: 0 jar 1 n 2 timed_lot 3 rows 4 turn 5 lot 6 slot 7 due 8 which 9 odd -/
def b_law_loads_right : Ss := (.cons (.for (.name 4) (.rg1 (.int 8)) (.cons (.asg (.name 5) (.call f_law_one (.cons (.var 0) (.cons (.lst (.cons (.call f_law_drawn_lot (.cons (.var 0) (.cons (.var 1) .nil))) (.cons (.trg1 (.var 1)) (.cons (.var 2) .nil)))) .nil))))
  (.cons (.ite (.not (.call f_law_load_asked (.cons (.var 1) (.cons (.var 2) (.cons (.var 3) (.cons (.var 5) (.cons (.call f_law_some_slot (.cons (.var 0) (.cons (.var 3) .nil))) (.cons (.call f_law_some_due (.cons (.var 0) (.cons (.var 3) .nil))) .nil)))))))) (.cons (.ret (.bl false))
  .nil) .nil)
  .nil)))
  (.cons (.for (.name 4) (.rg1 (.int 4)) (.cons (.asg (.tup (.cons (.name 5) (.cons (.name 6) (.cons (.name 7) .nil)))) (.tup (.cons (.call f_law_drawn_lot (.cons (.var 0) (.cons (.var 1) .nil))) (.cons (.call f_law_some_slot (.cons (.var 0) (.cons (.var 3) .nil))) (.cons (.call f_law_some_due (.cons (.var 0) (.cons (.var 3) .nil))) .nil)))))
  (.cons (.asg (.name 8) (.bin .add (.int 1) (.call f_law_take (.cons (.var 0) (.cons (.int 7) .nil)))))
  (.cons (.asg (.name 5) (.ite (.cmp .mem (.var 8) (.tup (.cons (.int 1) (.cons (.int 3) (.cons (.int 5) (.cons (.int 7) .nil)))))) (.call f_law_odd_lot (.cons (.var 0) (.cons (.var 1) .nil))) (.var 5)))
  (.cons (.asg (.name 6) (.ite (.cmp .mem (.var 8) (.tup (.cons (.int 2) (.cons (.int 3) (.cons (.int 6) (.cons (.int 7) .nil)))))) (.call f_law_one (.cons (.var 0) (.cons (.lst (.cons (.un .neg (.int 1)) (.cons (.bin .add (.bin .pow (.int 10) (.int 6)) (.int 1)) (.cons .non (.cons (.bl true) (.cons (.str (PySem.Str.ofString "0")) (.cons (.bin .pow (.int 10) (.int 30)) .nil))))))) .nil))) (.var 6)))
  (.cons (.asg (.name 7) (.ite (.cmp .gt (.var 8) (.int 3)) (.call f_law_one (.cons (.var 0) (.cons (.lst (.cons (.un .neg (.int 1)) (.cons (.bin .add (.bin .mul (.int 2) (.bin .pow (.int 10) (.int 6))) (.int 1)) (.cons .non (.cons (.bl true) (.cons (.tup (.cons (.int 0) .nil)) (.cons (.un .neg (.bin .pow (.int 10) (.int 30))) .nil))))))) .nil))) (.var 7)))
  (.cons (.ite (.not (.call f_law_load_asked (.cons (.var 1) (.cons (.var 2) (.cons (.var 3) (.cons (.var 5) (.cons (.var 6) (.cons (.var 7) .nil)))))))) (.cons (.ret (.bl false))
  .nil) .nil)
  (.cons (.asg (.name 9) (.call f_law_one (.cons (.var 0) (.cons (.lst (.cons (.call f_law_odd_rows (.cons (.var 0) (.cons (.var 1) (.cons (.var 3) .nil)))) (.cons (.var 3) .nil))) .nil))))
  (.cons (.ite (.not (.call f_law_load_asked (.cons (.var 1) (.cons (.var 2) (.cons (.var 9) (.cons (.var 5) (.cons (.var 6) (.cons (.var 7) .nil)))))))) (.cons (.ret (.bl false))
  .nil) .nil)
  .nil)))))))))
  (.cons (.ret (.bl true))
  .nil)))
def d_law_loads_right : Fd := ⟨4, 10, b_law_loads_right, []⟩
/-- slots: 0 jar 1 n 2 timed_lot 3 rows 4 turn 5 many 6 lot 7 thing -/
def b_law_head_right : Ss := (.cons (.for (.name 4) (.rg1 (.int 3)) (.cons (.asg (.name 5) (.call f_law_one (.cons (.var 0) (.cons (.lst (.cons (.var 1) (.cons (.var 1) (.cons (.call f_law_odd_count (.cons (.var 0) .nil)) .nil)))) .nil))))
  (.cons (.asg (.name 6) (.call f_law_one (.cons (.var 0) (.cons (.lst (.cons (.var 2) (.cons (.var 2) (.cons (.call f_law_odd_lot (.cons (.var 0) (.cons (.var 1) .nil))) .nil)))) .nil))))
  (.cons (.asg (.name 7) (.call f_law_odd_rows (.cons (.var 0) (.cons (.var 1) (.cons (.var 3) .nil)))))
  (.cons (.ite (.or (.cons (.not (.call f_law_plain_asked (.cons (.var 5) (.cons (.var 6) (.cons (.var 7) .nil))))) (.cons (.not (.call f_law_load_asked (.cons (.var 5) (.cons (.var 6) (.cons (.var 7) (.cons .non (.cons .non (.cons .non .nil)))))))) .nil))) (.cons (.ret (.bl false))
  .nil) .nil)
  (.cons (.ite (.or (.cons (.not (.call f_law_plain_asked (.cons (.var 1) (.cons (.var 6) (.cons (.var 3) .nil))))) (.cons (.not (.call f_law_load_asked (.cons (.var 1) (.cons (.var 2) (.cons (.var 7) (.cons (.tup .nil) (.cons (.int 0) (.cons (.int 0) .nil)))))))) .nil))) (.cons (.ret (.bl false))
  .nil) .nil)
  .nil))))))
  (.cons (.ret (.bl true))
  .nil))
def d_law_head_right : Fd := ⟨4, 8, b_law_head_right, []⟩
/-- slots: 0 script 1 go 2 jar 3 n 4 timed_lot 5 turn 6 rows -/
def b_law : Ss := (.cons (.for (.name 1) (.rg1 (.int 4)) (.cons (.asg (.name 2) (.call f_law_pool (.cons (.var 0) (.cons (.var 1) .nil))))
  (.cons (.asg (.name 3) (.call f_law_one (.cons (.var 2) (.cons (.lst (.cons (.int 1) (.cons (.int 2) (.cons (.int 3) (.cons (.int 3) (.cons (.int 4) (.cons (.int 5) (.cons (.int 8) (.cons (.int 24) (.cons (.int 0) .nil)))))))))) .nil))))
  (.cons (.asg (.name 4) (.call f_law_one (.cons (.var 2) (.cons (.lst (.cons (.call f_law_drawn_lot (.cons (.var 2) (.cons (.var 3) .nil))) (.cons (.call f_law_drawn_lot (.cons (.var 2) (.cons (.var 3) .nil))) (.cons (.tup .nil) (.cons (.trg1 (.var 3)) .nil))))) .nil))))
  (.cons (.for (.name 5) (.rg1 (.int 4)) (.cons (.asg (.name 6) (.call f_law_drawn_due_rows (.cons (.var 2) (.cons (.var 3) (.cons (.var 4) (.cons (.call f_law_one (.cons (.var 2) (.cons (.lst (.cons (.int 3) (.cons (.int 8) (.cons (.int 20) .nil)))) .nil))) .nil))))))
  (.cons (.ite (.and (.cons (.cmp .eq (.var 5) (.int 0)) (.cons (.cmp .gt (.var 3) (.int 0)) .nil))) (.cons (.asg (.name 6) (.call f_law_great_rows (.cons (.var 2) (.cons (.var 3) (.cons (.var 4) .nil)))))
  .nil) .nil)
  (.cons (.ite (.or (.cons (.not (.call f_law_plain_asked (.cons (.var 3) (.cons (.var 4) (.cons (.var 6) .nil))))) (.cons (.not (.call f_law_loads_right (.cons (.var 2) (.cons (.var 3) (.cons (.var 4) (.cons (.var 6) .nil)))))) .nil))) (.cons (.ret (.bl false))
  .nil) .nil)
  (.cons (.ite (.not (.call f_law_head_right (.cons (.var 2) (.cons (.var 3) (.cons (.var 4) (.cons (.var 6) .nil)))))) (.cons (.ret (.bl false))
  .nil) .nil)
  .nil)))))
  .nil)))))
  (.cons (.ret (.bl true))
  .nil))
def d_law : Fd := ⟨1, 7, b_law, []⟩
def progL : List (Option Fd) := [some d_whole, some d_asked_lot, some d_asked_slot, some d_asked_streams, some d_is_due_row, some d_made_due_rows, some d_summed, some d_asked_sums, some d_plain_rows, some d_load_due, some d_due_load, some d_law_is_whole, some d_law_same, none, some d_law_heard, some d_law_pool, some d_law_take, some d_law_one, some d_law_some, some d_law_is_number, some d_law_wrong_many, some d_law_wrong_slot, some d_law_wrong_lot, some d_law_drawn_lot, some d_law_wrong_due_rows, some d_law_plain_of, some d_law_wrong_sums, some d_law_due_load_of, some d_law_drawn_due_rows, some d_law_odd_count, some d_law_odd_lot, some d_law_great_rows, some d_law_odd_rows, some d_law_head_wrong, some d_law_plain_asked, some d_law_load_asked, some d_law_some_slot, some d_law_some_due, some d_law_loads_right, some d_law_head_right, some d_law]
def prog (n : Nat) : Option Fd := (progL[n]?).bind id
/-- slots of the defs: (number, name, slots, is it handed a closure) -/
def slots : List (Nat × PySem.Str × List PySem.Str × Bool) := [(0, (PySem.Str.ofString "whole"), [(PySem.Str.ofString "thing"), (PySem.Str.ofString "low"), (PySem.Str.ofString "high")], false),
  (1, (PySem.Str.ofString "asked_lot"), [(PySem.Str.ofString "n"), (PySem.Str.ofString "lot"), (PySem.Str.ofString "last"), (PySem.Str.ofString "index"), (PySem.Str.ofString "stream")], false),
  (2, (PySem.Str.ofString "asked_slot"), [(PySem.Str.ofString "slot")], false),
  (3, (PySem.Str.ofString "asked_streams"), [(PySem.Str.ofString "n")], false),
  (4, (PySem.Str.ofString "is_due_row"), [(PySem.Str.ofString "n"), (PySem.Str.ofString "timed"), (PySem.Str.ofString "thing"), (PySem.Str.ofString "slot"), (PySem.Str.ofString "stream"), (PySem.Str.ofString "due"), (PySem.Str.ofString "many")], false),
  (5, (PySem.Str.ofString "made_due_rows"), [(PySem.Str.ofString "n"), (PySem.Str.ofString "timed"), (PySem.Str.ofString "thing"), (PySem.Str.ofString "ahead"), (PySem.Str.ofString "index"), (PySem.Str.ofString "row"), (PySem.Str.ofString "slot"), (PySem.Str.ofString "stream"), (PySem.Str.ofString "due"), (PySem.Str.ofString "many")], false),
  (6, (PySem.Str.ofString "summed"), [(PySem.Str.ofString "rows"), (PySem.Str.ofString "found"), (PySem.Str.ofString "slot"), (PySem.Str.ofString "stream"), (PySem.Str.ofString "_"), (PySem.Str.ofString "many")], false),
  (7, (PySem.Str.ofString "asked_sums"), [(PySem.Str.ofString "rows"), (PySem.Str.ofString "found"), (PySem.Str.ofString "total"), (PySem.Str.ofString "slot"), (PySem.Str.ofString "stream")], false),
  (8, (PySem.Str.ofString "plain_rows"), [(PySem.Str.ofString "n"), (PySem.Str.ofString "timed"), (PySem.Str.ofString "rows")], false),
  (9, (PySem.Str.ofString "load_due"), [(PySem.Str.ofString "timed"), (PySem.Str.ofString "rows"), (PySem.Str.ofString "lot"), (PySem.Str.ofString "slot"), (PySem.Str.ofString "due"), (PySem.Str.ofString "at"), (PySem.Str.ofString "stream"), (PySem.Str.ofString "last"), (PySem.Str.ofString "many")], false),
  (10, (PySem.Str.ofString "due_load"), [(PySem.Str.ofString "n"), (PySem.Str.ofString "timed"), (PySem.Str.ofString "rows"), (PySem.Str.ofString "lot"), (PySem.Str.ofString "slot"), (PySem.Str.ofString "due")], false),
  (11, (PySem.Str.ofString "_law_is_whole"), [(PySem.Str.ofString "thing")], false),
  (12, (PySem.Str.ofString "_law_same"), [(PySem.Str.ofString "told"), (PySem.Str.ofString "owed"), (PySem.Str.ofString "at")], false),
  (14, (PySem.Str.ofString "_law_heard"), [(PySem.Str.ofString "deed"), (PySem.Str.ofString "refused_one"), (PySem.Str.ofString "line")], true),
  (15, (PySem.Str.ofString "_law_pool"), [(PySem.Str.ofString "script"), (PySem.Str.ofString "k"), (PySem.Str.ofString "cell"), (PySem.Str.ofString "big"), (PySem.Str.ofString "mixed")], false),
  (16, (PySem.Str.ofString "_law_take"), [(PySem.Str.ofString "jar"), (PySem.Str.ofString "top"), (PySem.Str.ofString "number")], false),
  (17, (PySem.Str.ofString "_law_one"), [(PySem.Str.ofString "jar"), (PySem.Str.ofString "things")], false),
  (18, (PySem.Str.ofString "_law_some"), [(PySem.Str.ofString "jar"), (PySem.Str.ofString "things"), (PySem.Str.ofString "thing")], false),
  (19, (PySem.Str.ofString "_law_is_number"), [(PySem.Str.ofString "thing"), (PySem.Str.ofString "low"), (PySem.Str.ofString "high")], false),
  (20, (PySem.Str.ofString "_law_wrong_many"), [(PySem.Str.ofString "thing"), (PySem.Str.ofString "low"), (PySem.Str.ofString "high")], false),
  (21, (PySem.Str.ofString "_law_wrong_slot"), [(PySem.Str.ofString "thing")], false),
  (22, (PySem.Str.ofString "_law_wrong_lot"), [(PySem.Str.ofString "n"), (PySem.Str.ofString "thing"), (PySem.Str.ofString "at")], false),
  (23, (PySem.Str.ofString "_law_drawn_lot"), [(PySem.Str.ofString "jar"), (PySem.Str.ofString "n")], false),
  (24, (PySem.Str.ofString "_law_wrong_due_rows"), [(PySem.Str.ofString "n"), (PySem.Str.ofString "timed_lot"), (PySem.Str.ofString "thing"), (PySem.Str.ofString "at"), (PySem.Str.ofString "row"), (PySem.Str.ofString "low"), (PySem.Str.ofString "high")], false),
  (25, (PySem.Str.ofString "_law_plain_of"), [(PySem.Str.ofString "rows"), (PySem.Str.ofString "found"), (PySem.Str.ofString "slot"), (PySem.Str.ofString "v"), (PySem.Str.ofString "due"), (PySem.Str.ofString "many"), (PySem.Str.ofString "key")], false),
  (26, (PySem.Str.ofString "_law_wrong_sums"), [(PySem.Str.ofString "rows"), (PySem.Str.ofString "bad"), (PySem.Str.ofString "row")], false),
  (27, (PySem.Str.ofString "_law_due_load_of"), [(PySem.Str.ofString "rows"), (PySem.Str.ofString "streams"), (PySem.Str.ofString "slot"), (PySem.Str.ofString "due"), (PySem.Str.ofString "row")], false),
  (28, (PySem.Str.ofString "_law_drawn_due_rows"), [(PySem.Str.ofString "jar"), (PySem.Str.ofString "n"), (PySem.Str.ofString "timed_lot"), (PySem.Str.ofString "many"), (PySem.Str.ofString "found"), (PySem.Str.ofString "last"), (PySem.Str.ofString "go"), (PySem.Str.ofString "slot"), (PySem.Str.ofString "v"), (PySem.Str.ofString "cars"), (PySem.Str.ofString "due"), (PySem.Str.ofString "key")], false),
  (29, (PySem.Str.ofString "_law_odd_count"), [(PySem.Str.ofString "jar")], false),
  (30, (PySem.Str.ofString "_law_odd_lot"), [(PySem.Str.ofString "jar"), (PySem.Str.ofString "n"), (PySem.Str.ofString "v"), (PySem.Str.ofString "odds_now")], false),
  (31, (PySem.Str.ofString "_law_great_rows"), [(PySem.Str.ofString "jar"), (PySem.Str.ofString "n"), (PySem.Str.ofString "timed_lot"), (PySem.Str.ofString "v"), (PySem.Str.ofString "slot"), (PySem.Str.ofString "one"), (PySem.Str.ofString "last"), (PySem.Str.ofString "found"), (PySem.Str.ofString "u"), (PySem.Str.ofString "key")], false),
  (32, (PySem.Str.ofString "_law_odd_rows"), [(PySem.Str.ofString "jar"), (PySem.Str.ofString "n"), (PySem.Str.ofString "rows"), (PySem.Str.ofString "at"), (PySem.Str.ofString "slot"), (PySem.Str.ofString "v"), (PySem.Str.ofString "due"), (PySem.Str.ofString "many"), (PySem.Str.ofString "odds_now"), (PySem.Str.ofString "odd"), (PySem.Str.ofString "put_in"), (PySem.Str.ofString "put_for")], false),
  (33, (PySem.Str.ofString "_law_head_wrong"), [(PySem.Str.ofString "n"), (PySem.Str.ofString "timed_lot"), (PySem.Str.ofString "rows"), (PySem.Str.ofString "fault")], false),
  (34, (PySem.Str.ofString "_law_plain_asked"), [(PySem.Str.ofString "n"), (PySem.Str.ofString "timed_lot"), (PySem.Str.ofString "rows"), (PySem.Str.ofString "fault"), (PySem.Str.ofString "owed")], false),
  (35, (PySem.Str.ofString "_law_load_asked"), [(PySem.Str.ofString "n"), (PySem.Str.ofString "timed_lot"), (PySem.Str.ofString "rows"), (PySem.Str.ofString "lot"), (PySem.Str.ofString "slot"), (PySem.Str.ofString "due"), (PySem.Str.ofString "fault"), (PySem.Str.ofString "owed"), (PySem.Str.ofString "v")], false),
  (36, (PySem.Str.ofString "_law_some_slot"), [(PySem.Str.ofString "jar"), (PySem.Str.ofString "rows"), (PySem.Str.ofString "row")], false),
  (37, (PySem.Str.ofString "_law_some_due"), [(PySem.Str.ofString "jar"), (PySem.Str.ofString "rows"), (PySem.Str.ofString "row"), (PySem.Str.ofString "near_by")], false),
  (38, (PySem.Str.ofString "_law_loads_right"), [(PySem.Str.ofString "jar"), (PySem.Str.ofString "n"), (PySem.Str.ofString "timed_lot"), (PySem.Str.ofString "rows"), (PySem.Str.ofString "turn"), (PySem.Str.ofString "lot"), (PySem.Str.ofString "slot"), (PySem.Str.ofString "due"), (PySem.Str.ofString "which"), (PySem.Str.ofString "odd")], false),
  (39, (PySem.Str.ofString "_law_head_right"), [(PySem.Str.ofString "jar"), (PySem.Str.ofString "n"), (PySem.Str.ofString "timed_lot"), (PySem.Str.ofString "rows"), (PySem.Str.ofString "turn"), (PySem.Str.ofString "many"), (PySem.Str.ofString "lot"), (PySem.Str.ofString "thing")], false),
  (40, (PySem.Str.ofString "law"), [(PySem.Str.ofString "script"), (PySem.Str.ofString "go"), (PySem.Str.ofString "jar"), (PySem.Str.ofString "n"), (PySem.Str.ofString "timed_lot"), (PySem.Str.ofString "turn"), (PySem.Str.ofString "rows")], false)]
def withLams : List PySem.Str := [(PySem.Str.ofString "_law_plain_asked"), (PySem.Str.ofString "_law_load_asked")]
def clsList : List (PySem.Str × Nat) := [((PySem.Str.ofString "Refused"), 0), ((PySem.Str.ofString "BadBook"), 1), ((PySem.Str.ofString "BadBar"), 2), ((PySem.Str.ofString "NoBar"), 3), ((PySem.Str.ofString "Barred"), 4), ((PySem.Str.ofString "BadPhases"), 5), ((PySem.Str.ofString "Missing"), 6), ((PySem.Str.ofString "BadStream"), 7), ((PySem.Str.ofString "BadLot"), 8), ((PySem.Str.ofString "BadOrder"), 9), ((PySem.Str.ofString "BadHang"), 10), ((PySem.Str.ofString "NotHung"), 11), ((PySem.Str.ofString "BadComings"), 12), ((PySem.Str.ofString "BadSlot"), 13), ((PySem.Str.ofString "NoCar"), 14), ((PySem.Str.ofString "BadLate"), 15), ((PySem.Str.ofString "BadWires"), 16), ((PySem.Str.ofString "BadPaper"), 17), ((PySem.Str.ofString "BadPlan"), 18), ((PySem.Str.ofString "Deaf"), 19), ((PySem.Str.ofString "BadCome"), 20), ((PySem.Str.ofString "Unheard"), 21), ((PySem.Str.ofString "BadCase"), 22), ((PySem.Str.ofString "BadLeft"), 23), ((PySem.Str.ofString "BadFormula"), 24), ((PySem.Str.ofString "BadRules"), 25), ((PySem.Str.ofString "BadRing"), 26), ((PySem.Str.ofString "BadIndex"), 27), ((PySem.Str.ofString "Ranked"), 28), ((PySem.Str.ofString "TramFlaw"), 29), ((PySem.Str.ofString "BadTurn"), 30), ((PySem.Str.ofString "BadEyes"), 31), ((PySem.Str.ofString "BadFailed"), 32), ((PySem.Str.ofString "BadGreens"), 33), ((PySem.Str.ofString "TooShort"), 34), ((PySem.Str.ofString "BadRound"), 35), ((PySem.Str.ofString "Hungry"), 36), ((PySem.Str.ofString "BadTown"), 37), ((PySem.Str.ofString "Uneven"), 38), ((PySem.Str.ofString "BadStarts"), 39), ((PySem.Str.ofString "BadSchedule"), 40), ((PySem.Str.ofString "BadTable"), 41), ((PySem.Str.ofString "YieldFlaw"), 42), ((PySem.Str.ofString "Same"), 43), ((PySem.Str.ofString "BadDeed"), 44), ((PySem.Str.ofString "Closed"), 45), ((PySem.Str.ofString "BadSlots"), 46), ((PySem.Str.ofString "Wired"), 47), ((PySem.Str.ofString "NoWire"), 48), ((PySem.Str.ofString "Behind"), 49), ((PySem.Str.ofString "BadOffice"), 50), ((PySem.Str.ofString "BadStamp"), 51), ((PySem.Str.ofString "BadDeeds"), 52), ((PySem.Str.ofString "NothingToUndo"), 53), ((PySem.Str.ofString "NothingToRedo"), 54), ((PySem.Str.ofString "BadText"), 55), ((PySem.Str.ofString "WrongLine"), 56), ((PySem.Str.ofString "BadNames"), 57), ((PySem.Str.ofString "Busy"), 58), ((PySem.Str.ofString "BadMany"), 59), ((PySem.Str.ofString "TooMany"), 60), ((PySem.Str.ofString "BadDueRows"), 61), ((PySem.Str.ofString "BadTimetable"), 62), ((PySem.Str.ofString "Forked"), 63), ((PySem.Str.ofString "Crowded"), 64), ((PySem.Str.ofString "Timed"), 65), ((PySem.Str.ofString "Untimed"), 66), ((PySem.Str.ofString "Overdue"), 67)]
def globList : List (PySem.Str × D) := [((PySem.Str.ofString "MOST_ROWS"), (.int 400)), ((PySem.Str.ofString "GREATEST"), (.int 1000000)), ((PySem.Str.ofString "MOST_DUE"), (.int 2000000))]
def raisedL : List Nat := [8, 13, 59, 60, 61]
end K03
set_option Elab.async false
set_option linter.all false
set_option maxRecDepth 100000
set_option maxHeartbeats 0
namespace He03
open PySem PySem.W PySem.Calls PyProof.Rows
abbrev L : OpenLaw := PySem.Challenge.rw_dueslots_k03_plain_rows_and_loads_of_due
abbrev R : OpenRow := OpenLaw.row L
abbrev qv : Program := view R.prog [118]
def topNames (p : Program) : List PySem.Str := (p.main.scope.names.map (·.1)).filter fun x => !(x == PySem.Str.ofString "law" || x == PySem.Str.ofString "__name__")
def names : List PySem.Str := topNames R.prog
def card : Sim.Card := ⟨K03.slots, K03.clsList, K03.globList, K03.prog, K03.withLams, 0, K03.raisedL⟩
def exK (K : Frag) : Bool := card.exK L.prog K && card.exH K && Sim.gloB K (PySem.Str.ofString "_law_classes")
def roots : List Addr := [2, 3, 34, 56, 77, 98, 119, 140, 161, 182, 203, 224, 245, 266, 287, 308, 329, 350, 371, 392, 413, 434, 455, 476, 497, 518, 539, 560, 581, 602, 623, 644, 665, 686, 707, 728, 749, 770, 791, 812, 833, 854, 875, 896, 917, 938, 959, 980, 1001, 1022, 1043, 1064, 1085, 1106, 1127, 1148, 1169, 1190, 1211, 1232, 1253, 1274, 1295, 1304, 1311, 1318, 1337, 1358, 1379, 1400, 1421, 1442, 1463, 1472, 1479, 1484, 1491, 1496, 1503, 1508, 1515, 1522, 1529, 1536, 1541, 1548, 1555, 1562, 1567, 1574, 1581, 1588, 1595, 1602, 1609, 1614, 1619, 1624, 1629, 1636, 1643, 1648, 1655, 1662, 1669, 1674, 1681, 1688, 1695, 1702, 1709, 33, 202, 307, 1273, 1294, 1303, 1310, 1317, 1336, 1471, 1478, 1483, 1490, 1495, 1502, 1507, 1514, 1521, 1528, 1535, 1540, 1547, 1554, 1561, 1566, 1573, 1580, 1587, 1594, 1601, 1608, 1613, 1618, 1623, 1628, 1635, 1642, 1647, 1654, 1661, 1668, 1673, 1680, 1687, 1694, 1701, 1708, 31, 200, 305, 1271, 1292, 1334, 30, 23, 18, 199, 188, 304, 293, 1270, 1259, 1291, 1280, 1333, 1322]
abbrev hk : Hook := Sim.hookS roots (card.fn L.prog) card.tf exK
def ob (s : SharedT) : Sim.Al2 := Sim.obsS roots (card.fn L.prog) card.tf exK (HandSHeadRun.getT s)
theorem ob_eq (s : SharedT) : ob s = hk.obs s.abs := Sim.obsS_eq (HandSHeadRun.getT_eq s)
end He03
set_option Elab.async false
set_option maxRecDepth 100000
set_option maxHeartbeats 0
noncomputable section
namespace He03
open PySem PySem.W PySem.Calls PyProof.Rows HandSHeadRun
section
variable (st : SharedT → Thread → Option (SharedT × Thread))
/-- the top to its end, no look at the single steps -/
def goH : Nat → SharedT → Thread → Option SharedT
  | 0, _, _ => none
  | m + 1, s, t => match through t with
    | true => some s
    | false => match st s t with
      | some (s', t') => frS s' fun s' => goH m s' t'
      | none => none
end
theorem goH_of {st : SharedT → Thread → Option (SharedT × Thread)} {n0 : Nat} {ann : Option Value} : ∀ {m : Nat} {s s' : SharedT} {t : Thread}, goF st n0 ann m s t = some s' → goH st m s t = some s'
  | 0, _, _, _, h => by cases h
  | m + 1, s, s', t, h => by
    unfold goF at h
    unfold goH
    cases ht : through t with
    | true => rw [ht] at h; exact h
    | false =>
      rw [ht] at h
      dsimp only at h ⊢
      cases hk : stepOk n0 ann t with
      | false => rw [hk] at h; cases h
      | true =>
        rw [hk] at h
        dsimp only at h
        cases hs : st s t with
        | none => rw [hs] at h; cases h
        | some r =>
          obtain ⟨s2, t2⟩ := r
          rw [hs] at h
          dsimp only at h ⊢
          rw [frS_eq] at h ⊢
          exact goH_of h
def endH (st : SharedT → Thread → Option (SharedT × Thread)) (M : Nat) (p : Program) (w : World) (os : OsState) : Option SharedT := match putAll (boot_heap w.params).objs.toList .nil 0 with
  | some (t, n) => frNat n fun n0 => goH st M (bootT w os (t, n0)) (topStub p)
  | none => none
theorem endH_of {st : SharedT → Thread → Option (SharedT × Thread)} {M : Nat} {p : Program} {w : World} {os : OsState} {s : SharedT} (h : endF st M p w os = some s) : endH st M p w os = some s := by
  unfold endF at h
  unfold endH
  cases e : putAll (boot_heap w.params).objs.toList .nil 0 with
  | none => rw [e] at h; cases h
  | some r =>
    obtain ⟨t, n⟩ := r
    rw [e] at h
    dsimp only at h ⊢
    rw [frNat_eq] at h ⊢
    exact goH_of h
section
variable (st : SharedT → Thread → Option (SharedT × Thread)) (n0 : Nat) (ann : Option Value) (c : Nat → Bool)
/-- the top to its end, a look at those steps that c tells -/
def goW : Nat → SharedT → Thread → Option SharedT
  | 0, _, _ => none
  | m + 1, s, t => match through t with
    | true => some s
    | false => match (match c m with | true => stepOk n0 ann t | false => true) with
      | false => none
      | true => match st s t with
        | some (s', t') => frS s' fun s' => goW m s' t'
        | none => none
end
theorem goF_of {st : SharedT → Thread → Option (SharedT × Thread)} {n0 : Nat} {ann : Option Value} {c d : Nat → Bool} (hcd : ∀ m, c m = true ∨ d m = true) : ∀ {m : Nat} {s s1 s2 : SharedT} {t : Thread}, goW st n0 ann c m s t = some s1 → goW st n0 ann d m s t = some s2 → goF st n0 ann m s t = some s1
  | 0, _, _, _, _, h, _ => by cases h
  | m + 1, s, s1, s2, t, h, h' => by
    unfold goW at h h'
    unfold goF
    cases ht : through t with
    | true => rw [ht] at h; exact h
    | false =>
      rw [ht] at h h'
      dsimp only at h h' ⊢
      have hk : stepOk n0 ann t = true := by
        rcases hcd m with z | z
        · rw [z] at h
          dsimp only at h
          cases hk : stepOk n0 ann t with
          | true => rfl
          | false => rw [hk] at h; cases h
        · rw [z] at h'
          dsimp only at h'
          cases hk : stepOk n0 ann t with
          | true => rfl
          | false => rw [hk] at h'; cases h'
      rw [hk]
      have h : (match st s t with | some (s', t') => frS s' fun s' => goW st n0 ann c m s' t' | none => none) = some s1 := by
        cases z : c m <;> (rw [z] at h; first | exact h | (dsimp only at h; rw [hk] at h; exact h))
      have h' : (match st s t with | some (s', t') => frS s' fun s' => goW st n0 ann d m s' t' | none => none) = some s2 := by
        cases z : d m <;> (rw [z] at h'; first | exact h' | (dsimp only at h'; rw [hk] at h'; exact h'))
      dsimp only
      cases hs : st s t with
      | none => rw [hs] at h; cases h
      | some r =>
        obtain ⟨s3, t3⟩ := r
        rw [hs] at h h'
        dsimp only at h h' ⊢
        rw [frS_eq] at h h' ⊢
        exact goF_of hcd h h'
def endW (st : SharedT → Thread → Option (SharedT × Thread)) (c : Nat → Bool) (M : Nat) (p : Program) (w : World) (os : OsState) : Option SharedT := match putAll (boot_heap w.params).objs.toList .nil 0 with
  | some (t, n) => frNat n fun n0 => goW st n0 (bootAnn w) c M (bootT w os (t, n0)) (topStub p)
  | none => none
theorem endF_of {st : SharedT → Thread → Option (SharedT × Thread)} {c d : Nat → Bool} (hcd : ∀ m, c m = true ∨ d m = true) {M : Nat} {p : Program} {w : World} {os : OsState} (h : (endW st c M p w os).isSome = true) (h' : (endW st d M p w os).isSome = true) : (endF st M p w os).isSome = true := by
  obtain ⟨s1, h⟩ := Option.isSome_iff_exists.mp h
  obtain ⟨s2, h'⟩ := Option.isSome_iff_exists.mp h'
  unfold endW at h h'
  unfold endF
  cases e : putAll (boot_heap w.params).objs.toList .nil 0 with
  | none => rw [e] at h; cases h
  | some r =>
    obtain ⟨t, n⟩ := r
    rw [e] at h h'
    dsimp only at h h' ⊢
    rw [frNat_eq] at h h' ⊢
    rw [goF_of hcd h h']
    rfl
/-- a step in the run's first part; M steps are left at first -/
def late (m : Nat) : Bool := Nat.ble 10000 m
def soon (m : Nat) : Bool := Nat.ble m 10000
theorem late_soon (m : Nat) : late m = true ∨ soon m = true := by
  unfold late soon
  rw [Nat.ble_eq, Nat.ble_eq]
  omega
/-- a run's facts, from parts -/
theorem run_parts {R : OpenRow} {q : Program} {H : Hook} {ob : SharedT → H.α} {M : Nat} {loose : List PySem.Str} {w : World}
    (h1 : ∀ os, (endF (stepQ (denQ tabQ) R.prog w) M R.prog w os).isSome = true)
    (h2 : ∀ os, (endH (stepQ (denQ tabQ) R.prog w) M R.prog w os).map (fun s => (looksF R.prog (boot_heap w.params) s.abs, seenQ q loose (importedModules R.prog.main.body) (fun s => xlAt q [] s && recOk R.toRowW.records s) s.abs)) = some (true, openGood q loose))
    (h3 : ∀ os, (endH (stepQ (denQ tabQ) R.prog w) M R.prog w os).map ob = some (H.val w)) : RunEq R q H ob M loose w := by
  intro os
  obtain ⟨s, hs⟩ := Option.isSome_iff_exists.mp (h1 os)
  have e := endH_of hs
  have g2 := h2 os
  have g3 := h3 os
  rw [e] at g2 g3
  rw [hs]
  have g2 := Option.some.inj g2
  have g3 := Option.some.inj g3
  rw [Prod.mk.injEq] at g2
  show some (_, _, _) = _
  rw [g2.1, g2.2, g3]
end He03
end
set_option Elab.async false
set_option maxRecDepth 100000
set_option maxHeartbeats 0
namespace He03
open PySem PySem.W PySem.Calls PyProof.Rows HandSHeadRun
theorem run1a (w : World) (os : OsState) : (endW (stepQ (denQ tabQ) R.prog w) late 20000 R.prog w os).isSome = true := by kernel_rfl
theorem run1b (w : World) (os : OsState) : (endW (stepQ (denQ tabQ) R.prog w) soon 20000 R.prog w os).isSome = true := by kernel_rfl
theorem run1 (w : World) (os : OsState) : (endF (stepQ (denQ tabQ) R.prog w) 20000 R.prog w os).isSome = true := endF_of late_soon (run1a w os) (run1b w os)
end He03
set_option Elab.async false
set_option maxRecDepth 100000
set_option maxHeartbeats 0
namespace He03
open PySem PySem.W PySem.Calls PyProof.Rows HandSHeadRun
theorem run2 (w : World) (os : OsState) : (endH (stepQ (denQ tabQ) R.prog w) 20000 R.prog w os).map (fun s => (looksF R.prog (boot_heap w.params) s.abs, seenQ qv names (importedModules R.prog.main.body) (fun s => xlAt qv [] s && recOk R.toRowW.records s) s.abs)) = some (true, openGood qv names) := by kernel_rfl
end He03
set_option Elab.async false
set_option maxRecDepth 100000
set_option maxHeartbeats 0
namespace He03
open PySem PySem.W PySem.Calls PyProof.Rows HandSHeadRun
theorem run3 (w : World) (os : OsState) : (endH (stepQ (denQ tabQ) R.prog w) 20000 R.prog w os).map ob = some (hk.val w) := by kernel_rfl
end He03
set_option Elab.async false
set_option linter.all false
set_option autoImplicit false
set_option maxRecDepth 100000
/-! Sim1a: how deep values and the store lie in the abstract heap; readings lifted from the interpreter. -/
namespace Sim
open PySem PySem.Spec PyProof.Rows L2
abbrev St := L2.St
/-- a list that is only read: locked, or of the written part -/
def SqR (K : PySem.W.Frag) (H : Hp) (a : Addr) (xs : List V) : Prop :=
  (∃ o, H a = some (.frz o (.lst xs))) ∨
    ∃ (o : Obj) (its : Array Value) (n : Nat), K.lookup a = some o ∧ o.cls = .type "list" ∧ o.dict = none ∧ o.data = .seq its n ∧ its.size ≤ sizeLine ∧ Vals xs its.toList
theorem SqR.sqL {K : PySem.W.Frag} {H : Hp} {a : Addr} {xs : List V} (h : SqR K H a xs) : SqL K H a xs := by
  rcases h with ⟨o, h⟩ | h
  · exact .inl (.inr ⟨o, h⟩)
  · exact .inr h
/-- closures that a context knows: (def, lambda, its object, its code object, the code's name, what its cells hold) -/
abbrev CLT := Nat → Nat → Addr → Addr → Str → List (Option V) → Prop
mutual
inductive Rep (K : PySem.W.Frag) (CL : CLT) (μ : List Addr) (H : Hp) : D → V → Prop
  | non : Rep K CL μ H .non .non
  | bl (b : Bool) : Rep K CL μ H (.bl b) (.bl b)
  | int (i : Int) : Rep K CL μ H (.int i) (.int i)
  | str (x : Str) : Rep K CL μ H (.str x) (.str x)
  | tup {l : List D} {a : Addr} {xs : List V} : H a = some (.tup xs) → Reps K CL μ H l xs → Rep K CL μ H (.tup l) (.ref a)
  | klst {l : List D} {a : Addr} {xs : List V} : SqR K H a xs → Reps K CL μ H l xs → Rep K CL μ H (.klst l) (.ref a)
  | ref {r : Nat} {a : Addr} : μ[r]? = some a → Rep K CL μ H (.ref r) (.ref a)
  | clo {f i : Nat} {a c : Addr} {q : Str} {caps : List (Option D)} {vs : List (Option V)} : CL f i a c q vs → H c = some (LamX.CodeO c q) → RepC K CL μ H caps vs → Rep K CL μ H (.clo f i caps) (.ref a)
inductive Reps (K : PySem.W.Frag) (CL : CLT) (μ : List Addr) (H : Hp) : List D → List V → Prop
  | nil : Reps K CL μ H [] []
  | cons {d : D} {ds : List D} {v : V} {vs : List V} : Rep K CL μ H d v → Reps K CL μ H ds vs → Reps K CL μ H (d :: ds) (v :: vs)
inductive RepC (K : PySem.W.Frag) (CL : CLT) (μ : List Addr) (H : Hp) : List (Option D) → List (Option V) → Prop
  | nil : RepC K CL μ H [] []
  | none {ds : List (Option D)} {v : Option V} {vs : List (Option V)} : RepC K CL μ H ds vs → RepC K CL μ H (none :: ds) (v :: vs)
  | some {d : D} {ds : List (Option D)} {v : V} {vs : List (Option V)} : Rep K CL μ H d v → RepC K CL μ H ds vs → RepC K CL μ H (some d :: ds) (some v :: vs)
end
/-- what a piece of code does to the handles' addresses and to the abstract heap -/
structure Step (μ : List Addr) (H : Hp) (μ' : List Addr) (H' : Hp) : Prop where
  grow : ∃ new, μ' = μ ++ new ∧ ∀ b ∈ new, H b = none
  dom : ∀ b, H' b = none → H b = none
  other : ∀ b o, H b = some o → b ∉ μ → (∀ ps, o ≠ .tbl ps) → H' b = some o
  tups : ∀ b xs, H b = some (.tup xs) → H' b = some (.tup xs)
  frzs : ∀ b o u, H b = some (.frz o u) → H' b = some (.frz o u)
  exts : ∀ b φ, H b = some (.ext φ) → H' b = some (.ext φ)
theorem Step.refl (μ : List Addr) (H : Hp) : Step μ H μ H := ⟨⟨[], by simp, fun _ h => by simp at h⟩, fun _ h => h, fun _ _ h _ _ => h, fun _ _ h => h, fun _ _ _ h => h, fun _ _ h => h⟩
theorem Step.trans {μ μ1 μ2 : List Addr} {H H1 H2 : Hp} (a : Step μ H μ1 H1) (b : Step μ1 H1 μ2 H2) : Step μ H μ2 H2 := by
  obtain ⟨n1, e1, f1⟩ := a.grow
  obtain ⟨n2, e2, f2⟩ := b.grow
  refine ⟨⟨n1 ++ n2, by rw [e2, e1, List.append_assoc], fun c hc => ?_⟩, fun c h => a.dom c (b.dom c h), fun c o h hm ht => ?_, fun c xs h => b.tups _ _ (a.tups _ _ h), fun c o u h => b.frzs _ _ _ (a.frzs _ _ _ h), fun c φ h => b.exts _ _ (a.exts _ _ h)⟩
  · rcases List.mem_append.mp hc with hc | hc
    · exact f1 c hc
    · exact a.dom c (f2 c hc)
  · refine b.other c o (a.other c o h hm ht) ?_ ht
    rw [e1]
    intro z
    rcases List.mem_append.mp z with z | z
    · exact hm z
    · rw [f1 c z] at h; cases h
theorem Step.mu {μ μ' : List Addr} {H H' : Hp} (s : Step μ H μ' H') {r : Nat} {a : Addr} (h : μ[r]? = some a) : μ'[r]? = some a := by
  obtain ⟨n, e, _⟩ := s.grow
  rw [e, List.getElem?_append_left]
  · exact h
  · exact (List.getElem?_eq_some_iff.mp h).1
theorem Step.sqT {K : PySem.W.Frag} {μ μ' : List Addr} {H H' : Hp} (s : Step μ H μ' H') {a : Addr} {xs : List V} (h : SqT K H a xs) : SqT K H' a xs := by
  rcases h with (h | ⟨o, h⟩) | h
  · exact .inl (.inl (s.tups _ _ h))
  · exact .inl (.inr ⟨o, s.frzs _ _ _ h⟩)
  · exact .inr h
theorem Step.sqR {K : PySem.W.Frag} {μ μ' : List Addr} {H H' : Hp} (s : Step μ H μ' H') {a : Addr} {xs : List V} (h : SqR K H a xs) : SqR K H' a xs := by
  rcases h with ⟨o, h⟩ | h
  · exact .inl ⟨o, s.frzs _ _ _ h⟩
  · exact .inr h
/-- a new object that is no handle's -/
theorem Step.new {μ : List Addr} {H : Hp} {p : Addr} {o : HO} (n : H p = none) : Step μ H μ (upd H p o) := by
  have ne : ∀ b u, H b = some u → b ≠ p := fun b u h => ne_of_none h n
  refine ⟨⟨[], by simp, fun _ h => by simp at h⟩, fun b h => ?_, fun b u h _ _ => ?_, fun b xs h => ?_, fun b u v h => ?_, fun b φ h => ?_⟩
  · by_cases e : b = p
    · rw [e]; exact n
    · rw [upd_ne e] at h; exact h
  all_goals (rw [upd_ne (ne _ _ h)]; exact h)
/-- a new handle -/
theorem Step.push {μ : List Addr} {H : Hp} {p : Addr} {o : HO} (n : H p = none) : Step μ H (μ ++ [p]) (upd H p o) := by
  have s : Step μ H μ (upd H p o) := Step.new n
  exact ⟨⟨[p], rfl, fun b h => by rw [List.mem_singleton.mp h]; exact n⟩, s.dom, s.other, s.tups, s.frzs, s.exts⟩
/-- a handle's object is changed -/
theorem Step.put {μ : List Addr} {H : Hp} {a : Addr} {o u : HO} (hm : a ∈ μ) (h : H a = some o) (m : Mut (some o)) (hx : ∀ φ, o ≠ .ext φ) : Step μ H μ (upd H a u) := by
  have ne : ∀ b v, H b = some v → (¬ Mut (some v) ∨ ∃ φ, v = .ext φ) → b ≠ a := fun b v hb hv e => by
    subst e
    rw [h] at hb; cases hb
    rcases hv with hv | ⟨φ, hv⟩
    · exact hv m
    · exact hx φ hv
  refine ⟨⟨[], by simp, fun _ h => by simp at h⟩, fun b hb => ?_, fun b v hb hn _ => ?_, fun b xs hb => ?_, fun b v w hb => ?_, fun b φ hb => ?_⟩
  · by_cases e : b = a
    · rw [e, upd_same] at hb; cases hb
    · rw [upd_ne e] at hb; exact hb
  · rw [upd_ne (fun (e : b = a) => hn (by rw [e]; exact hm))]; exact hb
  · rw [upd_ne (ne _ _ hb (.inl fun z => z))]; exact hb
  · rw [upd_ne (ne _ _ hb (.inl fun z => z))]; exact hb
  · rw [upd_ne (ne _ _ hb (.inr ⟨φ, rfl⟩))]; exact hb
section
variable {K : PySem.W.Frag} {CL : CLT} {μ μ' : List Addr} {H H' : Hp}
mutual
theorem Rep.step (s : Step μ H μ' H') : ∀ {d : D} {v : V}, Rep K CL μ H d v → Rep K CL μ' H' d v
  | _, _, .non => .non
  | _, _, .bl b => .bl b
  | _, _, .int i => .int i
  | _, _, .str x => .str x
  | _, _, .tup h r => .tup (s.tups _ _ h) (Reps.step s r)
  | _, _, .klst h r => .klst (s.sqR h) (Reps.step s r)
  | _, _, .ref h => .ref (s.mu h)
  | _, _, .clo c h r => .clo c (s.exts _ _ h) (RepC.step s r)
theorem Reps.step (s : Step μ H μ' H') : ∀ {d : List D} {v : List V}, Reps K CL μ H d v → Reps K CL μ' H' d v
  | _, _, .nil => .nil
  | _, _, .cons h r => .cons (Rep.step s h) (Reps.step s r)
theorem RepC.step (s : Step μ H μ' H') : ∀ {d : List (Option D)} {v : List (Option V)}, RepC K CL μ H d v → RepC K CL μ' H' d v
  | _, _, .nil => .nil
  | _, _, .none r => .none (RepC.step s r)
  | _, _, .some h r => .some (Rep.step s h) (RepC.step s r)
end
theorem Reps.length : ∀ {ds : List D} {vs : List V}, Reps K CL μ H ds vs → ds.length = vs.length
  | _, _, .nil => rfl
  | _, _, .cons _ r => by simp [Reps.length r]
theorem Reps.get : ∀ {ds : List D} {vs : List V} {i : Nat} {d : D}, Reps K CL μ H ds vs → ds[i]? = some d → ∃ v, vs[i]? = some v ∧ Rep K CL μ H d v
  | _, _, _, _, .nil, h => by simp at h
  | _, _, 0, _, .cons r _, h => by simp at h; subst h; exact ⟨_, rfl, r⟩
  | _, _, i + 1, d, .cons _ r, h => by
    obtain ⟨v, h1, h2⟩ := Reps.get (i := i) r (by simpa using h)
    exact ⟨v, by simpa using h1, h2⟩
theorem Reps.getV : ∀ {ds : List D} {vs : List V} {i : Nat} {v : V}, Reps K CL μ H ds vs → vs[i]? = some v → ∃ d, ds[i]? = some d ∧ Rep K CL μ H d v
  | _, _, _, _, .nil, h => by simp at h
  | _, _, 0, _, .cons r _, h => by simp at h; subst h; exact ⟨_, rfl, r⟩
  | _, _, i + 1, d, .cons _ r, h => by
    obtain ⟨v, h1, h2⟩ := Reps.getV (i := i) r (by simpa using h)
    exact ⟨v, by simpa using h1, h2⟩
theorem Reps.append : ∀ {ds es : List D} {vs ws : List V}, Reps K CL μ H ds vs → Reps K CL μ H es ws → Reps K CL μ H (ds ++ es) (vs ++ ws)
  | _, _, _, _, .nil, s => s
  | _, _, _, _, .cons r t, s => .cons r (Reps.append t s)
theorem Reps.take : ∀ {ds : List D} {vs : List V} (n : Nat), Reps K CL μ H ds vs → Reps K CL μ H (ds.take n) (vs.take n)
  | _, _, 0, _ => .nil
  | _, _, _ + 1, .nil => .nil
  | _, _, n + 1, .cons r t => .cons r (Reps.take n t)
theorem Reps.drop : ∀ {ds : List D} {vs : List V} (n : Nat), Reps K CL μ H ds vs → Reps K CL μ H (ds.drop n) (vs.drop n)
  | _, _, 0, r => r
  | _, _, _ + 1, .nil => .nil
  | _, _, n + 1, .cons _ t => Reps.drop n t
theorem Reps.set {d : D} {v : V} (r : Rep K CL μ H d v) : ∀ {ds : List D} {vs : List V} (i : Nat), Reps K CL μ H ds vs → Reps K CL μ H (ds.set i d) (vs.set i v)
  | _, _, _, .nil => .nil
  | _, _, 0, .cons _ t => .cons r t
  | _, _, i + 1, .cons q t => .cons q (Reps.set r i t)
theorem Reps.insert {d : D} {v : V} (r : Rep K CL μ H d v) {ds : List D} {vs : List V} (i : Nat) (h : Reps K CL μ H ds vs) : Reps K CL μ H (ds.take i ++ d :: ds.drop i) (vs.take i ++ v :: vs.drop i) :=
  (h.take i).append (.cons r (h.drop i))
theorem Reps.ints : ∀ {ns : List Int} {vs : List V}, Reps K CL μ H (ns.map D.int) vs → vs = ns.map V.int
  | [], _, .nil => rfl
  | _ :: _, _, .cons (.int _) r => by rw [Reps.ints r]; rfl
theorem Reps.ofInts : ∀ (ns : List Int), Reps K CL μ H (ns.map D.int) (ns.map V.int)
  | [] => .nil
  | n :: r => .cons (.int n) (Reps.ofInts r)
/-! ### keys -/
/-- a plain key of the layer -/
def keyD : D → Option Key
  | .int i => some (.inl i)
  | .str x => some (.inr x)
  | _ => none
def keysD : List D → Option (List Key)
  | [] => some []
  | x :: r => match keyD x, keysD r with
    | some k, some ks => some (k :: ks)
    | _, _ => none
def keyTD : D → Option (List Key)
  | .tup l => keysD l
  | _ => none
inductive RepKV (K : PySem.W.Frag) (CL : CLT) (μ : List Addr) (H : Hp) : List (D × D) → List (Key × V) → Prop
  | nil : RepKV K CL μ H [] []
  | cons {d x : D} {k : Key} {v : V} {ds : List (D × D)} {kvs : List (Key × V)} : keyD d = some k → Rep K CL μ H x v → RepKV K CL μ H ds kvs → RepKV K CL μ H ((d, x) :: ds) ((k, v) :: kvs)
inductive RepKT (K : PySem.W.Frag) (CL : CLT) (μ : List Addr) (H : Hp) : List (D × D) → List (List Key × V) → Prop
  | nil : RepKT K CL μ H [] []
  | cons {d x : D} {k : List Key} {v : V} {ds : List (D × D)} {kvs : List (List Key × V)} : keyTD d = some k → Rep K CL μ H x v → RepKT K CL μ H ds kvs → RepKT K CL μ H ((d, x) :: ds) ((k, v) :: kvs)
theorem RepKV.step (s : Step μ H μ' H') {ds : List (D × D)} {kvs : List (Key × V)} (h : RepKV K CL μ H ds kvs) : RepKV K CL μ' H' ds kvs := by
  induction h with
  | nil => exact .nil
  | cons h1 h2 _ ih => exact .cons h1 (h2.step s) ih
theorem RepKT.step (s : Step μ H μ' H') {ds : List (D × D)} {kvs : List (List Key × V)} (h : RepKT K CL μ H ds kvs) : RepKT K CL μ' H' ds kvs := by
  induction h with
  | nil => exact .nil
  | cons h1 h2 _ ih => exact .cons h1 (h2.step s) ih
/-- a handle's object -/
inductive RepO (K : PySem.W.Frag) (CL : CLT) (μ : List Addr) (H : Hp) (a : Addr) : MO → Prop
  | lst {l : List D} {xs : List V} : H a = some (.lst xs) → Reps K CL μ H l xs → RepO K CL μ H a (.lst l)
  | dK {ds : List (D × D)} {kvs : List (Key × V)} : H a = some (.dK kvs) → RepKV K CL μ H ds kvs → RepO K CL μ H a (.dct ds false)
  | dT {ds : List (D × D)} {kvs : List (List Key × V)} : ds ≠ [] → H a = some (.dT kvs) → RepKT K CL μ H ds kvs → RepO K CL μ H a (.dct ds false)
  | gone {o : HO} : H a = some o → (∀ φ, o ≠ .ext φ) → (∀ ps, o ≠ .tbl ps) → RepO K CL μ H a .gone
structure Rel (K : PySem.W.Frag) (CL : CLT) (T : List (Addr × Str)) (μ : List Addr) (S : Store) (H : Hp) : Prop where
  len : μ.length = S.length
  nd : μ.Nodup
  obj : ∀ (r : Nat) (mo : MO), S[r]? = some mo → ∃ a, μ[r]? = some a ∧ RepO K CL μ H a mo
  tabs : LamX.Tabs T H
/-- an object that is not touched -/
theorem RepO.keep (s : Step μ H μ' H') {a : Addr} {mo : MO} (h : RepO K CL μ H a mo) (e : H' a = H a) : RepO K CL μ' H' a mo := by
  cases h with
  | lst h r => exact .lst (e.trans h) (r.step s)
  | dK h r => exact .dK (e.trans h) (r.step s)
  | dT hn h r => exact .dT hn (e.trans h) (r.step s)
  | gone h x t => exact .gone (e.trans h) x t
variable {T : List (Addr × Str)} {S : Store}
theorem RepO.is {a : Addr} {mo : MO} (h : RepO K CL μ H a mo) : ∃ o, H a = some o ∧ (∀ φ, o ≠ .ext φ) ∧ ∀ ps, o ≠ .tbl ps := by
  cases h with
  | lst h r => exact ⟨_, h, fun _ z => (by cases z), fun _ z => (by cases z)⟩
  | dK h r => exact ⟨_, h, fun _ z => (by cases z), fun _ z => (by cases z)⟩
  | dT _ h r => exact ⟨_, h, fun _ z => (by cases z), fun _ z => (by cases z)⟩
  | gone h x t => exact ⟨_, h, x, t⟩
theorem Tabs.upd {p : Addr} {o : HO} (t : LamX.Tabs T H) (h : ∀ b u, H b = some u → (∃ ps, u = .tbl ps) ∨ (∃ φ, u = .ext φ) → b ≠ p) : LamX.Tabs T (upd H p o) := fun q hq => by
  obtain ⟨ps, h1, h2, h3⟩ := t q hq
  refine ⟨ps, by rw [upd_ne (h _ _ h1 (.inl ⟨_, rfl⟩))]; exact h1, h2, fun pos cv hc => ?_⟩
  obtain ⟨c, e1, e2⟩ := h3 pos cv hc
  exact ⟨c, e1, by rw [upd_ne (h _ _ e2 (.inr ⟨_, rfl⟩))]; exact e2⟩
/-- every handle's object stands -/
theorem Rel.at (R : Rel K CL T μ S H) {r : Nat} {a : Addr} (h : μ[r]? = some a) : ∃ mo, S[r]? = some mo ∧ RepO K CL μ H a mo := by
  have hr : r < S.length := by rw [← R.len]; exact (List.getElem?_eq_some_iff.mp h).1
  have e : S[r]? = some S[r] := List.getElem?_eq_getElem hr
  obtain ⟨b, h1, h2⟩ := R.obj r _ e
  rw [h] at h1; cases h1
  exact ⟨_, e, h2⟩
theorem Rel.mem (R : Rel K CL T μ S H) {a : Addr} (h : a ∈ μ) : ∃ o, H a = some o ∧ (∀ φ, o ≠ .ext φ) ∧ ∀ ps, o ≠ .tbl ps := by
  obtain ⟨r, hr⟩ := List.getElem?_of_mem h
  obtain ⟨mo, _, h2⟩ := R.at hr
  exact h2.is
/-- a new object that is no handle's (a tuple) -/
theorem Rel.new (R : Rel K CL T μ S H) {p : Addr} {o : HO} (n : H p = none) : Rel K CL T μ S (upd H p o) := by
  refine ⟨R.len, R.nd, fun r mo h => ?_, Tabs.upd R.tabs fun b u h _ => ne_of_none h n⟩
  obtain ⟨a, h1, h2⟩ := R.obj r mo h
  obtain ⟨u, hu, _⟩ := h2.is
  exact ⟨a, h1, h2.keep (Step.new n) (upd_ne (ne_of_none hu n))⟩
/-- a new handle -/
theorem Rel.push (R : Rel K CL T μ S H) {p : Addr} {o : HO} {mo : MO} (n : H p = none) (h : RepO K CL (μ ++ [p]) (upd H p o) p mo) : Rel K CL T (μ ++ [p]) (S ++ [mo]) (upd H p o) := by
  have np : p ∉ μ := fun hm => by
    obtain ⟨u, hu, _⟩ := R.mem hm
    rw [n] at hu; cases hu
  refine ⟨by rw [List.length_append, List.length_append, R.len]; rfl, ?_, fun r m hr => ?_, Tabs.upd R.tabs fun b u h _ => ne_of_none h n⟩
  · rw [List.nodup_append]
    exact ⟨R.nd, (by simp), fun a ha b hb e => np (by rw [← List.mem_singleton.mp hb, ← e]; exact ha)⟩
  · by_cases hlt : r < S.length
    · rw [List.getElem?_append_left hlt] at hr
      obtain ⟨a, h1, h2⟩ := R.obj r m hr
      obtain ⟨u, hu, _⟩ := h2.is
      exact ⟨a, (Step.push (o := o) n).mu h1, h2.keep (Step.push n) (upd_ne (ne_of_none hu n))⟩
    · have e : r = S.length := by
        have := (List.getElem?_eq_some_iff.mp hr).1
        rw [List.length_append] at this
        simp only [List.length_singleton] at this
        omega
      subst e
      rw [List.getElem?_append_right (Nat.le_refl _)] at hr
      simp at hr
      subst hr
      exact ⟨p, by rw [← R.len, List.getElem?_append_right (Nat.le_refl _)]; simp, h⟩
/-- a handle's object is changed -/
theorem Rel.put (R : Rel K CL T μ S H) {r : Nat} {a : Addr} {o : HO} {mo : MO} {u0 : HO} (h : μ[r]? = some a) (hu0 : H a = some u0) (mu0 : Mut (some u0)) (hn : RepO K CL μ (upd H a o) a mo) : Step μ H μ (upd H a o) ∧ Rel K CL T μ (S.set r mo) (upd H a o) := by
  have hm : a ∈ μ := List.mem_of_getElem? h
  obtain ⟨u, hu, nx, nt⟩ := R.mem hm
  have mu : Mut (some u) := by rw [hu0] at hu; cases hu; exact mu0
  have st : Step μ H μ (upd H a o) := Step.put hm hu mu nx
  refine ⟨st, by rw [List.length_set]; exact R.len, R.nd, fun q m hq => ?_, Tabs.upd R.tabs fun b v hb hv e => ?_⟩
  · by_cases e : q = r
    · subst e
      have hlt : q < S.length := by have := (List.getElem?_eq_some_iff.mp hq).1; simpa using this
      rw [List.getElem?_set_self hlt] at hq
      cases hq
      exact ⟨a, h, hn⟩
    · rw [List.getElem?_set_ne (Ne.symm e)] at hq
      obtain ⟨b, h1, h2⟩ := R.obj q m hq
      refine ⟨b, h1, h2.keep st (upd_ne fun z => e ?_)⟩
      subst z
      exact nd_ix R.nd h1 h
  · subst e
    rw [hu] at hb; cases hb
    rcases hv with ⟨ps, rfl⟩ | ⟨φ, rfl⟩
    · exact nt ps rfl
    · exact nx φ rfl
/-! ### the frame's names -/
/-- no closures -/
def CLF : CLT := fun _ _ _ _ _ _ => False
/-- what a name or an argument is: a plain value, or a closure -/
inductive RepA (K : PySem.W.Frag) (CL : CLT) (μ : List Addr) (H : Hp) : D → V → Prop
  | val {d : D} {v : V} : Rep K CLF μ H d v → RepA K CL μ H d v
  | clo {f i : Nat} {a c : Addr} {q : Str} {caps : List (Option D)} {vs : List (Option V)} : CL f i a c q vs → H c = some (LamX.CodeO c q) → RepC K CLF μ H caps vs → RepA K CL μ H (.clo f i caps) (.ref a)
theorem RepA.step (s : Step μ H μ' H') {d : D} {v : V} (r : RepA K CL μ H d v) : RepA K CL μ' H' d v := by
  cases r with
  | val r => exact .val (r.step s)
  | clo h1 h2 h3 => exact .clo h1 (s.exts _ _ h2) (h3.step s)
structure RepL (K : PySem.W.Frag) (CL : CLT) (μ : List Addr) (H : Hp) (L : Loc) (σ : St) : Prop where
  len : L.length = σ.length
  at_ : ∀ (i : Nat) (d : D), L[i]? = some (some d) → ∃ v, σ[i]? = some (some v) ∧ RepA K CL μ H d v
theorem RepL.step (s : Step μ H μ' H') {L : Loc} {σ : St} (h : RepL K CL μ H L σ) : RepL K CL μ' H' L σ :=
  ⟨h.len, fun i d e => let ⟨v, h1, h2⟩ := h.at_ i d e; ⟨v, h1, h2.step s⟩⟩
theorem RepL.set {L : Loc} {σ : St} (h : RepL K CL μ H L σ) {i : Nat} {d : D} {v : V} (r : RepA K CL μ H d v) : RepL K CL μ H (L.set i (some d)) (σ.set i (some v)) := by
  refine ⟨by rw [List.length_set, List.length_set, h.len], fun j e hj => ?_⟩
  by_cases z : j = i
  · subst z
    have hlt : j < L.length := by have := (List.getElem?_eq_some_iff.mp hj).1; simpa using this
    rw [List.getElem?_set_self hlt] at hj
    cases hj
    exact ⟨v, by rw [List.getElem?_set_self (by rw [← h.len]; exact hlt)], r⟩
  · rw [List.getElem?_set_ne (Ne.symm z)] at hj
    obtain ⟨w, h1, h2⟩ := h.at_ j e hj
    exact ⟨w, by rw [List.getElem?_set_ne (Ne.symm z)]; exact h1, h2⟩
theorem RepL.unset {L : Loc} {σ : St} (h : RepL K CL μ H L σ) (i : Nat) : RepL K CL μ H (L.set i none) (σ.set i none) := by
  refine ⟨by rw [List.length_set, List.length_set, h.len], fun j e hj => ?_⟩
  by_cases z : j = i
  · subst z
    have hlt : j < L.length := by have := (List.getElem?_eq_some_iff.mp hj).1; simpa using this
    rw [List.getElem?_set_self hlt] at hj
    cases hj
  · rw [List.getElem?_set_ne (Ne.symm z)] at hj
    obtain ⟨w, h1, h2⟩ := h.at_ j e hj
    exact ⟨w, by rw [List.getElem?_set_ne (Ne.symm z)]; exact h1, h2⟩
/-- the frame's names may know less -/
theorem RepL.weak {L L' : Loc} {σ : St} (h : RepL K CL μ H L σ) (hl : L'.length = L.length) (hw : ∀ (i : Nat) (d : D), L'[i]? = some (some d) → L[i]? = some (some d)) : RepL K CL μ H L' σ :=
  ⟨hl.trans h.len, fun i d e => h.at_ i d (hw i d e)⟩
theorem RepL.get {L : Loc} {σ : St} (h : RepL K CL μ H L σ) {i : Nat} {d : D} (e : getL L i = some d) : ∃ v, σ[i]? = some (some v) ∧ RepA K CL μ H d v := by
  unfold getL at e
  cases q : L[i]? with
  | none => rw [q] at e; cases e
  | some o =>
    rw [q] at e
    have e' : o = some d := e
    exact h.at_ i d (by rw [q, e'])
end
/-! ### readings lifted -/
/-- the world that a proof is about: the written part, where the classes of exceptions stand, the tables of code objects -/
structure Wd where
  cls : Nat → Addr
  T : List (Addr × Str)
section
variable (K : PySem.W.Frag) (G : Wd) (CL : CLT)
abbrev RelG (μ : List Addr) (S : Store) (H : Hp) : Prop := Rel K CL G.T μ S H
/-- an exception's own dict stands at dx and tells what -/
def RepX (μ : List Addr) (H : Hp) (x : Exn) (dx : Addr) : Prop := ∃ fs v, H dx = some (.xd fs) ∧ fs.lookup ("what" : Str) = some v ∧ Rep K CL μ H x.what v
abbrev RRT (α ν : Type) := List Addr → Hp → α → ν → Prop
/-- the code m, from the store S, does what Q wants -/
def LA {α ν : Type} (RR : RRT α ν) (W : WX) (μ : List Addr) (S : Store) (m : M α) (σ : St) (H : Hp) (Q : ν → Hp → Prop) : Prop :=
  ∃ r S', m S = some (r, S') ∧ match r with
    | .val a => ∀ μ' H' v, Step μ H μ' H' → RelG K G CL μ' S' H' → RR μ' H' a v → Q v H'
    | .exc x => ∀ μ' H' dx, Step μ H μ' H' → RelG K G CL μ' S' H' → RepX K CL μ' H' x dx → W (.ref (G.cls x.cls)) (some dx) σ H'
/-- .. with the frame's names -/
def LG {α ν : Type} (RR : RRT α ν) (W : WX) (f : Loc → M α) (σ : St) (H : Hp) (Q : ν → Hp → Prop) : Prop :=
  ∃ μ L S, RelG K G CLF μ S H ∧ RepL K CL μ H L σ ∧ LA K G CLF RR W μ S (f L) σ H Q
abbrev rrD : RRT D V := fun μ H d v => Rep K CL μ H d v
abbrev rrA : RRT (List D) (List V) := fun μ H d v => Reps K CL μ H d v
abbrev rrB : RRT Bool Bool := fun _ _ b c => b = c
abbrev LE (W : WX) (f : Loc → M D) : TE := LG K G CL (rrD K CLF) W f
abbrev LT' (W : WX) (f : Loc → M Bool) : TT := LG K G CL rrB W f
abbrev LAs (W : WX) (f : Loc → M (List D)) : TA := LG K G CL (rrA K CLF) W f
end
section
variable {K : PySem.W.Frag} {G : Wd} {CL : CLT} {W : WX} {α β ν ξ : Type} {RR : RRT α ν} {RR' : RRT β ξ} {μ : List Addr} {S : Store} {σ : St} {H : Hp} {L : Loc}
theorem LA.imp {m : M α} {Q Q' : ν → Hp → Prop} (h : LA K G CL RR W μ S m σ H Q) (hQ : ∀ v H', Q v H' → Q' v H') : LA K G CL RR W μ S m σ H Q' := by
  obtain ⟨r, S', e, h⟩ := h
  refine ⟨r, S', e, ?_⟩
  cases r with
  | val a => exact fun μ' H' v s R r => hQ _ _ (h μ' H' v s R r)
  | exc x => exact h
/-- one thing after another -/
theorem LA.bd {m : M α} {f : α → M β} {Q : ξ → Hp → Prop} (h : LA K G CL RR' W μ S (bd m f) σ H Q) :
    LA K G CL RR W μ S m σ H fun v H1 => ∃ μ1 S1 a, Step μ H μ1 H1 ∧ RelG K G CL μ1 S1 H1 ∧ RR μ1 H1 a v ∧ LA K G CL RR' W μ1 S1 (f a) σ H1 Q := by
  obtain ⟨r, S', e, h⟩ := h
  unfold Sim.bd at e
  cases q : m S with
  | none => rw [q] at e; cases e
  | some p =>
    obtain ⟨r1, S1⟩ := p
    rw [q] at e
    cases r1 with
    | val a =>
      refine ⟨.val a, S1, q, fun μ1 H1 v s1 R1 rr => ⟨μ1, S1, a, s1, R1, rr, r, S', e, ?_⟩⟩
      cases r with
      | val b => exact fun μ2 H2 w s2 R2 r2 => h μ2 H2 w (s1.trans s2) R2 r2
      | exc x => exact fun μ2 H2 dx s2 R2 r2 => h μ2 H2 dx (s1.trans s2) R2 r2
    | exc x =>
      cases e
      exact ⟨.exc x, _, q, h⟩
theorem LA.ok {a : α} {v : ν} {Q : ν → Hp → Prop} (h : LA K G CL RR W μ S (ok a) σ H Q) (R : RelG K G CL μ S H) (r : RR μ H a v) : Q v H := by
  obtain ⟨r, S', e, h⟩ := h
  cases e
  exact h μ H v (Step.refl _ _) R r
theorem LA.stk {Q : ν → Hp → Prop} (h : LA K G CL RR W μ S (stk : M α) σ H Q) : False := by
  obtain ⟨r, S', e, h⟩ := h
  cases e
theorem LA.ofO {o : Option α} {Q : ν → Hp → Prop} (h : LA K G CL RR W μ S (ofO o) σ H Q) : ∃ a, o = some a ∧ LA K G CL RR W μ S (Sim.ok a) σ H Q := by
  obtain ⟨r, S', e, h⟩ := h
  cases o with
  | none => cases e
  | some a => exact ⟨a, rfl, r, S', e, h⟩
theorem LA.guard {c : Bool} {m : M α} {Q : ν → Hp → Prop} (h : LA K G CL RR W μ S (guard' c m) σ H Q) : c = true ∧ LA K G CL RR W μ S m σ H Q := by
  obtain ⟨r, S', e, h⟩ := h
  unfold guard' at e
  split at e
  · rename_i hc; exact ⟨hc, r, S', e, h⟩
  · cases e
end
end Sim
set_option Elab.async false
set_option linter.all false
set_option autoImplicit false
set_option maxRecDepth 100000
/-! Sim1b: operations by values. -/
namespace Sim
open PySem PySem.Spec PyProof.Rows L2
section
variable (K : PySem.W.Frag) (G : Wd) (CL : CLT)
/-- the code m, from the store S, gives a value, and Q wants what may lie so -/
def LV {α ν : Type} (RR : RRT α ν) (μ : List Addr) (S : Store) (m : M α) (H : Hp) (Q : ν → Hp → Prop) : Prop :=
  ∃ a S', m S = some (.val a, S') ∧ ∀ μ' H' v, Step μ H μ' H' → RelG K G CL μ' S' H' → RR μ' H' a v → Q v H'
/-- two values, an operation of the interpreter -/
def r2 (f : D → D → M D) : R2 := fun x y H Q => ∃ μ S a b, RelG K G CL μ S H ∧ Rep K CL μ H a x ∧ Rep K CL μ H b y ∧ LV K G CL (rrD K CL) μ S (f a b) H Q
def r1 (f : D → M D) : V → Hp → VK → Prop := fun x H Q => ∃ μ S a, RelG K G CL μ S H ∧ Rep K CL μ H a x ∧ LV K G CL (rrD K CL) μ S (f a) H Q
end
section
variable {K : PySem.W.Frag} {G : Wd} {CL : CLT} {μ : List Addr} {S : Store} {H : Hp} {Q : VK}
/-- from what may raise to what does not -/
theorem LA.lv {α ν : Type} {RR : RRT α ν} {W : WX} {σ : St} {m : M α} {Q : ν → Hp → Prop} (h : LA K G CL RR W μ S m σ H Q) (hv : ∀ r S', m S = some (r, S') → ∃ a, r = .val a) : LV K G CL RR μ S m H Q := by
  obtain ⟨r, S', e, h⟩ := h
  obtain ⟨a, rfl⟩ := hv r S' e
  exact ⟨a, S', e, h⟩
theorem LV.la {α ν : Type} {RR : RRT α ν} {W : WX} {σ : St} {m : M α} {Q : ν → Hp → Prop} (h : LV K G CL RR μ S m H Q) : LA K G CL RR W μ S m σ H Q := by
  obtain ⟨a, S', e, h⟩ := h
  exact ⟨.val a, S', e, h⟩
theorem LV.imp {α ν : Type} {RR : RRT α ν} {m : M α} {Q Q' : ν → Hp → Prop} (h : LV K G CL RR μ S m H Q) (hQ : ∀ v H', Q v H' → Q' v H') : LV K G CL RR μ S m H Q' := by
  obtain ⟨a, S', e, h⟩ := h
  exact ⟨a, S', e, fun μ' H' v s R r => hQ _ _ (h μ' H' v s R r)⟩
/-- a plain value comes -/
theorem LV.here {α ν : Type} {RR : RRT α ν} {m : M α} {Q : ν → Hp → Prop} {a : α} {v : ν} (h : LV K G CL RR μ S m H Q) (e : m S = some (.val a, S)) (R : RelG K G CL μ S H) (r : RR μ H a v) : Q v H := by
  obtain ⟨b, S', e', h⟩ := h
  rw [e] at e'
  cases e'
  exact h μ H v (Step.refl _ _) R r
/-- a new tuple comes -/
theorem LV.tup {m : M D} {l : List D} {xs : List V} {p : Addr} (h : LV K G CL (rrD K CL) μ S m H Q) (e : m S = some (.val (.tup l), S)) (R : RelG K G CL μ S H) (r : Reps K CL μ H l xs) (n : H p = none) : Q (.ref p) (upd H p (.tup xs)) := by
  obtain ⟨b, S', e', h⟩ := h
  rw [e] at e'
  cases e'
  exact h μ _ _ (Step.new n) (R.new n) (.tup upd_same (r.step (Step.new n)))
/-- a new list comes -/
theorem LV.lst {m : M D} {l : List D} {xs : List V} {p : Addr} (h : LV K G CL (rrD K CL) μ S m H Q) (e : m S = alloc (.lst l) S) (R : RelG K G CL μ S H) (r : Reps K CL μ H l xs) (n : H p = none) : Q (.ref p) (upd H p (.lst xs)) := by
  obtain ⟨b, S', e', h⟩ := h
  rw [e] at e'
  unfold alloc at e'
  cases e'
  have st : Step μ H (μ ++ [p]) (upd H p (.lst xs)) := Step.push n
  refine h (μ ++ [p]) _ _ st (R.push n (.lst upd_same (r.step st))) (.ref ?_)
  rw [← R.len, List.getElem?_append_right (Nat.le_refl _)]
  simp
theorem LV.no {α ν : Type} {RR : RRT α ν} {m : M α} {Q : ν → Hp → Prop} (h : LV K G CL RR μ S m H Q) (e : m S = none) : False := by
  obtain ⟨b, S', e', h⟩ := h
  rw [e] at e'
  cases e'
theorem Rel.lstAt (R : RelG K G CL μ S H) {x : D} {v : V} (r : Rep K CL μ H x v) {l : List D} (h : lstAt S x = some l) : ∃ a xs, v = .ref a ∧ SqL K H a xs ∧ Reps K CL μ H l xs := by
  cases r with
  | klst hs hr =>
    cases h
    exact ⟨_, _, rfl, hs.sqL, hr⟩
  | @ref k a hm =>
    obtain ⟨mo, e, ho⟩ := R.at hm
    unfold Sim.lstAt at h
    simp only [e] at h
    cases ho with
    | lst h1 h2 => cases h; exact ⟨_, _, rfl, SqL.of h1, h2⟩
    | dK h1 h2 => cases h
    | dT _ h1 h2 => cases h
    | gone _ _ _ => cases h
  | _ => cases h
theorem Rel.own (R : RelG K G CL μ S H) {r : Nat} {a : Addr} (hm : μ[r]? = some a) {l : List D} (h : S[r]? = some (.lst l)) : ∃ xs, H a = some (.lst xs) ∧ Reps K CL μ H l xs := by
  obtain ⟨b, h1, h2⟩ := R.obj r _ h
  rw [hm] at h1; cases h1
  cases h2 with
  | lst h1 h2 => exact ⟨_, h1, h2⟩
end
theorem lim_eq : LIM = sizeLine := by rw [sizeLine_eq]; rfl
/-! ### binary operators -/
section
variable {X : Cx} {G : Wd} {CL : CLT}
abbrev RB (X : Cx) (G : Wd) (CL : CLT) (op : BOp) : R2 := r2 X.K G CL (binD op)
theorem opr_add : OpR X (binaryOp .Add) (RB X G CL .add) := by
  intro pins s σ H x y v u Q I rx ry h
  obtain ⟨μ, S, a, b, R, ra, rb, h⟩ := h
  cases ra with
  | int i =>
    cases rb with
    | int j => exact op_add pins s σ H _ _ v u Q I rx ry ⟨i, j, rfl, rfl, h.here rfl R (.int _)⟩
    | _ => exact (h.no rfl).elim
  | str z =>
    cases rb with
    | str z' =>
      by_cases hz : z.length + z'.length ≤ LIM
      · exact op_add_str pins s σ H _ _ v u Q I rx ry ⟨z, z', rfl, rfl, by rw [← lim_eq]; exact hz, h.here (by show (if _ then _ else _) = _; rw [if_pos hz]; rfl) R (.str _)⟩
      · exact (h.no (by show (if _ then _ else _) = _; rw [if_neg hz])).elim
    | _ => exact (h.no rfl).elim
  | @tup l a xs ha hra =>
    cases rb with
    | @tup m b ys hb hrb =>
      by_cases hz : l.length + m.length ≤ LIM
      · have e : binD .add (.tup l) (.tup m) S = some (.val (.tup (l ++ m)), S) := by show (if _ then _ else _) = _; rw [if_pos hz]; rfl
        refine op_catA pins s σ H _ _ v u Q I rx ry ⟨_, _, _, _, rfl, rfl, SqT.of ha, SqT.of hb, by rw [← lim_eq, ← hra.length, ← hrb.length]; exact hz, fun z => ?_, fun z z' => ?_, fun z z' p n => h.tup e R (hra.append hrb) n⟩
        · subst z
          cases hra
          exact h.here e R (.tup hb hrb)
        · subst z'
          cases hrb
          exact h.here (by rw [e, List.append_nil]) R (.tup ha hra)
      · exact (h.no (by show (if _ then _ else _) = _; rw [if_neg hz])).elim
    | _ => exact (h.no rfl).elim
  | @ref k p hm =>
    cases rb with
    | @ref k' p' hm' =>
      cases e1 : S[k]? with
      | none => exact (h.no (by show (match S[k]?, S[k']? with | some (.lst l), some (.lst m) => _ | _, _ => none) = none; rw [e1])).elim
      | some mo =>
        cases mo with
        | dct _ _ | gone => exact (h.no (by show (match S[k]?, S[k']? with | some (.lst l), some (.lst m) => _ | _, _ => none) = none; rw [e1])).elim
        | lst l =>
          cases e2 : S[k']? with
          | none => exact (h.no (by show (match S[k]?, S[k']? with | some (.lst l), some (.lst m) => _ | _, _ => none) = none; rw [e1, e2])).elim
          | some mo' =>
            cases mo' with
            | dct _ _ | gone => exact (h.no (by show (match S[k]?, S[k']? with | some (.lst l), some (.lst m) => _ | _, _ => none) = none; rw [e1, e2])).elim
            | lst m =>
              obtain ⟨xs, h1, r1⟩ := R.own hm e1
              obtain ⟨ys, h2, r2⟩ := R.own hm' e2
              by_cases hz : l.length + m.length ≤ LIM
              · refine op_cat pins s σ H _ _ v u Q I rx ry ⟨_, _, _, _, rfl, rfl, h1, h2, by rw [← lim_eq, ← r1.length, ← r2.length]; exact hz, fun p n => h.lst (l := l ++ m) ?_ R (r1.append r2) n⟩
                show (match S[k]?, S[k']? with | some (.lst l), some (.lst m) => if l.length + m.length ≤ LIM then alloc (.lst (l ++ m)) S else none | _, _ => none) = _
                rw [e1, e2]
                exact if_pos hz
              · exact (h.no (by show (match S[k]?, S[k']? with | some (.lst l), some (.lst m) => if l.length + m.length ≤ LIM then alloc (.lst (l ++ m)) S else none | _, _ => none) = none; rw [e1, e2]; exact if_neg hz)).elim
    | _ => exact (h.no rfl).elim
  | _ => exact (h.no (by cases rb <;> rfl)).elim
theorem opr_sub : OpR X (binaryOp .Sub) (RB X G CL .sub) := by
  intro pins s σ H x y v u Q I rx ry h
  obtain ⟨μ, S, a, b, R, ra, rb, h⟩ := h
  cases ra with
  | int i =>
    cases rb with
    | int j => exact op_sub pins s σ H _ _ v u Q I rx ry ⟨i, j, rfl, rfl, h.here rfl R (.int _)⟩
    | _ => exact (h.no rfl).elim
  | _ => exact (h.no (by cases rb <;> rfl)).elim
theorem opr_mul : OpR X (binaryOp .Mult) (RB X G CL .mul) := by
  intro pins s σ H x y v u Q I rx ry h
  obtain ⟨μ, S, a, b, R, ra, rb, h⟩ := h
  cases ra with
  | int i =>
    cases rb with
    | int j =>
      by_cases hz : mulOk i j
      · exact op_mul pins s σ H _ _ v u Q I rx ry ⟨i, j, rfl, rfl, hz, h.here (by show (if _ then _ else _) = _; rw [if_pos hz]; rfl) R (.int _)⟩
      · exact (h.no (by show (if _ then _ else _) = _; rw [if_neg hz])).elim
    | _ => exact (h.no rfl).elim
  | @tup l a xs ha hra =>
    cases rb with
    | int k =>
      by_cases hz : 2 ≤ k ∧ k ≤ 1000 ∧ l ≠ [] ∧ l.length ≤ 1000
      · have hl := hra.length
        refine op_repT pins s σ H _ _ v u Q I rx ry ⟨_, _, _, rfl, rfl, SqT.of ha, fun z => hz.2.2.1 (by subst z; exact List.eq_nil_of_length_eq_zero hl), hz.1, hz.2.1, by rw [← hl]; exact hz.2.2.2, fun p n => h.tup (by show (if _ then _ else _) = _; rw [if_pos hz]; rfl) R ?_ n⟩
        generalize k.toNat = m
        induction m with
        | zero => exact .nil
        | succ m ih =>
          rw [List.replicate_succ, List.replicate_succ, List.flatten_cons, List.flatten_cons]
          exact hra.append ih
      · exact (h.no (by show (if _ then _ else _) = _; rw [if_neg hz])).elim
    | _ => exact (h.no rfl).elim
  | _ => exact (h.no (by cases rb <;> rfl)).elim
theorem opr_fdiv : OpR X (binaryOp .FloorDiv) (RB X G CL .fdiv) := by
  intro pins s σ H x y v u Q I rx ry h
  obtain ⟨μ, S, a, b, R, ra, rb, h⟩ := h
  cases ra with
  | int i =>
    cases rb with
    | int j =>
      by_cases hz : j ≠ 0 ∧ j.natAbs < 1073741824
      · exact op_fdivN pins s σ H _ _ v u Q I rx ry ⟨i, j, rfl, rfl, hz, h.here (by show (if _ then _ else _) = _; rw [if_pos hz]; rfl) R (.int _)⟩
      · exact (h.no (by show (if _ then _ else _) = _; rw [if_neg hz])).elim
    | _ => exact (h.no rfl).elim
  | _ => exact (h.no (by cases rb <;> rfl)).elim
theorem opr_mod : OpR X (binaryOp .Mod) (RB X G CL .mod) := by
  intro pins s σ H x y v u Q I rx ry h
  obtain ⟨μ, S, a, b, R, ra, rb, h⟩ := h
  cases ra with
  | int i =>
    cases rb with
    | int j =>
      by_cases hz : j ≠ 0
      · exact op_modN pins s σ H _ _ v u Q I rx ry ⟨i, j, rfl, rfl, hz, h.here (by show (if _ then _ else _) = _; rw [if_pos hz]; rfl) R (.int _)⟩
      · exact (h.no (by show (if _ then _ else _) = _; rw [if_neg hz])).elim
    | _ => exact (h.no rfl).elim
  | _ => exact (h.no (by cases rb <;> rfl)).elim
theorem opr_pow : OpR X (binaryOp .Pow) (RB X G CL .pow) := by
  intro pins s σ H x y v u Q I rx ry h
  obtain ⟨μ, S, a, b, R, ra, rb, h⟩ := h
  cases ra with
  | int i =>
    cases rb with
    | int j =>
      by_cases hz : 0 ≤ j ∧ j ≤ 1000000 ∧ i.natAbs < 2 ^ 64
      · exact op_pow pins s σ H _ _ v u Q I rx ry ⟨i, j, rfl, rfl, hz, h.here (by show (if _ then _ else _) = _; rw [if_pos hz]; rfl) R (.int _)⟩
      · exact (h.no (by show (if _ then _ else _) = _; rw [if_neg hz])).elim
    | _ => exact (h.no rfl).elim
  | _ => exact (h.no (by cases rb <;> rfl)).elim
/-- the operators that are carried -/
def bopOf : BOp → Option Operator
  | .add => some .Add | .sub => some .Sub | .mul => some .Mult | .fdiv => some .FloorDiv | .mod => some .Mod | .pow => some .Pow
  | _ => none
theorem opr_bin {op : BOp} {o : Operator} (h : bopOf op = some o) : OpR X (binaryOp o) (RB X G CL op) := by
  cases op <;> cases h
  · exact opr_add
  · exact opr_sub
  · exact opr_mul
  · exact opr_fdiv
  · exact opr_mod
  · exact opr_pow
theorem binD_val {op : BOp} {a b : D} {S S' : Store} {r : Ex D} (h : binD op a b S = some (r, S')) : ∃ d, r = .val d := by
  unfold binD at h
  split at h <;> (try unfold ok at h) <;> (try unfold alloc at h) <;> (try split at h) <;> first
    | (cases h; exact ⟨_, rfl⟩)
    | cases h
    | (split at h <;> first | (cases h; exact ⟨_, rfl⟩) | cases h)
/-! ### unary -/
theorem unr_neg : UnR X (unaryOp .USub) (r1 X.K G CL (unD .neg)) := by
  intro pins s σ H x v Q I rx h
  obtain ⟨μ, S, a, R, ra, h⟩ := h
  cases ra with
  | int i => exact un_neg pins s σ H _ v Q I rx ⟨i, rfl, h.here rfl R (.int _)⟩
  | _ => exact (h.no rfl).elim
theorem unD_val {op : UOp} {a : D} {S S' : Store} {r : Ex D} (h : unD op a S = some (r, S')) : ∃ d, r = .val d := by
  unfold unD at h
  split at h
  · cases h; exact ⟨_, rfl⟩
  · cases h
end
end Sim
set_option Elab.async false
set_option linter.all false
set_option autoImplicit false
set_option maxRecDepth 100000
/-! Sim1c: comparisons, truth. -/
namespace Sim
open PySem PySem.Spec PyProof.Rows L2
def cmpO (op : COp) (a b : D) (S : Store) : Option Bool := match op with
    | .eq => eqD S a b
    | .ne => (eqD S a b).map (!·)
    | .is => isD a b
    | .isn => (isD a b).map (!·)
    | .mem => memD S a b
    | .nmem => (memD S a b).map (!·)
    | op => ltD op a b
theorem cmpD_eq (op : COp) (a b : D) (S : Store) : cmpD op a b S = (cmpO op a b S).map fun c => (.val (.bl c), S) := by
  cases op <;> rfl
theorem cmpD_val {op : COp} {a b : D} {S S' : Store} {r : Ex D} (h : cmpD op a b S = some (r, S')) : ∃ d, r = .val d := by
  rw [cmpD_eq] at h
  cases e : cmpO op a b S with
  | none => rw [e] at h; cases h
  | some c => rw [e] at h; cases h; exact ⟨_, rfl⟩
section
variable {K : PySem.W.Frag} {G : Wd} {CL : CLT} {μ : List Addr} {S : Store} {H : Hp} {Q : VK}
theorem LV.cmp {op : COp} {a b : D} (h : LV K G CL (rrD K CL) μ S (cmpD op a b) H Q) (R : RelG K G CL μ S H) : ∃ c, cmpO op a b S = some c ∧ Q (.bl c) H := by
  cases e : cmpO op a b S with
  | none => exact (h.no (by rw [cmpD_eq, e]; rfl)).elim
  | some c => exact ⟨c, rfl, h.here (by rw [cmpD_eq, e]; rfl) R (.bl c)⟩
theorem dp_of (R : RelG K G CL μ S H) : ∀ n, (∀ a x d, Rep K CL μ H a x → pd S n a = some d → Dp K H x d) ∧ (∀ l xs ds, Reps K CL μ H l xs → pdA S n l = some ds → DpAll K H xs ds)
  | 0 => ⟨fun _ _ _ _ h => (by cases h), fun l xs ds r h => by
      cases r with
      | nil => cases h; exact .nil
      | cons _ _ => cases h⟩
  | n + 1 => by
    have ih := dp_of R n
    have key : ∀ {l : List D} {xs : List V} {f : List PyData → PyData} {d : PyData}, Reps K CL μ H l xs → (pdA S n l).map f = some d → ∃ ds, d = f ds ∧ DpAll K H xs ds := fun {l xs f d} hr h => by
      cases e : pdA S n l with
      | none => rw [e] at h; cases h
      | some ds => rw [e] at h; cases h; exact ⟨ds, rfl, ih.2 _ _ _ hr e⟩
    refine ⟨fun a x d r h => ?_, fun l xs ds r h => ?_⟩
    · cases r with
      | non => cases h; exact .non
      | bl b => cases h; exact .bl b
      | int i => cases h; exact .int i
      | str z => cases h; exact .str z
      | tup ht hr =>
        obtain ⟨ds, rfl, hd⟩ := key hr h
        exact .tup (SqT.of ht) hd
      | klst ht hr =>
        obtain ⟨ds, rfl, hd⟩ := key hr h
        exact .lst ht.sqL hd
      | @ref k p hm =>
        have h : (match S[k]? with | some (.lst l) => (pdA S n l).map PyData.list | _ => none) = some d := h
        cases e : S[k]? with
        | none => simp only [e] at h; cases h
        | some mo =>
          simp only [e] at h
          cases mo with
          | dct _ _ | gone => cases h
          | lst l =>
            obtain ⟨xs, h1, hr⟩ := R.own hm e
            obtain ⟨ds, rfl, hd⟩ := key hr h
            exact .lst (SqL.of h1) hd
      | clo _ _ _ => cases h
    · cases r with
      | nil => cases h; exact .nil
      | @cons a l x xs r rs =>
        have h : (match pd S n a, pdA S n l with | some d, some ds => some (d :: ds) | _, _ => none) = some ds := h
        cases e1 : pd S n a with
        | none => simp only [e1] at h; cases h
        | some d =>
          cases e2 : pdA S n l with
          | none => simp only [e1, e2] at h; cases h
          | some es =>
            simp only [e1, e2] at h
            cases h
            exact .cons (ih.1 _ _ _ r e1) (ih.2 _ _ _ rs e2)
theorem eqDp_of (R : RelG K G CL μ S H) {a b : D} {x y : V} {c : Bool} (ra : Rep K CL μ H a x) (rb : Rep K CL μ H b y) (h : eqDp S a b = some c) :
    ∃ d e, Dp K H x d ∧ Dp K H y e ∧ SeqAt.shaped d = true ∧ SeqAt.shaped e = true ∧ PyData.eqv d e = c := by
  unfold eqDp at h
  cases e1 : pd S 1000 a with
  | none => simp only [e1] at h; cases h
  | some d =>
    cases e2 : pd S 1000 b with
    | none => simp only [e1, e2] at h; cases h
    | some e =>
      simp only [e1, e2] at h
      by_cases hs : (SeqAt.shaped d && SeqAt.shaped e) = true
      · rw [if_pos hs] at h
        cases h
        rw [Bool.and_eq_true] at hs
        exact ⟨d, e, (dp_of R 1000).1 _ _ _ ra e1, (dp_of R 1000).1 _ _ _ rb e2, hs.1, hs.2, rfl⟩
      · rw [if_neg hs] at h; cases h
theorem flat_V {a : D} {x : V} (r : Rep K CL μ H a x) (h : flat a = true) : flatV x = true := by
  cases r <;> first | rfl | cases h
theorem eqF_V {a b : D} {x y : V} (ra : Rep K CL μ H a x) (rb : Rep K CL μ H b y) : flat a = true → flat b = true → eqV x y = eqF a b := by
  intro fa fb
  cases ra <;> cases rb <;> first | rfl | cases fa | cases fb
end
section
variable {X : Cx} {G : Wd} {CL : CLT}
abbrev RC (X : Cx) (G : Wd) (CL : CLT) (op : COp) : R2 := r2 X.K G CL (cmpD op)
/-- == and != of flat values -/
theorem eq_flat (hu : X.A.units + 64 < cLine) {pins : List (Addr × Obj)} {s : Shared} {σ : L2.St} {H : Hp} {x y : V} {v u : Value} {Q : VK} {a b : D} {μ : List Addr} (ra : Rep X.K CL μ H a x) (rb : Rep X.K CL μ H b y) (fa : flat a = true) (fb : flat b = true)
    (I : L2.Inv X pins σ H s) (rx : L2.RelV x v) (ry : L2.RelV y u) : (Q (.bl (eqF a b)) H → wpAny (model X.prog X.w) X.A (compareOp .Eq v u) (EP X pins σ Q) X.xe s) ∧ (Q (.bl (!eqF a b)) H → wpAny (model X.prog X.w) X.A (compareOp .NotEq v u) (EP X pins σ Q) X.xe s) := by
  cases ra <;> (first | (cases (show false = true from fa); done) | skip) <;> cases rb <;> (first | (cases (show false = true from fb); done) | skip) <;> first
    | exact ⟨fun q => op_eq pins s σ H _ _ v u Q I rx ry ⟨rfl, by first | exact q | (rw [dec_int]; exact q) | (rw [dec_bl]; exact q) | (rw [dec_str]; exact q)⟩,
        fun q => op_ne pins s σ H _ _ v u Q I rx ry ⟨rfl, by first | exact q | (rw [dec_int]; exact q) | (rw [dec_bl]; exact q) | (rw [dec_str]; exact q)⟩⟩
    | exact ⟨fun q => op_eqD hu pins s σ H _ _ v u Q I rx ry ⟨_, _, .bl _, .int _, rfl, rfl, q⟩, fun q => op_neD hu pins s σ H _ _ v u Q I rx ry ⟨_, _, .bl _, .int _, rfl, rfl, q⟩⟩
    | exact ⟨fun q => op_eqD hu pins s σ H _ _ v u Q I rx ry ⟨_, _, .int _, .bl _, rfl, rfl, q⟩, fun q => op_neD hu pins s σ H _ _ v u Q I rx ry ⟨_, _, .int _, .bl _, rfl, rfl, q⟩⟩
theorem opr_eq (hu : X.A.units + 64 < cLine) : OpR X (compareOp .Eq) (RC X G CL .eq) := by
  intro pins s σ H x y v u Q I rx ry h
  obtain ⟨μ, S, a, b, R, ra, rb, h⟩ := h
  obtain ⟨c, e, q⟩ := h.cmp R
  have e : eqD S a b = some c := e
  unfold eqD at e
  by_cases hf : (flat a && flat b) = true
  · rw [if_pos hf] at e
    cases e
    rw [Bool.and_eq_true] at hf
    exact (eq_flat hu ra rb hf.1 hf.2 I rx ry).1 q
  · rw [if_neg hf] at e
    obtain ⟨d, f, h1, h2, h3, h4, h5⟩ := eqDp_of R ra rb e
    exact op_eqD hu pins s σ H _ _ v u Q I rx ry ⟨d, f, h1, h2, h3, h4, by rw [h5]; exact q⟩
theorem opr_ne (hu : X.A.units + 64 < cLine) : OpR X (compareOp .NotEq) (RC X G CL .ne) := by
  intro pins s σ H x y v u Q I rx ry h
  obtain ⟨μ, S, a, b, R, ra, rb, h⟩ := h
  obtain ⟨c, e, q⟩ := h.cmp R
  have e : (eqD S a b).map (!·) = some c := e
  cases e' : eqD S a b with
  | none => rw [e'] at e; cases e
  | some c' =>
    rw [e'] at e
    cases e
    unfold eqD at e'
    by_cases hf : (flat a && flat b) = true
    · rw [if_pos hf] at e'
      cases e'
      rw [Bool.and_eq_true] at hf
      exact (eq_flat hu ra rb hf.1 hf.2 I rx ry).2 q
    · rw [if_neg hf] at e'
      obtain ⟨d, f, h1, h2, h3, h4, h5⟩ := eqDp_of R ra rb e'
      exact op_neD hu pins s σ H _ _ v u Q I rx ry ⟨d, f, h1, h2, h3, h4, by rw [h5]; exact q⟩
theorem ints_V {K : PySem.W.Frag} {CL : CLT} {μ : List Addr} {H : Hp} : ∀ {l : List D} {xs : List V} {ns : List Int}, Reps K CL μ H l xs → intsL l = some ns → xs = ns.map V.int
  | _, _, _, .nil, h => by cases h; rfl
  | .int i :: l, _, ns, .cons r rs, h => by
    have h : (intsL l).map (i :: ·) = some ns := h
    cases e : intsL l with
    | none => rw [e] at h; cases h
    | some ms =>
      rw [e] at h
      cases h
      cases r
      rw [ints_V rs e]
      rfl
  | .non :: _, _, _, .cons _ _, h => by cases h
  | .bl _ :: _, _, _, .cons _ _, h => by cases h
  | .str _ :: _, _, _, .cons _ _, h => by cases h
  | .tup _ :: _, _, _, .cons _ _, h => by cases h
  | .ref _ :: _, _, _, .cons _ _, h => by cases h
  | .klst _ :: _, _, _, .cons _ _, h => by cases h
  | .clo _ _ _ :: _, _, _, .cons _ _, h => by cases h
theorem lexLt_HT : ∀ (a b : List Int), HT.lexLt a b = lexLt a b
  | [], [] => rfl
  | [], _ :: _ => rfl
  | _ :: _, [] => rfl
  | x :: xs, y :: ys => by
    rw [HT.lexLt_cons, lexLt_HT xs ys]
    rfl
theorem lexAt_shift (e r : Nat → Bool) (z : Bool) : ∀ (k i : Nat), Ob.lexAt e r z (i + 1) k = Ob.lexAt (fun j => e (j + 1)) (fun j => r (j + 1)) z i k
  | 0, i => rfl
  | k + 1, i => by
    rw [Ob.lexAt_succ, Ob.lexAt_succ, lexAt_shift e r z k (i + 1)]
theorem lexLe_at : ∀ (ns ms : List Int), Ob.lexAt (fun j => decide (ns.getD j 0 = ms.getD j 0)) (fun j => decide (ns.getD j 0 ≤ ms.getD j 0)) (decide (ns.length ≤ ms.length)) 0 (min ns.length ms.length) = lexLe ns ms
  | [], ms => by
    rw [show min ([] : List Int).length ms.length = 0 by simp, Ob.lexAt_zero]
    simp [lexLe]
  | n :: ns, [] => by
    rw [show min (n :: ns).length ([] : List Int).length = 0 by simp, Ob.lexAt_zero]
    simp [lexLe]
  | n :: ns, m :: ms => by
    rw [show min (n :: ns).length (m :: ms).length = min ns.length ms.length + 1 by simp only [List.length_cons]; omega, Ob.lexAt_succ, lexAt_shift]
    have ih := lexLe_at ns ms
    simp only [List.getD_cons_succ, List.getD_cons_zero, List.length_cons, Nat.add_le_add_iff_right, lexLe]
    rw [ih]
    by_cases e : n = m
    · simp [e]
    · simp [e]
theorem ltD_tup {op : COp} {l m : List D} {c : Bool} (h : ltD op (.tup l) (.tup m) = some c) : ∃ ns ms, intsL l = some ns ∧ intsL m = some ms ∧ ltOp op ns ms = some c := by
  unfold ltD at h
  dsimp only at h
  cases e1 : intsL l with
  | none => simp only [e1] at h; cases h
  | some ns =>
    cases e2 : intsL m with
    | none => simp only [e1, e2] at h; cases h
    | some ms => simp only [e1, e2] at h; exact ⟨ns, ms, rfl, rfl, h⟩
theorem opr_lt (hu : X.A.units + 64 < cLine) : OpR X (compareOp .Lt) (RC X G CL .lt) := by
  intro pins s σ H x y v u Q I rx ry h
  obtain ⟨μ, S, a, b, R, ra, rb, h⟩ := h
  obtain ⟨c, e, q⟩ := h.cmp R
  have e : ltD .lt a b = some c := e
  cases ra with
  | int i =>
    cases rb with
    | int j => cases e; exact op_lt pins s σ H _ _ v u Q I rx ry ⟨i, j, rfl, rfl, q⟩
    | _ => cases e
  | tup ha hra =>
    cases rb with
    | tup hb hrb =>
      obtain ⟨ns, ms, e1, e2, e⟩ := ltD_tup e
      have h1 := ints_V hra e1
      have h2 := ints_V hrb e2
      subst h1 h2
      cases e
      exact op_ltT (by omega) pins s σ H _ _ v u Q I rx ry ⟨_, _, ns, ms, rfl, rfl, SqT.of ha, SqT.of hb, by rw [lexLt_HT]; exact q⟩
    | _ => cases e
  | _ => cases rb <;> cases e
theorem opr_le (hu : X.A.units + 64 < cLine) : OpR X (compareOp .LtE) (RC X G CL .le) := by
  intro pins s σ H x y v u Q I rx ry h
  obtain ⟨μ, S, a, b, R, ra, rb, h⟩ := h
  obtain ⟨c, e, q⟩ := h.cmp R
  have e : ltD .le a b = some c := e
  cases ra with
  | int i =>
    cases rb with
    | int j => cases e; exact op_le pins s σ H _ _ v u Q I rx ry ⟨i, j, rfl, rfl, q⟩
    | _ => cases e
  | tup ha hra =>
    cases rb with
    | tup hb hrb =>
      obtain ⟨ns, ms, e1, e2, e⟩ := ltD_tup e
      have h1 := ints_V hra e1
      have h2 := ints_V hrb e2
      subst h1 h2
      cases e
      exact op_leT (by omega) pins s σ H _ _ v u Q I rx ry ⟨_, _, ns, ms, rfl, rfl, SqT.of ha, SqT.of hb, by rw [lexLe_at]; exact q⟩
    | _ => cases e
  | _ => cases rb <;> cases e
theorem opr_gt : OpR X (compareOp .Gt) (RC X G CL .gt) := by
  intro pins s σ H x y v u Q I rx ry h
  obtain ⟨μ, S, a, b, R, ra, rb, h⟩ := h
  obtain ⟨c, e, q⟩ := h.cmp R
  have e : ltD .gt a b = some c := e
  cases ra with
  | int i =>
    cases rb with
    | int j => cases e; exact op_gt pins s σ H _ _ v u Q I rx ry ⟨i, j, rfl, rfl, q⟩
    | _ => cases e
  | tup ha hra =>
    cases rb with
    | tup hb hrb => obtain ⟨_, _, _, _, e⟩ := ltD_tup e; cases e
    | _ => cases e
  | _ => cases rb <;> cases e
theorem opr_ge : OpR X (compareOp .GtE) (RC X G CL .ge) := by
  intro pins s σ H x y v u Q I rx ry h
  obtain ⟨μ, S, a, b, R, ra, rb, h⟩ := h
  obtain ⟨c, e, q⟩ := h.cmp R
  have e : ltD .ge a b = some c := e
  cases ra with
  | int i =>
    cases rb with
    | int j => cases e; exact op_ge pins s σ H _ _ v u Q I rx ry ⟨i, j, rfl, rfl, q⟩
    | _ => cases e
  | tup ha hra =>
    cases rb with
    | tup hb hrb => obtain ⟨_, _, _, _, e⟩ := ltD_tup e; cases e
    | _ => cases e
  | _ => cases rb <;> cases e
/-- is None, is True .. -/
theorem is_ok {pins : List (Addr × Obj)} {s : Shared} {σ : L2.St} {H : Hp} {x y : V} {v u : Value} {Q : VK} {a b : D} {μ : List Addr} {c : Bool} (ra : Rep X.K CL μ H a x) (rb : Rep X.K CL μ H b y) (e : isD a b = some c)
    (I : L2.Inv X pins σ H s) (rx : L2.RelV x v) (ry : L2.RelV y u) : (Q (.bl c) H → wpAny (model X.prog X.w) X.A (compareOp .Is v u) (EP X pins σ Q) X.xe s) ∧ (Q (.bl (!c)) H → wpAny (model X.prog X.w) X.A (compareOp .IsNot v u) (EP X pins σ Q) X.xe s) := by
  cases rb with
  | non =>
    have ec : c = decide (x = .non) := by
      cases ra <;> (cases e; rfl)
    subst ec
    exact ⟨fun q => op_isN pins s σ H _ _ v u Q I rx ry ⟨rfl, q⟩, fun q => op_notN pins s σ H _ _ v u Q I rx ry ⟨rfl, q⟩⟩
  | bl d =>
    cases (show u = Value.bool d from ry)
    have key : ∀ w : Value, (isSame w (.bool d) = pure (w == .bool d)) → v = w → c = (w == .bool d) →
        (Q (.bl c) H → wpAny (model X.prog X.w) X.A (compareOp .Is v (.bool d)) (EP X pins σ Q) X.xe s) ∧ (Q (.bl (!c)) H → wpAny (model X.prog X.w) X.A (compareOp .IsNot v (.bool d)) (EP X pins σ Q) X.xe s) := fun w hw ew ec => by
      subst ew
      subst ec
      constructor
      · intro q
        show wpAny _ _ (isSame v (.bool d) >>= fun r => pure (Value.bool r)) _ _ s
        rw [hw]
        exact wpAny_bind (wpAny_pure (wpAny_pure ⟨.bl _, H, I, rfl, q⟩))
      · intro q
        show wpAny _ _ (isSame v (.bool d) >>= fun r => pure (Value.bool (!r))) _ _ s
        rw [hw]
        exact wpAny_bind (wpAny_pure (wpAny_pure ⟨.bl _, H, I, rfl, q⟩))
    cases ra with
    | non => cases e; cases rx; exact key _ rfl rfl rfl
    | bl b =>
      cases e; cases rx
      exact key (.bool b) rfl rfl (by cases b <;> cases d <;> rfl)
    | int i => cases e; obtain ⟨t, rfl⟩ := rx; exact key _ rfl rfl rfl
    | str z => cases e; obtain ⟨t, rfl⟩ := rx; exact key _ rfl rfl rfl
    | tup _ _ => cases e; cases rx; exact key _ rfl rfl rfl
    | klst _ _ => cases e; cases rx; exact key _ rfl rfl rfl
    | ref _ => cases e; cases rx; exact key _ rfl rfl rfl
    | clo _ _ _ => cases e; cases rx; exact key _ rfl rfl rfl
  | _ => cases e
theorem opr_is : OpR X (compareOp .Is) (RC X G CL .is) := by
  intro pins s σ H x y v u Q I rx ry h
  obtain ⟨μ, S, a, b, R, ra, rb, h⟩ := h
  obtain ⟨c, e, q⟩ := h.cmp R
  exact (is_ok ra rb e I rx ry).1 q
theorem opr_isn : OpR X (compareOp .IsNot) (RC X G CL .isn) := by
  intro pins s σ H x y v u Q I rx ry h
  obtain ⟨μ, S, a, b, R, ra, rb, h⟩ := h
  obtain ⟨c, e, q⟩ := h.cmp R
  have e : (isD a b).map (!·) = some c := e
  cases e' : isD a b with
  | none => rw [e'] at e; cases e
  | some c' => rw [e'] at e; cases e; exact (is_ok ra rb e' I rx ry).2 q
theorem flats_V {K : PySem.W.Frag} {CL : CLT} {μ : List Addr} {H : Hp} {a : D} {x : V} (ra : Rep K CL μ H a x) (fa : flat a = true) : ∀ {l : List D} {xs : List V}, Reps K CL μ H l xs → l.all flat = true → xs.all flatV = true ∧ (xs.any fun y => eqV y x) = l.any fun z => eqF z a
  | _, _, .nil, _ => ⟨rfl, rfl⟩
  | _, _, .cons r rs, h => by
    rw [List.all_cons, Bool.and_eq_true] at h
    obtain ⟨h1, h2⟩ := flats_V ra fa rs h.2
    rw [List.all_cons, List.any_cons, List.any_cons, h1, h2, flat_V r h.1, eqF_V r ra h.1 fa]
    exact ⟨rfl, rfl⟩
theorem mem_ok {μ : List Addr} {S : Store} {H : Hp} {x y : V} {a b : D} {c : Bool} (R : RelG X.K G CL μ S H) (ra : Rep X.K CL μ H a x) (rb : Rep X.K CL μ H b y) (e : memD S a b = some c) :
    ∃ p xs, y = .ref p ∧ (SqL X.K H p xs ∨ SqT X.K H p xs) ∧ flatV x = true ∧ xs.all flatV = true ∧ inV x xs = c := by
  have fin : ∀ {l : List D} {xs : List V}, Reps X.K CL μ H l xs → (if flat a && l.all flat then some (l.any fun z => eqF z a) else none) = some c → flatV x = true ∧ xs.all flatV = true ∧ inV x xs = c := fun {l xs} r h => by
    by_cases hf : (flat a && l.all flat) = true
    · rw [if_pos hf] at h
      cases h
      rw [Bool.and_eq_true] at hf
      obtain ⟨h1, h2⟩ := flats_V ra hf.1 r hf.2
      exact ⟨flat_V ra hf.1, h1, h2⟩
    · rw [if_neg hf] at h; cases h
  have lst : ∀ {l : List D}, lstAt S b = some l → (if flat a && l.all flat then some (l.any fun z => eqF z a) else none) = some c → ∃ p xs, y = .ref p ∧ (SqL X.K H p xs ∨ SqT X.K H p xs) ∧ flatV x = true ∧ xs.all flatV = true ∧ inV x xs = c := fun {l} h1 h2 => by
    obtain ⟨p, xs, rfl, hs, r⟩ := R.lstAt rb h1
    obtain ⟨q1, q2, q3⟩ := fin r h2
    exact ⟨p, xs, rfl, .inl hs, q1, q2, q3⟩
  unfold memD at e
  cases rb with
  | tup hb hrb =>
    obtain ⟨q1, q2, q3⟩ := fin hrb e
    exact ⟨_, _, rfl, .inr (SqT.of hb), q1, q2, q3⟩
  | @ref k p hm =>
    dsimp only at e
    cases e1 : lstAt S (.ref k) with
    | none => simp only [e1] at e; cases e
    | some l => simp only [e1] at e; exact lst e1 e
  | klst _ _ => exact lst rfl e
  | _ => cases e
theorem opr_mem : OpR X (compareOp .In) (RC X G CL .mem) := by
  intro pins s σ H x y v u Q I rx ry h
  obtain ⟨μ, S, a, b, R, ra, rb, h⟩ := h
  obtain ⟨c, e, q⟩ := h.cmp R
  obtain ⟨p, xs, e1, e2, e3, e4, e5⟩ := mem_ok R ra rb e
  exact op_in_seq pins s σ H _ _ v u Q I rx ry ⟨p, xs, e1, e2, e3, e4, by rw [e5]; exact q⟩
theorem opr_nmem : OpR X (compareOp .NotIn) (RC X G CL .nmem) := by
  intro pins s σ H x y v u Q I rx ry h
  obtain ⟨μ, S, a, b, R, ra, rb, h⟩ := h
  obtain ⟨c, e, q⟩ := h.cmp R
  have e : (memD S a b).map (!·) = some c := e
  cases e' : memD S a b with
  | none => rw [e'] at e; cases e
  | some c' =>
    rw [e'] at e
    cases e
    obtain ⟨p, xs, e1, e2, e3, e4, e5⟩ := mem_ok R ra rb e'
    exact op_notIn_seq pins s σ H _ _ v u Q I rx ry ⟨p, xs, e1, e2, e3, e4, by rw [e5]; exact q⟩
def copOf : COp → CmpOp
  | .eq => .Eq | .ne => .NotEq | .lt => .Lt | .le => .LtE | .gt => .Gt | .ge => .GtE | .is => .Is | .isn => .IsNot | .mem => .In | .nmem => .NotIn
theorem opr_cmp (hu : X.A.units + 64 < cLine) (op : COp) : OpR X (compareOp (copOf op)) (RC X G CL op) := by
  cases op
  · exact opr_eq hu
  · exact opr_ne hu
  · exact opr_lt hu
  · exact opr_le hu
  · exact opr_gt
  · exact opr_ge
  · exact opr_is
  · exact opr_isn
  · exact opr_mem
  · exact opr_nmem
/-! ### truth -/
theorem tru_V {μ : List Addr} {S : Store} {H : Hp} {a : D} {x : V} {b : Bool} (R : RelG X.K G CL μ S H) (ra : Rep X.K CL μ H a x) (h : truD S a = some b) : TruV X.K x H b := by
  cases ra with
  | non => cases h; exact rfl
  | bl c => cases h; exact rfl
  | int i => cases h; exact rfl
  | str z =>
    have h : (if z.length ≤ LIM then some ((z.length : Int) != 0) else none) = some b := h
    by_cases hz : z.length ≤ LIM
    · rw [if_pos hz] at h
      cases h
      exact ⟨by rw [← lim_eq]; exact hz, rfl⟩
    · rw [if_neg hz] at h; cases h
  | @tup l a xs ht hr =>
    cases h
    refine .inr (.inl ⟨xs, SqT.of ht, ?_⟩)
    cases hr <;> rfl
  | @klst l a xs ht hr =>
    cases h
    refine .inl ⟨xs, ht.sqL, ?_⟩
    cases hr <;> rfl
  | @ref k p hm =>
    obtain ⟨mo, e, ho⟩ := R.at hm
    unfold truD at h
    simp only [e] at h
    cases ho with
    | lst h1 hr =>
      cases h
      refine .inl ⟨_, SqL.of h1, ?_⟩
      cases hr <;> rfl
    | gone _ _ _ => cases h
    | dK h1 hr =>
      dsimp only at h
      split at h
      · cases h
        refine .inr (.inr ⟨_, h1, ?_⟩)
        cases hr <;> rfl
      · cases h
    | dT hn h1 hr =>
      dsimp only at h
      split at h
      · rename_i hk
        cases hr with
        | nil => exact (hn rfl).elim
        | @cons d x k v ds kvs hd _ _ =>
          exfalso
          rw [List.all_cons, Bool.and_eq_true] at hk
          have hk1 : keyOk d = true := hk.1
          cases d <;> first | (cases hd; done) | (cases hk1; done)
      · cases h
  | clo _ _ _ => cases h
end
end Sim
set_option Elab.async false
set_option linter.all false
set_option autoImplicit false
set_option maxRecDepth 100000
/-! Sim1d: subscripts, slices, stores, builtin functions and methods, isinstance. -/
namespace Sim
open PySem PySem.Spec PyProof.Rows L2
theorem ixN_eq (n : Nat) (i : Int) : Sim.ixN n i = L2.ixN n i := rfl
theorem sIx_eq (n d : Nat) (o : Option Int) : Sim.sIx n d o = HT.sIx n d o := by cases o <;> rfl
theorem mapE {α β : Type} {S S' : Store} {o : Option α} {f : α → Ex β} {r : Ex β} (h : o.map (fun a => (f a, S)) = some (r, S')) : ∃ a, o = some a ∧ r = f a ∧ S' = S := by
  cases o with
  | none => cases h
  | some a => cases h; exact ⟨a, rfl, rfl, rfl⟩
section
variable {K : PySem.W.Frag} {G : Wd} {CL : CLT} {μ : List Addr} {S : Store} {H : Hp} {Q : VK}
/-- a value comes out of a look at the store -/
theorem LV.map {α β ν : Type} {RR : RRT β ν} {m : M β} {Q : ν → Hp → Prop} {o : Option α} {f : α → β} (h : LV K G CL RR μ S m H Q) (e : m S = o.map fun a => (.val (f a), S)) : ∃ a, o = some a ∧ m S = some (.val (f a), S) := by
  cases q : o with
  | none => exact (h.no (by rw [e, q]; rfl)).elim
  | some a => exact ⟨a, rfl, by rw [e, q]; rfl⟩
theorem Reps.cut {l : List D} {xs : List V} (r : Reps K CL μ H l xs) (lo hi : Option Int) : Reps K CL μ H (Sim.cut l lo hi) (cutV xs lo hi) := by
  unfold Sim.cut cutV
  rw [sIx_eq, sIx_eq, r.length]
  exact (r.drop _).take _
theorem keyD_V {d : D} {v : V} {k : Key} (r : Rep K CL μ H d v) (h : keyD d = some k) : v = kV k := by
  cases r <;> cases h <;> rfl
theorem keysD_V : ∀ {l : List D} {xs : List V} {ks : List Key}, Reps K CL μ H l xs → keysD l = some ks → xs = ks.map kV
  | _, _, _, .nil, h => by cases h; rfl
  | d :: l, _, ks, .cons r rs, h => by
    have h : (match keyD d, keysD l with | some k, some ks => some (k :: ks) | _, _ => none) = some ks := h
    cases e1 : keyD d with
    | none => simp only [e1] at h; cases h
    | some k =>
      cases e2 : keysD l with
      | none => simp only [e1, e2] at h; cases h
      | some ms =>
        simp only [e1, e2] at h
        cases h
        rw [keyD_V r e1, keysD_V rs e2]
        rfl
theorem keyD_of {d : D} (h : keyOk d = true) : ∃ k, keyD d = some k := by
  cases d <;> first | exact ⟨_, rfl⟩ | cases h
theorem keysD_of : ∀ {l : List D}, l.all keyOk = true → ∃ ks, keysD l = some ks
  | [], _ => ⟨[], rfl⟩
  | d :: l, h => by
    rw [List.all_cons, Bool.and_eq_true] at h
    obtain ⟨k, e1⟩ := keyD_of h.1
    obtain ⟨ks, e2⟩ := keysD_of h.2
    exact ⟨k :: ks, by unfold keysD; rw [e1, e2]⟩
theorem keyTD_of {d : D} (h : keyT d = true) : ∃ l k, d = .tup l ∧ keyTD d = some k ∧ keysD l = some k := by
  cases d with
  | tup l =>
    obtain ⟨ks, e⟩ := keysD_of (l := l) h
    exact ⟨l, ks, rfl, e, e⟩
  | _ => cases h
theorem keyD_inj {a b : D} {k : Key} (ha : keyD a = some k) (hb : keyD b = some k) : a = b := by
  cases a <;> cases ha <;> cases b <;> first | (cases hb; rfl) | cases hb
theorem beqD_key {a b : D} {k j : Key} (ha : keyD a = some k) (hb : keyD b = some j) : beqD a b = decide (k = j) := by
  cases a <;> cases ha <;> cases b <;> cases hb
  · exact (key_ll _ _).symm
  · exact (key_lr _ _).symm
  · exact (key_rl _ _).symm
  · rename_i x y
    rw [key_rr]
    show (x == y) = decide (x = y)
    by_cases e : x = y
    · subst e; simp
    · rw [decide_eq_false e]; exact beq_eq_false_iff_ne.mpr e
theorem beqL_keys : ∀ {a b : List D} {k j : List Key}, keysD a = some k → keysD b = some j → beqL a b = decide (k = j)
  | [], [], _, _, ha, hb => by cases ha; cases hb; rfl
  | [], y :: b, _, j, ha, hb => by
    cases ha
    have hb : (match keyD y, keysD b with | some k, some ks => some (k :: ks) | _, _ => none) = some j := hb
    split at hb
    · cases hb; rfl
    · cases hb
  | x :: a, [], k, _, ha, hb => by
    cases hb
    have ha : (match keyD x, keysD a with | some k, some ks => some (k :: ks) | _, _ => none) = some k := ha
    split at ha
    · cases ha; rfl
    · cases ha
  | x :: a, y :: b, k, j, ha, hb => by
    have ha : (match keyD x, keysD a with | some k, some ks => some (k :: ks) | _, _ => none) = some k := ha
    have hb : (match keyD y, keysD b with | some k, some ks => some (k :: ks) | _, _ => none) = some j := hb
    split at ha
    · rename_i k1 ks1 e1 e2
      cases ha
      split at hb
      · rename_i k2 ks2 e3 e4
        cases hb
        show (beqD x y && beqL a b) = _
        rw [beqD_key e1 e3, beqL_keys e2 e4, Bool.eq_iff_iff]
        simp
      · cases hb
    · cases ha
theorem dLook_K {k : D} {q : Key} (hk : keyD k = some q) : ∀ {ds : List (D × D)} {kvs : List (Key × V)}, RepKV K CL μ H ds kvs → (∀ d, dLook k ds = some d → ∃ v, valV kvs q = some v ∧ Rep K CL μ H d v) ∧ (dLook k ds = none → valV kvs q = none)
  | _, _, .nil => ⟨fun _ h => (by cases h), fun _ => rfl⟩
  | _, _, .cons (d := d) (x := x) (k := p) (v := v) (ds := ds) (kvs := kvs) h1 h2 r => by
    obtain ⟨i1, i2⟩ := dLook_K hk r
    have eb := beqD_key h1 hk
    by_cases e : p = q
    · rw [decide_eq_true e] at eb
      unfold dLook
      rw [if_pos eb]
      exact ⟨fun d h => by cases h; exact ⟨v, valV_pos e, h2⟩, fun h => by cases h⟩
    · rw [decide_eq_false e] at eb
      unfold dLook
      rw [if_neg (by rw [eb]; exact Bool.false_ne_true), valV_neg (p := (p, v)) e]
      exact ⟨i1, i2⟩
theorem dLook_T {k : D} {q : List Key} (hk : keyTD k = some q) : ∀ {ds : List (D × D)} {kvs : List (List Key × V)}, RepKT K CL μ H ds kvs → (∀ d, dLook k ds = some d → ∃ v, valV kvs q = some v ∧ Rep K CL μ H d v) ∧ (dLook k ds = none → valV kvs q = none)
  | _, _, .nil => ⟨fun _ h => (by cases h), fun _ => rfl⟩
  | _, _, .cons (d := d) (x := x) (k := p) (v := v) (ds := ds) (kvs := kvs) h1 h2 r => by
    obtain ⟨i1, i2⟩ := dLook_T hk r
    have eb : beqD d k = decide (p = q) := by
      cases d <;> first | (cases h1; done) | skip
      cases k <;> first | (cases hk; done) | skip
      exact beqL_keys h1 hk
    by_cases e : p = q
    · rw [decide_eq_true e] at eb
      unfold dLook
      rw [if_pos eb]
      exact ⟨fun d h => by cases h; exact ⟨v, valV_pos e, h2⟩, fun h => by cases h⟩
    · rw [decide_eq_false e] at eb
      unfold dLook
      rw [if_neg (by rw [eb]; exact Bool.false_ne_true), valV_neg (p := (p, v)) e]
      exact ⟨i1, i2⟩
end
theorem putK_cons {κ : Type} [DecidableEq κ] (p : κ × V) (r : List (κ × V)) (k : κ) (v : V) (nd : ((p :: r).map (·.1)).Nodup) : putK (p :: r) k v = if p.1 = k then (p.1, v) :: r else p :: putK r k v := by
  unfold putK
  by_cases e : p.1 = k
  · rw [if_pos e]
    simp only [List.any_cons, e, decide_true, Bool.true_or, if_true, List.map_cons]
    congr 1
    have : ∀ q ∈ r, q.1 ≠ k := fun q hq z => by
      rw [List.map_cons, List.nodup_cons] at nd
      exact nd.1 (List.mem_map.mpr ⟨q, hq, by rw [z, e]⟩)
    conv => rhs; rw [← List.map_id r]
    refine List.map_congr_left fun q hq => ?_
    rw [if_neg (this q hq)]
    rfl
  · rw [if_neg e]
    simp only [List.any_cons, e, decide_false, Bool.false_or, List.map_cons, if_false, List.cons_append]
    split <;> rfl
section
variable {K : PySem.W.Frag} {G : Wd} {CL : CLT} {μ : List Addr} {S : Store} {H : Hp} {Q : VK}
theorem dPut_K {k x : D} {q : Key} {w : V} (hk : keyD k = some q) (hx : Rep K CL μ H x w) : ∀ {ds : List (D × D)} {kvs : List (Key × V)}, RepKV K CL μ H ds kvs → (kvs.map (·.1)).Nodup → RepKV K CL μ H (dPut k x ds) (putK kvs q w)
  | _, _, .nil, _ => .cons hk hx .nil
  | _, _, .cons (d := d) (x := y) (k := p) (v := v) (ds := ds) (kvs := kvs) h1 h2 r, nd => by
    rw [putK_cons _ _ _ _ nd]
    have eb := beqD_key h1 hk
    unfold dPut
    by_cases e : p = q
    · rw [decide_eq_true e] at eb
      rw [if_pos eb, if_pos e]
      exact .cons h1 hx r
    · rw [decide_eq_false e] at eb
      rw [if_neg (by rw [eb]; exact Bool.false_ne_true), if_neg e]
      exact .cons h1 h2 (dPut_K hk hx r (by rw [List.map_cons, List.nodup_cons] at nd; exact nd.2))
theorem dPut_T {k x : D} {q : List Key} {w : V} (hk : keyTD k = some q) (hx : Rep K CL μ H x w) : ∀ {ds : List (D × D)} {kvs : List (List Key × V)}, RepKT K CL μ H ds kvs → (kvs.map (·.1)).Nodup → RepKT K CL μ H (dPut k x ds) (putK kvs q w)
  | _, _, .nil, _ => .cons hk hx .nil
  | _, _, .cons (d := d) (x := y) (k := p) (v := v) (ds := ds) (kvs := kvs) h1 h2 r, nd => by
    rw [putK_cons _ _ _ _ nd]
    have eb : beqD d k = decide (p = q) := by
      cases d <;> first | (cases h1; done) | skip
      cases k <;> first | (cases hk; done) | skip
      exact beqL_keys h1 hk
    unfold dPut
    by_cases e : p = q
    · rw [decide_eq_true e] at eb
      rw [if_pos eb, if_pos e]
      exact .cons h1 hx r
    · rw [decide_eq_false e] at eb
      rw [if_neg (by rw [eb]; exact Bool.false_ne_true), if_neg e]
      exact .cons h1 h2 (dPut_T hk hx r (by rw [List.map_cons, List.nodup_cons] at nd; exact nd.2))
theorem RepKV.length {ds : List (D × D)} {kvs : List (Key × V)} (r : RepKV K CL μ H ds kvs) : ds.length = kvs.length := by
  induction r with
  | nil => rfl
  | cons _ _ _ ih => simp [ih]
theorem RepKT.length {ds : List (D × D)} {kvs : List (List Key × V)} (r : RepKT K CL μ H ds kvs) : ds.length = kvs.length := by
  induction r with
  | nil => rfl
  | cons _ _ _ ih => simp [ih]
theorem dPut_ne (k x : D) : ∀ ds : List (D × D), dPut k x ds ≠ []
  | [] => fun h => by cases h
  | (q, u) :: r => fun h => by
    unfold dPut at h
    split at h <;> cases h
end
section
variable {X : Cx} {G : Wd} {CL : CLT} {pins : List (Addr × Obj)} {s : Shared} {σ : L2.St} {H : Hp}
/-- the keys of a tracked dict are unlike -/
theorem nodup_dK (I : L2.Inv X pins σ H s) {a : Addr} {kvs : List (Key × V)} (h : H a = some (.dK kvs)) : (kvs.map (·.1)).Nodup := by
  obtain ⟨_, _, vs, rel, dd⟩ := dk_of I.hok h
  obtain ⟨o, es, ep, h1, h2, h3, h4, h5, h6⟩ := dd
  rw [rel.keys]
  first | exact h6 | exact h4 | exact h6.1 | exact h6.2
theorem nodup_dT (I : L2.Inv X pins σ H s) {a : Addr} {kvs : List (List Key × V)} (h : H a = some (.dT kvs)) : (kvs.map (·.1)).Nodup := by
  obtain ⟨z, hd, xs, rel, dd⟩ := dt_of I.hok h
  obtain ⟨o, es, ep, h1, h2, h3, h4, h5, h6⟩ := dd
  have e : kvs.map (·.1) = xs.map (·.1) := by
    clear h4 h5 h6 h3 h2 h1 z h
    induction rel with
    | nil => rfl
    | cons r _ ih => rw [List.map_cons, List.map_cons, ih, r.1]
  rw [e]
  exact h6
end
/-! ### subscripts -/
section
variable {X : Cx} {G : Wd} {CL : CLT}
theorem LV.opt {α β ν : Type} {K : PySem.W.Frag} {RR : RRT β ν} {μ : List Addr} {S : Store} {m : M β} {H : Hp} {Q : ν → Hp → Prop} {o : Option α} {f : α → β} (h : LV K G CL RR μ S m H Q) (e : m S = o.map fun a => (.val (f a), S)) (R : RelG K G CL μ S H) :
    ∃ a, o = some a ∧ ∀ v, RR μ H (f a) v → Q v H := by
  obtain ⟨a, e1, e2⟩ := h.map e
  exact ⟨a, e1, fun v r => h.here e2 R r⟩
theorem atI_of {l : List D} {xs : List V} {K : PySem.W.Frag} {μ : List Addr} {H : Hp} {k : Int} {d : D} (r : Reps K CL μ H l xs) (h : ((Sim.ixN l.length k).bind fun j => l[j]?) = some d) : ∃ v, atI xs k = some v ∧ Rep K CL μ H d v := by
  cases e : Sim.ixN l.length k with
  | none => rw [e] at h; cases h
  | some j =>
    rw [e] at h
    obtain ⟨v, h1, h2⟩ := r.get (i := j) h
    refine ⟨v, ?_, h2⟩
    unfold atI
    rw [← r.length, ← ixN_eq, e]
    exact h1
/-- a dict's item -/
theorem ix_dict (hu : X.A.units + 1 < cLine) : IxR X (fun x y H Q => ∃ a v, x = .ref a ∧ DGet H a y (some v) ∧ Q v H) := by
  intro value slice pins s σ H x y v u Q I rx ry h hs
  obtain ⟨a, z, rfl, g, q⟩ := h
  cases rx
  exact subscriptTail_builtinR' (H := H) (dict_typeIs I g) (d_getItem hu I g ry fun w' s' I' r' => ⟨z, H, I', r', q⟩) hs
where
  subscriptTail_builtinR' {value slice : Expr} {pins : List (Addr × Obj)} {s : Shared} {σ : L2.St} {H : Hp} {a : Addr} {u : Value} {Q : VK} (hT : s.TypeIs (.ref a) "dict") (h : wpAny (model X.prog X.w) X.A (getItem (.ref a) u) (EP X pins σ Q) X.xe s)
      (hs : subscripted slice false (.ref a) u = operate [.ref a, u] (getItem (.ref a) u)) : wpAny (model X.prog X.w) X.A (subscriptTail value slice (.ref a) u) (EP X pins σ Q) X.xe s := by
    unfold subscriptTail
    refine wpAny_bind ?_
    rw [getitemInPython_of_ne hT.not_modules]
    refine wpAny_bind (wpAny_specialOf hT PySem.F.slot_dict_getitem.lookup ?_)
    have fin : wpAny (model X.prog X.w) X.A (subscripted slice false (.ref a) u) (fun r s₃ => wpAny (model X.prog X.w) X.A (letTemporaryGo value (.ref a) r >>= fun _ => pure r) (EP X pins σ Q) X.xe s₃) X.xe s := by
      rw [hs]
      exact wpAny_operating (wpAny_mono h (fun r s₃ h₃ => wpAny_bind (wpAny_letTemporaryGo (wpAny_pure h₃))) fun _ _ x => x)
    first
      | exact wpAny_pure (wpAny_bind fin)
      | exact wpAny_bind (wpAny_pure (wpAny_bind fin))
      | exact wpAny_bind fin
/-- the empty dict, seen as one whose keys are tuples, and back -/
theorem inv_toT {pins : List (Addr × Obj)} {s : Shared} {σ : L2.St} {H : Hp} (I : L2.Inv X pins σ H s) {a : Addr} (h : H a = some (.dK [])) : L2.Inv X pins σ (upd H a (.dT [])) s := by
  obtain ⟨_, hd, vs, rel, o, es, ep, h1, h2, h3, h4, h5, h6⟩ := dk_of I.hok h
  refine L2.Inv.write (x := a) (e := a) (t' := s.toks) (h' := s.heap) I (by rw [h]; trivial) (.inl rfl) (fun _ _ _ e => e) ⟨_, h1⟩ ?_
  refine ⟨by simp, hd, [], .nil, o, es, ep, h1, h2, h3, ?_, by simp⟩
  cases rel
  generalize es.toList = l at h5 ⊢
  cases h5
  rfl
theorem inv_toK {pins : List (Addr × Obj)} {s : Shared} {σ : L2.St} {H : Hp} (I : L2.Inv X pins σ H s) {a : Addr} (h : H a = some (.dT [])) : L2.Inv X pins σ (upd H a (.dK [])) s := by
  obtain ⟨_, hd, xs, rel, o, es, ep, h1, h2, h3, h4, h5, h6⟩ := dt_of I.hok h
  refine L2.Inv.write (x := a) (e := a) (t' := s.toks) (h' := s.heap) I (by rw [h]; trivial) (.inl rfl) (fun _ _ _ e => e) ⟨_, h1⟩ ?_
  cases rel
  refine ⟨by simp, hd, [], .nil, o, es, ep, h1, h2, h3, ?_, ?_, by simp⟩
  · intro e he
    have h4' : es.toList = [] := h4
    have : e ∈ es.toList := Array.mem_toList_iff.mpr he
    rw [h4'] at this
    cases this
  · have h4' : es.toList = [] := h4
    rw [h4']
    exact .nil
theorem upd_back {H : Hp} {a : Addr} {o u : HO} (h : H a = some o) : upd (upd H a u) a o = H := by
  rw [upd_upd]
  funext b
  by_cases e : b = a
  · rw [e, upd_same, h]
  · rw [upd_ne e]
/-- what a dict holds at a key; the empty dict may be asked for a tuple -/
def DGetE (H : Hp) (a : Addr) (y : V) (o : Option V) : Prop := DGet H a y o ∨ (H a = some (.dK []) ∧ o = none ∧ ∃ (b : Addr) (ks : List Key), y = .ref b ∧ H b = some (.tup (ks.map kV)))
section
variable {pins : List (Addr × Obj)} {σ : L2.St} {H : Hp} {s : Shared} {a : Addr} {y v d : V} {u r : Value} {o : Option V} {A : Around} {E : Value → Shared → Prop}
theorem dgetT {b : Addr} {ks : List Key} (h : H a = some (.dK [])) (hb : H b = some (.tup (ks.map kV))) : DGet (upd H a (.dT [])) a (.ref b) none :=
  DGet.t (kvs := []) (k := ks) upd_same (by rw [upd_ne (fun e => by rw [e, h] at hb; cases hb)]; exact hb)
theorem inv_back (I : L2.Inv X pins σ (upd H a (.dT [])) s) (h : H a = some (.dK [])) : L2.Inv X pins σ H s := by
  have J := inv_toK I upd_same
  rw [upd_back h] at J
  exact J
theorem dE_get2 {Q : Value → Shared → Prop} (hu : A.units + 1 < cLine) (I : L2.Inv X pins σ H s) (g : DGetE H a y o) (ry : L2.RelV y u) (rd : L2.RelV d r) (h : ∀ w' s', L2.Inv X pins σ H s' → L2.RelV (o.getD d) w' → Q w' s') :
    wpAny (model X.prog X.w) A (call (.builtin "dict.get") [.ref a, u, r]) Q E s := by
  rcases g with g | ⟨g, rfl, b, ks, rfl, hb⟩
  · exact d_get2 hu I g ry rd h
  · exact d_get2 (o := none) hu (inv_toT I g) (dgetT g hb) ry rd fun w' s' I' r' => h w' s' (inv_back I' g) r'
theorem dE_in {Q : Value → Shared → Prop} (hu : A.units + 1 < cLine) (I : L2.Inv X pins σ H s) (g : DGetE H a y o) (ry : L2.RelV y u) (h : ∀ s', L2.Inv X pins σ H s' → Q (.bool o.isSome) s') :
    wpAny (model X.prog X.w) A (compareOp .In u (.ref a)) Q E s := by
  rcases g with g | ⟨g, rfl, b, ks, rfl, hb⟩
  · exact d_in hu I g ry h
  · exact d_in (o := none) hu (inv_toT I g) (dgetT g hb) ry fun s' I' => h s' (inv_back I' g)
theorem dE_notIn {Q : Value → Shared → Prop} (hu : A.units + 1 < cLine) (I : L2.Inv X pins σ H s) (g : DGetE H a y o) (ry : L2.RelV y u) (h : ∀ s', L2.Inv X pins σ H s' → Q (.bool (!o.isSome)) s') :
    wpAny (model X.prog X.w) A (compareOp .NotIn u (.ref a)) Q E s := by
  rcases g with g | ⟨g, rfl, b, ks, rfl, hb⟩
  · exact d_notIn hu I g ry h
  · exact d_notIn (o := none) hu (inv_toT I g) (dgetT g hb) ry fun s' I' => h s' (inv_back I' g)
/-- the heap behind a[y] = v -/
def DPutE (H : Hp) (a : Addr) (y v : V) (H' : Hp) : Prop := DPut H a y v H' ∨ (H a = some (.dK []) ∧ ∃ (b : Addr) (ks : List Key), y = .ref b ∧ H b = some (.tup (ks.map kV)) ∧ H' = upd H a (.dT [(ks, v)]))
theorem dE_setItem {H' : Hp} {Q : Unit → Shared → Prop} (hu : A.units + 1 < cLine) (I : L2.Inv X pins σ H s) (g : DPutE H a y v H') (ry : L2.RelV y u) (rv : L2.RelV v r) (h : ∀ s', L2.Inv X pins σ H' s' → Q () s') :
    wpAny (model X.prog X.w) A (setItem (.ref a) u r) Q E s := by
  rcases g with g | ⟨g, b, ks, rfl, hb, rfl⟩
  · exact d_setItem hu I g ry rv h
  · have hb' : upd H a (.dT []) b = some (.tup (ks.map kV)) := by rw [upd_ne (fun e => by rw [e, g] at hb; cases hb)]; exact hb
    exact d_setItem hu (inv_toT I g) (.inr ⟨[], ks, b, upd_same, rfl, hb', by rw [sizeLine_eq]; decide, rfl⟩) ry rv fun s' I' => h s' (by rw [upd_upd] at I'; exact I')
end
theorem dget_of {μ : List Addr} {S : Store} {H : Hp} {r : Nat} {a : Addr} {kvs : List (D × D)} {lock : Bool} {k : D} {y : V} (R : RelG X.K G CL μ S H) (hm : μ[r]? = some a) (e : S[r]? = some (.dct kvs lock)) (rk : Rep X.K CL μ H k y) (hf : keyFits k kvs = true) :
    ∃ o, DGetE H a y o ∧ (∀ d, dLook k kvs = some d → ∃ v, o = some v ∧ Rep X.K CL μ H d v) ∧ (dLook k kvs = none → o = none) := by
  obtain ⟨b, h1, h2⟩ := R.obj r _ e
  rw [hm] at h1; cases h1
  unfold keyFits at hf
  rw [Bool.or_eq_true, Bool.and_eq_true, Bool.and_eq_true] at hf
  cases h2 with
  | dK h1 h2 =>
    rcases hf with ⟨hk, _⟩ | ⟨hk, ha⟩
    · obtain ⟨q, hq⟩ := keyD_of hk
      obtain ⟨i1, i2⟩ := dLook_K hq h2
      refine ⟨_, .inl (by rw [keyD_V rk hq]; exact DGet.k h1), i1, i2⟩
    · -- a tuple's key in a dict of plain keys: the dict is empty
      cases h2 with
      | nil =>
        obtain ⟨l, q, rfl, hq, hq2⟩ := keyTD_of hk
        cases rk with
        | tup ht hr =>
          have := keysD_V hr hq2
          subst this
          exact ⟨none, .inr ⟨h1, rfl, _, q, rfl, ht⟩, fun d h => (by cases h), fun _ => rfl⟩
      | @cons d x k v ds kvs hd _ _ =>
        exfalso
        rw [List.all_cons, Bool.and_eq_true] at ha
        have := ha.1
        cases d <;> first | (cases hd; done) | (cases this; done)
  | dT hn h1 h2 =>
    rcases hf with ⟨hk, ha⟩ | ⟨hk, _⟩
    · cases h2 with
      | nil => exact (hn rfl).elim
      | @cons d x k v ds kvs hd _ _ =>
        exfalso
        rw [List.all_cons, Bool.and_eq_true] at ha
        have := ha.1
        cases d <;> first | (cases hd; done) | (cases this; done)
    · obtain ⟨l, q, rfl, hq, hq2⟩ := keyTD_of hk
      cases rk with
      | tup ht hr =>
        have := keysD_V hr hq2
        subst this
        obtain ⟨i1, i2⟩ := dLook_T hq h2
        exact ⟨_, .inl (DGet.t h1 ht), i1, i2⟩
end
end Sim
set_option Elab.async false
set_option linter.all false
set_option autoImplicit false
set_option maxRecDepth 100000
/-! Sim1e: subscripts, stores, slices, builtin functions and methods, isinstance, by values. -/
namespace Sim
open PySem PySem.Spec PyProof.Rows L2
section
variable {X : Cx} {G : Wd} {CL : CLT}
theorem ixr_D (hu : X.A.units + 1 < cLine) : IxR X (r2 X.K G CL subD) := by
  intro value slice pins s σ H x y v u Q I rx ry h hs
  obtain ⟨μ, S, a, b, R, ra, rb, h⟩ := h
  have seq : ∀ {l : List D} {xs : List V} {k : Int}, Reps X.K CL μ H l xs → subD a (.int k) S = ((Sim.ixN l.length k).bind fun j => l[j]?).map (fun v => (.val v, S)) → b = .int k → ∃ w, atI xs k = some w ∧ Q w H := fun {l xs k} hr e eb => by
    subst eb
    obtain ⟨d, e1, hq⟩ := h.opt (f := id) e R
    obtain ⟨w, h1, h2⟩ := atI_of hr e1
    exact ⟨w, h1, hq w h2⟩
  cases ra with
  | @tup l p xs ht hr =>
    cases rb with
    | int k =>
      obtain ⟨w, h1, h2⟩ := seq hr rfl rfl
      exact ix_tup value slice pins s σ H _ _ v u Q I rx ry ⟨_, xs, k, w, rfl, rfl, SqT.of ht, h1, h2⟩ hs
    | _ => exact (h.no rfl).elim
  | @klst l p xs ht hr =>
    cases rb with
    | int k =>
      obtain ⟨w, h1, h2⟩ := seq hr rfl rfl
      exact ix_list value slice pins s σ H _ _ v u Q I rx ry ⟨_, xs, k, w, rfl, rfl, ht.sqL, h1, h2⟩ hs
    | _ => exact (h.no rfl).elim
  | @ref k p hm =>
    obtain ⟨mo, e, ho⟩ := R.at hm
    cases mo with
    | lst l =>
      obtain ⟨xs, h1, hr⟩ := R.own hm e
      cases rb with
      | int j =>
        obtain ⟨w, h2, h3⟩ := seq (k := j) hr (by show (match S[k]? with | some (.lst l) => _ | some (.dct kvs _) => _ | _ => none) = _; simp only [e]) rfl
        exact ix_list value slice pins s σ H _ _ v u Q I rx ry ⟨_, xs, j, w, rfl, rfl, SqL.of h1, h2, h3⟩ hs
      | _ => exact (h.no (by show (match S[k]? with | some (.lst l) => _ | some (.dct kvs _) => _ | _ => none) = _; simp only [e])).elim
    | gone => exact (h.no (by show (match S[k]? with | some (.lst l) => _ | some (.dct kvs _) => _ | _ => none) = _; simp only [e])).elim
    | dct kvs lock =>
      have e2 : subD (.ref k) b S = if keyFits b kvs then (dLook b kvs).map fun v => (.val v, S) else none := by
        show (match S[k]? with | some (.lst l) => _ | some (.dct kvs _) => _ | _ => none) = _
        simp only [e]
      by_cases hf : keyFits b kvs = true
      · rw [if_pos hf] at e2
        obtain ⟨d, e3, hq⟩ := h.opt (f := id) e2 R
        obtain ⟨o, g, g1, g2⟩ := dget_of R hm e rb hf
        obtain ⟨w, rfl, rw'⟩ := g1 d e3
        rcases g with g | ⟨_, z, _⟩
        · exact ix_dict hu value slice pins s σ H _ _ v u Q I rx ry ⟨_, w, rfl, g, hq w rw'⟩ hs
        · cases z
      · rw [if_neg hf] at e2
        exact (h.no e2).elim
  | _ => exact (h.no (by cases rb <;> rfl)).elim
/-- a store -/
def rSet (K : PySem.W.Frag) (G : Wd) (CL : CLT) : TSet := fun o i v H Q => ∃ μ S a b c, RelG K G CL μ S H ∧ Rep K CL μ H a o ∧ Rep K CL μ H b i ∧ Rep K CL μ H c v ∧ LV K G CL (ν := Unit) (fun _ _ _ _ => True) μ S (setD a b c) H fun _ H' => Q H'
theorem pset_D (hu : X.A.units + 1 < cLine) : PSet X (rSet X.K G CL) := by
  intro pins s σ H o i v ov iv u Q I ro ri rv h
  obtain ⟨μ, S, a, b, c, R, ra, rb, rc, h⟩ := h
  cases ra with
  | @ref k p hm =>
    obtain ⟨mo, e, ho⟩ := R.at hm
    cases mo with
    | lst l =>
      obtain ⟨xs, h1, hr⟩ := R.own hm e
      cases rb with
      | int j =>
        have e2 : setD (.ref k) (.int j) c S = (Sim.ixN l.length j).map fun j => (.val (), S.set k (.lst (l.set j c))) := by
          show (match S[k]? with | some (.lst l) => _ | some (.dct kvs lock) => _ | _ => none) = _
          simp only [e]
        cases e3 : Sim.ixN l.length j with
        | none => exact (h.no (by rw [e2, e3]; rfl)).elim
        | some n =>
          refine set_list pins s σ H _ _ v ov iv u Q I ro ri rv ⟨p, xs, j, n, rfl, rfl, h1, by rw [← ixN_eq, ← hr.length]; exact e3, ?_⟩
          obtain ⟨x, S', e4, hq⟩ := h
          rw [e2, e3] at e4
          cases e4
          have st : Step μ H μ (upd H p (.lst (xs.set n v))) := Step.put (List.mem_of_getElem? hm) h1 trivial (fun _ z => by cases z)
          obtain ⟨st, R'⟩ := R.put (mo := .lst (l.set n c)) hm h1 trivial (.lst upd_same ((Reps.set rc n hr).step st))
          exact hq μ _ () st R' trivial
      | _ => exact (h.no (by show (match S[k]? with | some (.lst l) => _ | some (.dct kvs lock) => _ | _ => none) = _; simp only [e])).elim
    | gone => exact (h.no (by show (match S[k]? with | some (.lst l) => _ | some (.dct kvs lock) => _ | _ => none) = _; simp only [e])).elim
    | dct kvs lock =>
      have e2 : setD (.ref k) b c S = if !lock && keyFits b kvs && decide (kvs.length < 1000000) then some (.val (), S.set k (.dct (dPut b c kvs) lock)) else none := by
        show (match S[k]? with | some (.lst l) => _ | some (.dct kvs lock) => _ | _ => none) = _
        simp only [e]
      by_cases hf : (!lock && keyFits b kvs && decide (kvs.length < 1000000)) = true
      · rw [if_pos hf] at e2
        rw [Bool.and_eq_true, Bool.and_eq_true, decide_eq_true_eq] at hf
        obtain ⟨⟨hlock, hk⟩, hl⟩ := hf
        obtain ⟨x, S', e4, hq⟩ := h
        rw [e2] at e4
        cases e4
        cases (show ov = Value.ref p from ro)
        unfold keyFits at hk
        rw [Bool.or_eq_true, Bool.and_eq_true, Bool.and_eq_true] at hk
        cases ho with
        | dK h1 h2 =>
          rename_i kvs'
          rcases hk with ⟨hk, _⟩ | ⟨hk, ha⟩
          · obtain ⟨q, hq2⟩ := keyD_of hk
            have ek := keyD_V rb hq2
            have st : Step μ H μ (upd H p (.dK (putK kvs' q v))) := Step.put (List.mem_of_getElem? hm) h1 trivial (fun _ z => by cases z)
            obtain ⟨st, R'⟩ := R.put (mo := .dct (dPut b c kvs) false) hm h1 trivial (.dK upd_same ((dPut_K hq2 rc h2 (nodup_dK I h1)).step st))
            exact dE_setItem hu I (.inl (.inl ⟨kvs', q, h1, ek, by rw [sizeLine_eq, ← h2.length]; omega, rfl⟩)) ri rv fun s' I' => ⟨_, I', hq μ _ () st R' trivial⟩
          · cases h2 with
            | nil =>
              obtain ⟨l, q, rfl, hq1, hq2⟩ := keyTD_of hk
              cases rb with
              | tup ht hr =>
                have := keysD_V hr hq2
                subst this
                have st : Step μ H μ (upd H p (.dT [(q, v)])) := Step.put (List.mem_of_getElem? hm) h1 trivial (fun _ z => by cases z)
                obtain ⟨st, R'⟩ := R.put (mo := .dct [(.tup l, c)] false) hm h1 trivial (.dT (fun z => by cases z) upd_same (.cons hq1 (rc.step st) .nil))
                exact dE_setItem hu I (.inr ⟨h1, _, q, rfl, ht, rfl⟩) ri rv fun s' I' => ⟨_, I', hq μ _ () st R' trivial⟩
            | @cons d x k v ds kvs hd _ _ =>
              exfalso
              rw [List.all_cons, Bool.and_eq_true] at ha
              have := ha.1
              cases d <;> first | (cases hd; done) | (cases this; done)
        | dT hn h1 h2 =>
          rename_i kvs'
          rcases hk with ⟨hk, ha⟩ | ⟨hk, _⟩
          · cases h2 with
            | nil => exact (hn rfl).elim
            | @cons d x k v ds kvs hd _ _ =>
              exfalso
              rw [List.all_cons, Bool.and_eq_true] at ha
              have := ha.1
              cases d <;> first | (cases hd; done) | (cases this; done)
          · obtain ⟨l, q, rfl, hq1, hq2⟩ := keyTD_of hk
            cases rb with
            | tup ht hr =>
              have := keysD_V hr hq2
              subst this
              have st : Step μ H μ (upd H p (.dT (putK kvs' q v))) := Step.put (List.mem_of_getElem? hm) h1 trivial (fun _ z => by cases z)
              obtain ⟨st, R'⟩ := R.put (mo := .dct (dPut (.tup l) c kvs) false) hm h1 trivial (.dT (dPut_ne _ _ _) upd_same ((dPut_T hq1 rc h2 (nodup_dT I h1)).step st))
              exact dE_setItem hu I (.inl (.inr ⟨kvs', q, _, h1, rfl, ht, by rw [sizeLine_eq, ← h2.length]; omega, rfl⟩)) ri rv fun s' I' => ⟨_, I', hq μ _ () st R' trivial⟩
      · rw [if_neg hf] at e2
        exact (h.no e2).elim
  | _ => exact (h.no rfl).elim
/-! ### slices -/
def rSl (K : PySem.W.Frag) (G : Wd) (CL : CLT) : V → Option Int → Option Int → Hp → VK → Prop := fun x lo hi H Q => ∃ μ S a, RelG K G CL μ S H ∧ Rep K CL μ H a x ∧ LV K G CL (rrD K CL) μ S (slD a lo hi) H Q
theorem cut_whole {l : List D} {lo hi : Option Int} (h : HT.sIx l.length 0 lo = 0 ∧ HT.sIx l.length l.length hi = l.length) : Sim.cut l lo hi = l := by
  unfold Sim.cut
  rw [sIx_eq, sIx_eq, h.1, h.2]
  simp
theorem slr_D : SlR X (rSl X.K G CL) := by
  intro pins s σ H x v vl vu lo hi sl Q I rx hs pl pu h
  obtain ⟨μ, S, a, R, ra, h⟩ := h
  have lst : ∀ {l : List D}, lstAt S a = some l → slD a lo hi S = alloc (.lst (Sim.cut l lo hi)) S → ∃ T id, typeLookup (.type T) "__getitem__" = pure (some (.builtin id)) ∧ s.TypeIs v T ∧ wpAny (model X.prog X.w) X.A (getItem v (.ref sl)) (EP X pins σ Q) X.xe s := fun {l} h1 h2 => by
    obtain ⟨p, xs, rfl, hq, hr⟩ := R.lstAt ra h1
    exact sl_list pins s σ H _ v vl vu lo hi sl Q I rx hs pl pu ⟨p, xs, rfl, hq, fun b n => h.lst h2 R (hr.cut lo hi) n⟩
  cases ra with
  | @tup l p xs ht hr =>
    have e : slD (.tup l) lo hi S = some (.val (.tup (Sim.cut l lo hi)), S) := rfl
    refine sl_tupA pins s σ H _ v vl vu lo hi sl Q I rx hs pl pu ⟨p, xs, rfl, SqT.of ht, fun hw => ?_, fun hw b n => h.tup e R (hr.cut lo hi) n⟩
    rw [← hr.length] at hw
    exact h.here (by rw [e, cut_whole hw]) R (.tup ht hr)
  | @klst l p xs ht hr => exact lst rfl rfl
  | @ref k p hm =>
    cases e : lstAt S (.ref k) with
    | none => exact (h.no (by show (match lstAt S (.ref k) with | some l => _ | none => none) = _; simp only [e])).elim
    | some l => exact lst e (by show (match lstAt S (.ref k) with | some l => _ | none => none) = _; simp only [e])
  | _ => exact (h.no rfl).elim
/-! ### builtin functions -/
def rBi (K : PySem.W.Frag) (G : Wd) (CL : CLT) (f : Bi) : List V → Hp → VK → Prop := fun xs H Q => ∃ μ S ds, RelG K G CL μ S H ∧ Reps K CL μ H ds xs ∧ LV K G CL (rrD K CL) μ S (biD f ds) H Q
theorem Reps.one {K : PySem.W.Frag} {μ : List Addr} {H : Hp} {d : D} {xs : List V} (r : Reps K CL μ H [d] xs) : ∃ x, xs = [x] ∧ Rep K CL μ H d x := by
  cases r with
  | cons r rs => cases rs; exact ⟨_, rfl, r⟩
theorem Reps.two {K : PySem.W.Frag} {μ : List Addr} {H : Hp} {d e : D} {xs : List V} (r : Reps K CL μ H [d, e] xs) : ∃ x y, xs = [x, y] ∧ Rep K CL μ H d x ∧ Rep K CL μ H e y := by
  cases r with
  | cons r rs => obtain ⟨y, rfl, r2⟩ := rs.one; exact ⟨_, _, rfl, r, r2⟩
theorem cr_len : CallR X (.builtin "len") (rBi X.K G CL .len) := by
  intro pins s σ H xs us Q I r h
  obtain ⟨μ, S, ds, R, rs, h⟩ := h
  match ds, rs with
  | [], _ => exact (h.no rfl).elim
  | _ :: _ :: _, _ => exact (h.no rfl).elim
  | [d], rs =>
    obtain ⟨x, rfl, rx⟩ := rs.one
    cases rx with
    | @tup l p ys ht hr => exact call_len pins s σ H _ us Q I r ⟨_, ys.length, rfl, .inr ⟨ys, SqT.of ht, rfl⟩, by rw [← hr.length]; exact h.here rfl R (.int _)⟩
    | @klst l p ys ht hr => exact call_len pins s σ H _ us Q I r ⟨_, ys.length, rfl, .inl ⟨ys, ht.sqL, rfl⟩, by rw [← hr.length]; exact h.here rfl R (.int _)⟩
    | str z =>
      by_cases hz : z.length ≤ LIM
      · exact call_len pins s σ H _ us Q I r ⟨_, z.length, rfl, ⟨by rw [← lim_eq]; exact hz, rfl⟩, h.here (by show (if _ then _ else _) = _; rw [if_pos hz]; rfl) R (.int _)⟩
      · exact (h.no (by show (if _ then _ else _) = _; rw [if_neg hz])).elim
    | @ref k p hm =>
      obtain ⟨mo, e, ho⟩ := R.at hm
      cases ho with
      | @lst l ys h1 hr => exact call_len pins s σ H _ us Q I r ⟨_, ys.length, rfl, .inl ⟨ys, SqL.of h1, rfl⟩, by rw [← hr.length]; exact h.here (by show (match S[k]? with | some (.lst l) => _ | some (.dct kvs _) => _ | _ => none) = _; simp only [e]; rfl) R (.int _)⟩
      | gone _ _ _ => exact (h.no (by show (match S[k]? with | some (.lst l) => _ | some (.dct kvs _) => _ | _ => none) = _; simp only [e])).elim
      | @dK ds kvs h1 h2 =>
        have e2 : biD .len [.ref k] S = if ds.all fun p => keyOk p.1 then Sim.ok (.int ds.length) S else none := by
          show (match S[k]? with | some (.lst l) => _ | some (.dct kvs _) => _ | _ => none) = _
          simp only [e]
        by_cases hk : (ds.all fun p => keyOk p.1) = true
        · rw [if_pos hk] at e2
          exact call_lenD pins s σ H _ us Q I r ⟨_, kvs, rfl, h1, by rw [← h2.length]; exact h.here e2 R (.int _)⟩
        · rw [if_neg hk] at e2
          exact (h.no e2).elim
      | @dT ds kvs hn h1 h2 =>
        refine (h.no ?_).elim
        show (match S[k]? with | some (.lst l) => _ | some (.dct kvs _) => _ | _ => none) = _
        simp only [e]
        rw [if_neg]
        intro hk
        cases h2 with
        | nil => exact hn rfl
        | @cons d x k v ds kvs hd _ _ =>
          rw [List.all_cons, Bool.and_eq_true] at hk
          have := hk.1
          cases d <;> first | (cases hd; done) | (cases this; done)
    | _ => exact (h.no rfl).elim
theorem cr_int : CallR X (.type "int") (rBi X.K G CL .int) := by
  intro pins s σ H xs us Q I r h
  obtain ⟨μ, S, ds, R, rs, h⟩ := h
  match ds, rs with
  | [], _ => exact (h.no rfl).elim
  | _ :: _ :: _, _ => exact (h.no rfl).elim
  | [d], rs =>
    obtain ⟨x, rfl, rx⟩ := rs.one
    cases rx with
    | int i => exact call_int1 pins s σ H _ us Q I r (.inl ⟨i, rfl, h.here rfl R (.int _)⟩)
    | bl b => exact call_int1 pins s σ H _ us Q I r (.inr ⟨b, rfl, h.here rfl R (.int _)⟩)
    | _ => exact (h.no rfl).elim
theorem cr_abs : CallR X (.builtin "abs") (rBi X.K G CL .abs) := by
  intro pins s σ H xs us Q I r h
  obtain ⟨μ, S, ds, R, rs, h⟩ := h
  match ds, rs with
  | [], _ => exact (h.no rfl).elim
  | _ :: _ :: _, _ => exact (h.no rfl).elim
  | [d], rs =>
    obtain ⟨x, rfl, rx⟩ := rs.one
    cases rx with
    | int i => exact call_abs pins s σ H _ us Q I r ⟨i, rfl, h.here rfl R (.int _)⟩
    | _ => exact (h.no rfl).elim
theorem cr_max2 (hc : X.calm = true) : CallR X (.builtin "max") (rBi X.K G CL .max2) := by
  intro pins s σ H xs us Q I r h
  obtain ⟨μ, S, ds, R, rs, h⟩ := h
  match ds, rs with
  | [], _ => exact (h.no rfl).elim
  | [_], _ => exact (h.no rfl).elim
  | _ :: _ :: _ :: _, _ => exact (h.no rfl).elim
  | [d, e], rs =>
    obtain ⟨x, y, rfl, rx, ry⟩ := rs.two
    cases rx with
    | int i =>
      cases ry with
      | int j => exact call_max2 hc pins s σ H _ us Q I r ⟨i, j, rfl, h.here rfl R (.int _)⟩
      | _ => exact (h.no rfl).elim
    | _ => exact (h.no (by cases ry <;> rfl)).elim
theorem cr_min2 (hc : X.calm = true) : CallR X (.builtin "min") (rBi X.K G CL .min2) := by
  intro pins s σ H xs us Q I r h
  obtain ⟨μ, S, ds, R, rs, h⟩ := h
  match ds, rs with
  | [], _ => exact (h.no rfl).elim
  | [_], _ => exact (h.no rfl).elim
  | _ :: _ :: _ :: _, _ => exact (h.no rfl).elim
  | [d, e], rs =>
    obtain ⟨x, y, rfl, rx, ry⟩ := rs.two
    cases rx with
    | int i =>
      cases ry with
      | int j => exact call_min2 hc pins s σ H _ us Q I r ⟨i, j, rfl, h.here rfl R (.int _)⟩
      | _ => exact (h.no rfl).elim
    | _ => exact (h.no (by cases ry <;> rfl)).elim
theorem cr_tuple : CallR X (.type "tuple") (rBi X.K G CL .tuple) := by
  intro pins s σ H xs us Q I r h
  obtain ⟨μ, S, ds, R, rs, h⟩ := h
  match ds, rs with
  | [], _ => exact (h.no rfl).elim
  | _ :: _ :: _, _ => exact (h.no rfl).elim
  | [d], rs =>
    obtain ⟨x, rfl, rx⟩ := rs.one
    have lst : ∀ {l : List D}, lstAt S d = some l → biD .tuple [d] S = some (.val (.tup l), S) → wpAny (model X.prog X.w) X.A (call (.type "tuple") us) (EP X pins σ Q) X.xe s := fun {l} h1 h2 => by
      obtain ⟨p, ys, rfl, hq, hr⟩ := R.lstAt rx h1
      exact call_tuple_of pins s σ H _ us Q I r ⟨p, ys, rfl, .inl ⟨hq, fun b n => h.tup h2 R hr n⟩⟩
    cases rx with
    | @tup l p ys ht hr => exact call_tuple_of pins s σ H _ us Q I r ⟨_, ys, rfl, .inr ⟨SqT.of ht, h.here rfl R (.tup ht hr)⟩⟩
    | klst _ _ => exact lst rfl rfl
    | @ref k p hm =>
      cases e : lstAt S (.ref k) with
      | none => exact (h.no (by show (match lstAt S (.ref k) with | some l => _ | none => none) = _; simp only [e])).elim
      | some l => exact lst e (by show (match lstAt S (.ref k) with | some l => _ | none => none) = _; simp only [e]; rfl)
    | _ => exact (h.no rfl).elim
theorem cr_list : CallR X (.type "list") (rBi X.K G CL .list) := by
  intro pins s σ H xs us Q I r h
  obtain ⟨μ, S, ds, R, rs, h⟩ := h
  match ds, rs with
  | [], _ => exact (h.no rfl).elim
  | _ :: _ :: _, _ => exact (h.no rfl).elim
  | [d], rs =>
    obtain ⟨x, rfl, rx⟩ := rs.one
    have lst : ∀ {l : List D}, lstAt S d = some l → biD .list [d] S = alloc (.lst l) S → wpAny (model X.prog X.w) X.A (call (.type "list") us) (EP X pins σ Q) X.xe s := fun {l} h1 h2 => by
      obtain ⟨p, ys, rfl, hq, hr⟩ := R.lstAt rx h1
      exact call_list_of pins s σ H _ us Q I r ⟨p, ys, rfl, .inl hq, fun b n => h.lst h2 R hr n⟩
    cases rx with
    | @tup l p ys ht hr => exact call_list_of pins s σ H _ us Q I r ⟨_, ys, rfl, .inr (SqT.of ht), fun b n => h.lst (l := l) rfl R hr n⟩
    | klst _ _ => exact lst rfl rfl
    | @ref k p hm =>
      cases e : lstAt S (.ref k) with
      | none => exact (h.no (by show (match lstAt S (.ref k) with | some l => _ | none => none) = _; simp only [e])).elim
      | some l => exact lst e (by show (match lstAt S (.ref k) with | some l => _ | none => none) = _; simp only [e])
    | _ => exact (h.no rfl).elim
theorem sumL_of {K : PySem.W.Frag} {μ : List Addr} {H : Hp} : ∀ {l : List D} {ys : List V} {n : Int}, Reps K CL μ H l ys → sumL l = some n → ∃ ns : List Int, ys = ns.map V.int ∧ ns.sum = n
  | _, _, _, .nil, h => by cases h; exact ⟨[], rfl, rfl⟩
  | _, _, n, .cons r rs, h => by
    cases r with
    | int i =>
      rename_i ds vs
      have h : (sumL ds).map (i + ·) = some n := h
      cases e : sumL ds with
      | none => rw [e] at h; cases h
      | some m =>
        rw [e] at h
        cases h
        obtain ⟨ns, rfl, rfl⟩ := sumL_of rs e
        exact ⟨i :: ns, rfl, rfl⟩
    | _ => cases h
theorem cr_sumD (hc : X.calm = true) : CallR X (.builtin "sum") (rBi X.K G CL .sum) := by
  intro pins s σ H xs us Q I r h
  obtain ⟨μ, S, ds, R, rs, h⟩ := h
  match ds, rs with
  | [], _ => exact (h.no rfl).elim
  | _ :: _ :: _, _ => exact (h.no rfl).elim
  | [d], rs =>
    obtain ⟨x, rfl, rx⟩ := rs.one
    cases e : lstAt S d with
    | none => exact (h.no (by show (match lstAt S d with | some l => _ | none => none) = _; simp only [e])).elim
    | some l =>
      obtain ⟨p, ys, rfl, hq, hr⟩ := R.lstAt rx e
      obtain ⟨n, e1, hq2⟩ := h.opt (f := fun n => D.int n) (by show (match lstAt S d with | some l => _ | none => none) = _; simp only [e]; rfl) R
      obtain ⟨ns, rfl, rfl⟩ := sumL_of hr e1
      exact cr_sum hc pins s σ H _ us Q I r ⟨p, ns, rfl, hq, hq2 _ (.int _)⟩
end
end Sim
set_option Elab.async false
set_option linter.all false
set_option autoImplicit false
set_option maxRecDepth 100000
/-! Sim1f: methods, isinstance, by values. -/
namespace Sim
open PySem PySem.Spec PyProof.Rows L2
section
variable {X : Cx} {G : Wd} {CL : CLT}
def rMe (K : PySem.W.Frag) (G : Wd) (CL : CLT) (m : Me) : V → List V → Hp → VK → Prop := fun x xs H Q => ∃ μ S d ds, RelG K G CL μ S H ∧ Rep K CL μ H d x ∧ Reps K CL μ H ds xs ∧ LV K G CL (rrD K CL) μ S (methD m d ds) H Q
/-- a handle's object is changed, None comes -/
theorem LV.put {K : PySem.W.Frag} {μ : List Addr} {S : Store} {H : Hp} {Q : VK} {m : M D} {r : Nat} {a : Addr} {l : List D} {xs : List V} (h : LV K G CL (rrD K CL) μ S m H Q) (e : m S = some (.val .non, S.set r (.lst l))) (R : RelG K G CL μ S H) (hm : μ[r]? = some a) (n : ∃ ys, H a = some (.lst ys)) (rl : Reps K CL μ H l xs) :
    Q .non (upd H a (.lst xs)) := by
  obtain ⟨b, S', e', h⟩ := h
  rw [e] at e'
  cases e'
  obtain ⟨ys, n⟩ := n
  have st : Step μ H μ (upd H a (.lst xs)) := Step.put (List.mem_of_getElem? hm) n trivial (fun _ z => by cases z)
  obtain ⟨st, R'⟩ := R.put (mo := .lst l) hm n trivial (.lst upd_same (rl.step st))
  exact h μ _ _ st R' .non
theorem mt_append' : MtR X "list.append" (rMe X.K G CL .append) := by
  intro pins s σ H x xs v us Q I rx rs h
  obtain ⟨μ, S, d, ds, R, rd, rds, h⟩ := h
  match ds, rds with
  | [], _ => exact (h.no (by cases d <;> rfl)).elim
  | _ :: _ :: _, _ => exact (h.no (by cases d <;> rfl)).elim
  | [e], rds =>
    obtain ⟨y, rfl, ry⟩ := rds.one
    cases rd with
    | @ref k p hm =>
      obtain ⟨mo, em, ho⟩ := R.at hm
      cases mo with
      | dct kvs lock | gone => exact (h.no (by show (match S[k]? with | some (.lst l) => _ | _ => none) = _; simp only [em])).elim
      | lst l =>
        obtain ⟨zs, h1, hr⟩ := R.own hm em
        have e2 : methD .append (.ref k) [e] S = if l.length < LIM then some (.val .non, S.set k (.lst (l ++ [e]))) else none := by
          show (match S[k]? with | some (.lst l) => _ | _ => none) = _
          simp only [em]
        by_cases hz : l.length < LIM
        · rw [if_pos hz] at e2
          exact mt_append pins s σ H _ _ v us Q I rx rs ⟨p, zs, y, rfl, rfl, h1, by rw [← hr.length, ← lim_eq]; exact hz, h.put e2 R hm ⟨_, h1⟩ (hr.append (.cons ry .nil))⟩
        · rw [if_neg hz] at e2
          exact (h.no e2).elim
    | _ => exact (h.no rfl).elim
theorem mt_extend' : MtR X "list.extend" (rMe X.K G CL .extend) := by
  intro pins s σ H x xs v us Q I rx rs h
  obtain ⟨μ, S, d, ds, R, rd, rds, h⟩ := h
  match ds, rds with
  | [], _ => exact (h.no (by cases d <;> rfl)).elim
  | _ :: _ :: _, _ => exact (h.no (by cases d <;> rfl)).elim
  | [e], rds =>
    obtain ⟨y, rfl, ry⟩ := rds.one
    cases rd with
    | @ref k p hm =>
      obtain ⟨mo, em, ho⟩ := R.at hm
      cases mo with
      | dct kvs lock | gone => exact (h.no (by show (match S[k]?, e with | some (.lst l), .ref q => _ | _, _ => none) = _; simp only [em])).elim
      | lst l =>
        obtain ⟨zs, h1, hr⟩ := R.own hm em
        cases ry with
        | @ref j q hq =>
          obtain ⟨mo2, em2, ho2⟩ := R.at hq
          cases mo2 with
          | dct kvs lock | gone => exact (h.no (by show (match S[k]?, D.ref j with | some (.lst l), .ref q => _ | _, _ => none) = _; simp only [em, em2])).elim
          | lst m =>
            obtain ⟨ws, h2, hr2⟩ := R.own hq em2
            have e2 : methD .extend (.ref k) [.ref j] S = if l.length + m.length ≤ LIM then some (.val .non, S.set k (.lst (l ++ m))) else none := by
              show (match S[k]?, D.ref j with | some (.lst l), .ref q => _ | _, _ => none) = _
              simp only [em, em2]
            by_cases hz : l.length + m.length ≤ LIM
            · rw [if_pos hz] at e2
              exact mt_extend pins s σ H _ _ v us Q I rx rs ⟨p, q, zs, ws, rfl, rfl, h1, h2, by rw [← hr.length, ← hr2.length, ← lim_eq]; exact hz, h.put e2 R hm ⟨_, h1⟩ (hr.append hr2)⟩
            · rw [if_neg hz] at e2
              exact (h.no e2).elim
        | _ => exact (h.no (by unfold methD; simp only [em])).elim
    | _ => exact (h.no rfl).elim
theorem mt_insert' : MtR X "list.insert" (rMe X.K G CL .insert) := by
  intro pins s σ H x xs v us Q I rx rs h
  obtain ⟨μ, S, d, ds, R, rd, rds, h⟩ := h
  match ds, rds with
  | [], _ => exact (h.no (by cases d <;> rfl)).elim
  | [_], _ => exact (h.no (by cases d <;> rfl)).elim
  | _ :: _ :: _ :: _, _ => exact (h.no (by cases d <;> rfl)).elim
  | [e, f], rds =>
    obtain ⟨y, z, rfl, ry, rz⟩ := rds.two
    cases rd with
    | @ref k p hm =>
      obtain ⟨mo, em, ho⟩ := R.at hm
      cases mo with
      | dct kvs lock | gone => exact (h.no (by unfold methD; simp only [em])).elim
      | lst l =>
        obtain ⟨zs, h1, hr⟩ := R.own hm em
        cases ry with
        | int i =>
          have e2 : methD .insert (.ref k) [.int i, f] S = if 0 ≤ i ∧ i ≤ l.length ∧ l.length < LIM then some (.val .non, S.set k (.lst (l.take i.toNat ++ f :: l.drop i.toNat))) else none := by
            unfold methD
            simp only [em]
          by_cases hz : 0 ≤ i ∧ i ≤ l.length ∧ l.length < LIM
          · rw [if_pos hz] at e2
            have q := h.put e2 R hm ⟨_, h1⟩ (Reps.insert rz i.toNat hr)
            refine mt_insert pins s σ H _ _ v us Q I rx rs ⟨p, zs, i, z, rfl, rfl, h1, by rw [← hr.length, ← lim_eq]; exact hz.2.2, hz.1, ?_, ?_⟩
            · have := hz.2.1
              have := hz.2.2
              unfold LIM at this
              omega
            · rw [List.append_assoc]
              exact q
          · rw [if_neg hz] at e2
            exact (h.no e2).elim
        | _ => exact (h.no (by unfold methD; simp only [em])).elim
    | _ => exact (h.no rfl).elim
theorem mt_get2' (hu : X.A.units + 1 < cLine) : MtR X "dict.get" (rMe X.K G CL .get2) := by
  intro pins s σ H x xs v us Q I rx rs h
  obtain ⟨μ, S, d, ds, R, rd, rds, h⟩ := h
  match ds, rds with
  | [], _ => exact (h.no (by cases d <;> rfl)).elim
  | [_], _ => exact (h.no (by cases d <;> rfl)).elim
  | _ :: _ :: _ :: _, _ => exact (h.no (by cases d <;> rfl)).elim
  | [e, f], rds =>
    obtain ⟨y, z, rfl, ry, rz⟩ := rds.two
    obtain ⟨u1, u2, rfl, r1, r2⟩ := rs.two
    cases rd with
    | @ref k p hm =>
      obtain ⟨mo, em, ho⟩ := R.at hm
      cases mo with
      | lst l => exact (h.no (by unfold methD; simp only [em])).elim
      | gone => exact (h.no (by unfold methD; simp only [em])).elim
      | dct kvs lock =>
        have e2 : methD .get2 (.ref k) [e, f] S = if keyFits e kvs then Sim.ok ((dLook e kvs).getD f) S else none := by
          unfold methD
          simp only [em]
        by_cases hf : keyFits e kvs = true
        · rw [if_pos hf] at e2
          cases rx
          obtain ⟨o, g, g1, g2⟩ := dget_of R hm em ry hf
          refine dE_get2 hu I g r1 r2 fun w' s' I' rw' => ⟨_, H, I', rw', ?_⟩
          cases ed : dLook e kvs with
          | none =>
            rw [g2 ed]
            exact h.here (a := f) (by rw [e2, ed]; rfl) R rz
          | some d =>
            obtain ⟨w, ew, rw2⟩ := g1 d ed
            rw [ew]
            exact h.here (a := d) (by rw [e2, ed]; rfl) R rw2
        · rw [if_neg hf] at e2
          exact (h.no e2).elim
    | _ => exact (h.no rfl).elim
theorem strs_V {K : PySem.W.Frag} {μ : List Addr} {H : Hp} : ∀ {l : List D} {xs : List V} {ys : List Str}, Reps K CL μ H l xs → strsL l = some ys → xs = ys.map V.str
  | [], _, _, .nil, h => by cases h; rfl
  | d :: l, _, ys, .cons r rs, h => by
    cases r with
    | str z =>
      have h : (strsL l).map (z :: ·) = some ys := h
      cases e : strsL l with
      | none => rw [e] at h; cases h
      | some zs =>
        rw [e] at h
        cases h
        rw [strs_V rs e]
        rfl
    | _ => cases h
theorem mt_join' : MtR X "str.join" (rMe X.K G CL .join) := by
  intro pins s σ H x xs v us Q I rx rs h
  obtain ⟨μ, S, d, ds, R, rd, rds, h⟩ := h
  match ds, rds with
  | [], _ => exact (h.no (by cases d <;> rfl)).elim
  | _ :: _ :: _, _ => exact (h.no (by cases d <;> rfl)).elim
  | [e], rds =>
    obtain ⟨y, rfl, ry⟩ := rds.one
    cases rd with
    | str a =>
      cases el : lstAt S e with
      | none => exact (h.no (by unfold methD; simp only [el])).elim
      | some l =>
        obtain ⟨p, zs, rfl, hq, hr⟩ := R.lstAt ry el
        cases es : strsL l with
        | none => exact (h.no (by unfold methD; simp only [el, es])).elim
        | some ys =>
          have e2 : methD .join (.str a) [e] S = if (ys.map (·.length)).sum + ys.length * a.length ≤ LIM then Sim.ok (.str (PySem.Str.join a ys)) S else none := by
            unfold methD
            simp only [el, es]
          by_cases hz : (ys.map (·.length)).sum + ys.length * a.length ≤ LIM
          · rw [if_pos hz] at e2
            have := strs_V hr es
            subst this
            refine mt_join pins s σ H _ _ v us Q I rx rs ⟨a, p, ys, rfl, rfl, .inl hq, hz, ?_⟩
            rw [TL.join_eq]
            exact h.here e2 R (.str _)
          · rw [if_neg hz] at e2
            exact (h.no e2).elim
    | _ => exact (h.no rfl).elim
/-! ### isinstance -/
def tyN : Ty → String
  | .int => "int" | .bool => "bool" | .str => "str" | .tuple => "tuple" | .list => "list"
def isiN (t : Ty) (T : String) : Bool := T == tyN t || (T == "bool" && t == .int)
theorem kitB_ty : ∀ (T : String) (t : Ty), T = "NoneType" ∨ T = "bool" ∨ T = "int" ∨ T = "str" ∨ T = "tuple" ∨ T = "list" → kitB T (tyN t) = some (isiN t T) := by
  intro T t h
  rcases h with rfl | rfl | rfl | rfl | rfl | rfl <;> cases t <;> decide +kernel
theorem isi_ty {K : PySem.W.Frag} {μ : List Addr} {S : Store} {H : Hp} {d : D} {x : V} {t : Ty} {b : Bool} (R : RelG K G CL μ S H) (r : Rep K CL μ H d x) (h : isiD t S d = some b) : ∃ T, TyX K H x (.type T) ∧ kitB T (tyN t) = some b := by
  have go : ∀ (T : String), (T = "NoneType" ∨ T = "bool" ∨ T = "int" ∨ T = "str" ∨ T = "tuple" ∨ T = "list") → TyX K H x (.type T) → isiN t T = b → ∃ T, TyX K H x (.type T) ∧ kitB T (tyN t) = some b := fun T h1 h2 h3 => ⟨T, h2, by rw [kitB_ty T t h1, h3]⟩
  cases r with
  | non => cases h; exact go "NoneType" (by simp) (.base .non) (by cases t <;> decide)
  | bl c => cases h; exact go "bool" (by simp) (.base (.bl c)) (by cases t <;> decide)
  | int i => cases h; exact go "int" (by simp) (.base (.int i)) (by cases t <;> decide)
  | str z => cases h; exact go "str" (by simp) (.base (.str z)) (by cases t <;> decide)
  | tup ht hr => cases h; exact go "tuple" (by simp) (.base (.tup ht)) (by cases t <;> decide)
  | klst hs hr =>
    cases h
    exact go "list" (by simp) (by
      rcases hs with ⟨o, ho⟩ | ⟨o, _, _, h1, h2, _⟩
      · exact .base (.frz ho)
      · exact .kList h1 h2) (by cases t <;> decide)
  | @ref k p hm =>
    obtain ⟨mo, em, ho⟩ := R.at hm
    cases mo with
    | lst l =>
      obtain ⟨zs, h1, hr⟩ := R.own hm em
      have e2 : isiD t S (.ref k) = some (t == .list) := by
        show (match S[k]? with | some (.lst _) => _ | _ => none) = _
        simp only [em]
      rw [e2] at h
      cases h
      exact go "list" (by simp) (.base (.lst h1)) (by cases t <;> decide)
    | gone =>
      have e2 : isiD t S (.ref k) = none := by
        show (match S[k]? with | some (.lst _) => _ | _ => none) = _
        simp only [em]
      rw [e2] at h
      cases h
    | dct kvs lock =>
      have e2 : isiD t S (.ref k) = none := by
        show (match S[k]? with | some (.lst _) => _ | _ => none) = _
        simp only [em]
      rw [e2] at h
      cases h
  | clo _ _ _ => cases h
end
end Sim
set_option Elab.async false
set_option linter.all false
set_option autoImplicit false
set_option maxRecDepth 100000
set_option maxHeartbeats 2000000
/-! Sim2a: sorted, of lists and dicts, of ints and of tuples of ints. -/
namespace Sim
open PySem PySem.Spec PyProof.Rows L2
/-! ### the order -/
theorem lexLt_irrefl : ∀ a : List Int, lexLt a a = false
  | [] => rfl
  | x :: r => by unfold lexLt; rw [if_pos rfl]; exact lexLt_irrefl r
theorem lexLt_asym : ∀ a b : List Int, lexLt a b = true → lexLt b a = false
  | [], [], h => rfl
  | [], _ :: _, _ => rfl
  | _ :: _, [], h => by cases h
  | x :: a, y :: b, h => by
    unfold lexLt at h ⊢
    by_cases e : x = y
    · rw [if_pos e] at h
      rw [if_pos e.symm]
      exact lexLt_asym a b h
    · rw [if_neg e] at h
      rw [if_neg (fun z => e z.symm)]
      have := of_decide_eq_true h
      exact decide_eq_false (by omega)
theorem lexLt_tr : ∀ x y z : List Int, lexLt y x = false → lexLt z y = false → lexLt z x = false
  | [], _, z, _, _ => by cases z <;> rfl
  | _ :: _, [], _, h, _ => by cases h
  | _ :: _, _ :: _, [], _, h => by cases h
  | x :: a, y :: b, z :: c, h1, h2 => by
    unfold lexLt at h1 h2 ⊢
    by_cases e1 : y = x
    · rw [if_pos e1] at h1
      by_cases e2 : z = y
      · rw [if_pos e2] at h2
        rw [if_pos (e2.trans e1)]
        exact lexLt_tr a b c h1 h2
      · rw [if_neg e2] at h2
        rw [if_neg (fun q => e2 (q.trans e1.symm))]
        have := of_decide_eq_false h2
        exact decide_eq_false (by omega)
    · rw [if_neg e1] at h1
      have h1 := of_decide_eq_false h1
      by_cases e2 : z = y
      · rw [if_neg (fun q => e1 (e2.symm.trans q))]
        exact decide_eq_false (by omega)
      · rw [if_neg e2] at h2
        have h2 := of_decide_eq_false h2
        rw [if_neg (by omega)]
        exact decide_eq_false (by omega)
theorem lexLt_eq : ∀ a b : List Int, lexLt a b = false → lexLt b a = false → a = b
  | [], [], _, _ => rfl
  | [], _ :: _, h, _ => by cases h
  | _ :: _, [], _, h => by cases h
  | x :: a, y :: b, h1, h2 => by
    unfold lexLt at h1 h2
    by_cases e : x = y
    · rw [if_pos e] at h1
      rw [if_pos e.symm] at h2
      rw [e, lexLt_eq a b h1 h2]
    · rw [if_neg e] at h1
      rw [if_neg (fun z => e z.symm)] at h2
      have h1 := of_decide_eq_false h1
      have h2 := of_decide_eq_false h2
      omega
theorem swo_key {α : Type} (k : α → List Int) : SrtO.Swo fun v u => lexLt (k v) (k u) := ⟨fun x y h => lexLt_asym _ _ h, fun x y z h1 h2 => lexLt_tr _ _ _ h1 h2⟩
/-- there is one sorted rearrangement -/
theorem sorted_one {α : Type} {lt : α → α → Bool} : ∀ {l m : List α}, (∀ x ∈ l, ∀ y ∈ l, lt x y = false → lt y x = false → x = y) → (∀ x ∈ l, lt x x = false) → l.Perm m → l.Pairwise (fun x y => lt y x = false) → m.Pairwise (fun x y => lt y x = false) → l = m
  | [], m, _, _, p, _, _ => (List.Perm.eq_nil p.symm).symm
  | x :: l, [], _, _, p, _, _ => absurd p.length_eq (by simp)
  | x :: l, y :: m, hq, hr, p, h1, h2 => by
    have hy : y ∈ x :: l := p.mem_iff.mpr List.mem_cons_self
    have hx : x ∈ y :: m := p.mem_iff.mp List.mem_cons_self
    have a1 : lt y x = false := by
      rcases List.mem_cons.mp hy with e | e
      · rw [e]
        exact hr x List.mem_cons_self
      · exact (List.pairwise_cons.mp h1).1 y e
    have a2 : lt x y = false := by
      rcases List.mem_cons.mp hx with e | e
      · rw [e]
        exact hr y hy
      · exact (List.pairwise_cons.mp h2).1 x e
    have e : x = y := hq x List.mem_cons_self y hy a2 a1
    subst e
    rw [sorted_one (fun u hu v hv => hq u (List.mem_cons_of_mem _ hu) v (List.mem_cons_of_mem _ hv)) (fun u hu => hr u (List.mem_cons_of_mem _ hu)) p.cons_inv (List.pairwise_cons.mp h1).2 (List.pairwise_cons.mp h2).2]
/-- what sortL gives -/
theorem insertL_perm (x : D) (lt : D → D → Bool) : ∀ l : List D, (insertL x lt l).Perm (x :: l)
  | [] => List.Perm.refl _
  | y :: r => by
    unfold insertL
    split
    · exact List.Perm.refl _
    · exact ((insertL_perm x lt r).cons y).trans (List.Perm.swap x y r)
theorem sortL_perm (lt : D → D → Bool) : ∀ l : List D, (sortL lt l).Perm l
  | [] => List.Perm.refl _
  | x :: r => (insertL_perm x lt _).trans ((sortL_perm lt r).cons x)
theorem insertL_sorted {lt : D → D → Bool} (O : SrtO.Swo lt) (x : D) : ∀ l : List D, l.Pairwise (fun a b => lt b a = false) → (insertL x lt l).Pairwise (fun a b => lt b a = false)
  | [], _ => List.pairwise_singleton _ _
  | y :: r, h => by
    obtain ⟨h1, h2⟩ := List.pairwise_cons.mp h
    unfold insertL
    by_cases e : lt x y = true
    · rw [if_pos e]
      refine List.pairwise_cons.mpr ⟨fun z hz => ?_, h⟩
      rcases List.mem_cons.mp hz with rfl | hz
      · exact O.asym _ _ e
      · exact O.tr _ _ _ (O.asym _ _ e) (h1 z hz)
    · rw [if_neg e]
      refine List.pairwise_cons.mpr ⟨fun z hz => ?_, insertL_sorted O x r h2⟩
      rcases List.mem_cons.mp ((insertL_perm x lt r).mem_iff.mp hz) with rfl | hz
      · exact Bool.eq_false_iff.mpr e
      · exact h1 z hz
theorem sortL_sorted {lt : D → D → Bool} (O : SrtO.Swo lt) : ∀ l : List D, (sortL lt l).Pairwise (fun a b => lt b a = false)
  | [] => List.Pairwise.nil
  | x :: r => insertL_sorted O x _ (sortL_sorted O r)
theorem insertL_congr {lt lt' : D → D → Bool} (x : D) : ∀ l : List D, (∀ y ∈ l, lt x y = lt' x y) → insertL x lt l = insertL x lt' l
  | [], _ => rfl
  | y :: r, h => by
    unfold insertL
    rw [h y List.mem_cons_self, insertL_congr x r fun z hz => h z (List.mem_cons_of_mem _ hz)]
theorem sortL_congr {lt lt' : D → D → Bool} : ∀ {l : List D}, (∀ x ∈ l, ∀ y ∈ l, lt x y = lt' x y) → sortL lt l = sortL lt' l
  | [], _ => rfl
  | x :: r, h => by
    have e : sortL lt r = sortL lt' r := sortL_congr fun u hu v hv => h u (List.mem_cons_of_mem _ hu) v (List.mem_cons_of_mem _ hv)
    show insertL x lt (sortL lt r) = insertL x lt' (sortL lt' r)
    rw [e, insertL_congr x _ fun y hy => h x List.mem_cons_self y (List.mem_cons_of_mem _ ((sortL_perm lt' r).mem_iff.mp hy))]
/-! ### tuples of ints in the model's sort -/
section
variable {prog : Program} {w : World} {A : Around} {E : Value → Shared → Prop} {s : Shared}
theorem lex_kat {b : Bool} {Q : Bool → Shared → Prop} : ∀ {xs ys : List Value} {ns ms : List Int} (i : Nat), IntsAre xs ns → IntsAre ys ms → ns.length = ms.length → Q (lexLt ns ms) s → PySem.W.KatLex prog w A b false Q (xs.zip ys) i s
  | _, _, _, _, i, .nil, .nil, _, h => PySem.W.kat_nil h
  | _, _, _, _, i, .nil, .cons _ _ _, hl, h => by simp at hl
  | _, _, _, _, i, .cons _ _ _, .nil, hl, h => by simp at hl
  | _, _, _, _, i, .cons p t hx, .cons q u hy, hl, h => by
    refine PySem.W.kat_cons (wpAny_eqBool_int ?_)
    unfold lexLt at h
    by_cases e : p = q
    · rw [if_pos e] at h
      rw [e, beq_self_eq_true]
      exact PySem.W.kat_yes (lex_kat (i + 1) hx hy (by simpa using hl) h)
    · rw [if_neg e] at h
      rw [show (p == q) = false from beq_eq_false_iff_ne.mpr e]
      exact PySem.W.kat_no (TS.oneLt_ints _ h)
theorem tups_sortable {a : Addr} {vs : List Value} {k : Value → List Int} {d : Nat} (hd : 1 ≤ d) (hk : ∀ v ∈ vs, TS.TupInts s.heap v (k v) ∧ (k v).length = d) (ha : ∀ o, s.heap.get? a = some o → o.cls ≠ .type "tuple") (h2 : 2 ≤ vs.length) : SrtO.SortableO prog w A s a vs fun v u => lexLt (k v) (k u) := by
  intro h' keep
  have hk' : ∀ v ∈ vs, TS.TupInts h' v (k v) := fun v hv => (hk v hv).1.keeps fun b o e c => keep b o (fun z => by subst z; exact ha o e c) e
  have firsts : ∀ l : List Value, (∀ v ∈ l, v ∈ vs) → ∃ fs, PySem.W.KatTups h' l fs ∧ fs.length = l.length ∧ ∀ f ∈ fs, ∃ n t, f = Value.int n t := by
    intro l
    induction l with
    | nil => exact fun _ => ⟨[], PySem.W.KatTups.nil, rfl, fun f hf => by simp at hf⟩
    | cons v l ih =>
      intro hl
      obtain ⟨fs, f1, f2, f3⟩ := ih fun u hu => hl u (List.mem_cons_of_mem _ hu)
      have hv := hl v List.mem_cons_self
      have hlen := (hk v hv).2
      obtain ⟨b, xs, rfl, ⟨o, ho, hc, n, hdt⟩, ia⟩ := hk' v hv
      have l1 := ia.length
      rw [hlen] at l1
      cases q : xs.toList with
      | nil => rw [q] at l1; simp at l1; omega
      | cons y ys =>
        obtain ⟨m, t, hy⟩ := ia.all y (by rw [q]; exact List.mem_cons_self)
        refine ⟨y :: fs, PySem.W.KatTups.cons ho hc hdt ?_ f1, by simp [f2], fun f hf => ?_⟩
        · have z := congrArg (fun l : List Value => l[0]?) q
          simpa using z
        · rcases List.mem_cons.mp hf with rfl | hf
          · exact ⟨m, t, hy⟩
          · exact f3 f hf
  obtain ⟨fs, f1, f2, f3⟩ := firsts vs fun v hv => hv
  refine ⟨_, fun Q E hq => PySem.W.kat_kind (T := Value.type "int") f1 (by omega) (fun f hf => ?_) rfl hq, fun p q hp hq => ?_⟩
  · obtain ⟨n, t, rfl⟩ := f3 f hf
    exact PySem.W.Looks.of_pure rfl
  · have tp := hk' _ hp
    have tq := hk' _ hq
    have lp := (hk _ hp).2
    have lq := (hk _ hq).2
    show wpAny _ _ _ (fun r s' => s' = { s with heap := h' } ∧ r = lexLt (k p.1) (k q.1)) _ _
    generalize k p.1 = ns at tp lp ⊢
    generalize k q.1 = ms at tq lq ⊢
    obtain ⟨b, xs, e1, ⟨o, ho, hc, n, hdt⟩, ip⟩ := tp
    obtain ⟨b', ys, e2, ⟨o', ho', hc', n', hdt'⟩, iq⟩ := tq
    rw [e1, e2]
    refine PySem.W.kat_lt ho hdt ho' hdt' ?_
    have sz : decide (xs.size < ys.size) = false := by
      have l1 := ip.length
      have l2 := iq.length
      rw [Array.length_toList] at l1 l2
      exact decide_eq_false (by omega)
    rw [sz]
    exact lex_kat 0 ip iq (by omega) ⟨rfl, rfl⟩
/-! ### a dict's keys collected, sorted -/
theorem collect_src {T : String} {r d : Addr} {n : Nat} {P : Nat → Value → Prop} {OK : Heap → Prop} {R : List Value → Shared → Prop} (Kd : PySem.W.KdlSrc prog w T r d n P OK) (hh : A.handled = none) (hok : OK s.heap) (hn : n ≤ sizeLine)
    (h : ∀ (h' : Heap) (tk : Nat) (acc : Array Value), (∀ b o, s.heap.get? b = some o → h'.get? b = some o) → s.heap.objs.size < h'.objs.size → ItemsOf P acc n → R acc.toList { s with heap := h', toks := tk }) : wpAny (model prog w) A (collect (.ref r)) R E s := by
  have hlt := Kd.there _ hok
  unfold collect
  refine wpAny_bind (wpAny_runValue (codeAny_builtin PyProof.Rows.entry_proto_collect' ?_))
  rw [Around.under_plainId PySem.F.plain_proto_collect _]
  refine wpAny_bind (wpAny_newObj_type ?_)
  refine wpAny_pure ⟨plainId_quiet PySem.F.plain_list_iadd _, codeAny_builtin PyProof.Rows.entry_list_iadd' ?_⟩
  rw [Around.under_plainId PySem.F.plain_list_iadd _]
  have hS₁ : (s.heap.push { cls := .type "list", data := .seq ([] : List Value).toArray }).get? s.heap.objs.size = some { cls := .type "list", data := .seq #[] } := Heap.get?_push_size _ rfl
  have key := PySem.W.kdl_extend (s := { s with heap := s.heap.push { cls := .type "list", data := .seq ([] : List Value).toArray } }) (A := A)
    (R := fun (q : Result) (s' : Shared) => ∃ (h' : Heap) (tk : Nat) (acc : Array Value) (c' : Nat), q = .ok (.ret (.ref s.heap.objs.size)) ∧ s' = { s with heap := h', toks := tk } ∧
      (∀ b o, s.heap.get? b = some o → h'.get? b = some o) ∧ h'.get? s.heap.objs.size = some { cls := .type "list", dict := none, data := .seq acc c', slots := #[] } ∧ ItemsOf P acc n)
    Kd hh (Kd.keep _ _ hok fun b _ o e => Heap.get?_push_of_some _ e) s.heap.objs.size (Nat.ne_of_gt hlt.1) (Nat.ne_of_gt hlt.2) (.ref s.heap.objs.size) 0 hS₁
    (fun h' tk acc c' hk hS' hacc => ⟨h', tk, acc, c', rfl, rfl, fun b o e => hk b o (Nat.ne_of_lt (Heap.lt_size e)) (Heap.get?_push_of_some _ e), hS', hacc⟩) hn
  have fin : ∀ {q : Result} {s' : Shared}, (∃ (h' : Heap) (tk : Nat) (acc : Array Value) (c' : Nat), q = .ok (.ret (.ref s.heap.objs.size)) ∧ s' = { s with heap := h', toks := tk } ∧
      (∀ b o, s.heap.get? b = some o → h'.get? b = some o) ∧ h'.get? s.heap.objs.size = some { cls := .type "list", dict := none, data := .seq acc c', slots := #[] } ∧ ItemsOf P acc n) → ∃ h' tk acc c', q = .ok (.ret (.ref s.heap.objs.size)) ∧ s' = { s with heap := h', toks := tk } ∧ h'.get? s.heap.objs.size = some { cls := .type "list", dict := none, data := .seq acc c', slots := #[] } ∧ R acc.toList { s with heap := h', toks := tk } :=
    fun {q s'} ⟨h', tk, acc, c', e1, e2, hk, hS', hacc⟩ => ⟨h', tk, acc, c', e1, e2, hS', h h' tk acc hk (Heap.lt_size hS') hacc⟩
  refine wpAny_mono key (fun f s' x => ?_) fun e s' x => ?_
  · cases f with
    | done f =>
      obtain ⟨h', tk, acc, c', e, rfl, hS', hr⟩ := fin x
      cases e
      exact wpAny_bind (wpAny_load hS' (wpAny_pure hr))
    | again c₁ =>
      refine ⟨x.1, codeAny_mono x.2 fun q s₂ y => ?_⟩
      obtain ⟨h', tk, acc, c', rfl, rfl, hS', hr⟩ := fin y
      exact wpAny_bind (wpAny_load hS' (wpAny_pure hr))
  · obtain ⟨_, _, _, _, e', _⟩ := x
    cases e'
/-- sorted of what collects to vs -/
theorem sorted_of {r : Addr} {vs : List Value} {ltv : Value → Value → Bool} {Q : Value → Shared → Prop} (O : SrtO.Swo ltv) (hz : vs.length ≤ sizeLine)
    (hc : ∀ R : List Value → Shared → Prop, (∀ (h' : Heap) (tk : Nat), (∀ b o, s.heap.get? b = some o → h'.get? b = some o) → s.heap.objs.size ≤ h'.objs.size → R vs { s with heap := h', toks := tk }) → wpAny (model prog w) A.in1 (collect (.ref r)) R E s)
    (hS : 2 ≤ vs.length → ∀ (h₁ : Heap) (tk : Nat) (a : Addr), h₁.get? a = some (seqObj "list" vs.toArray 0) → (∀ b o, s.heap.get? b = some o → h₁.get? b = some o) → SrtO.SortableO prog w A.in1.in1 { s with heap := h₁, toks := tk } a vs ltv)
    (h : ∀ (out : List Value) (h' : Heap) (tk : Nat) (l : Addr), out.Perm vs → out.Pairwise (fun x y => ltv y x = false) → (∀ b o, s.heap.get? b = some o → h'.get? b = some o) → s.heap.objs.size ≤ l → (∃ n, h'.get? l = some { cls := .type "list", data := .seq out.toArray n }) → Q (.ref l) { s with heap := h', toks := tk }) :
    wpAny (model prog w) A (call (.builtin "sorted") [.ref r]) Q E s := by
  refine Calls.call_function_entry PyProof.Rows.kind_sorted PyProof.Rows.plain_sorted PyProof.Rows.entry_sorted (PyProof.Rows.args_sorted1 _) ?_
  unfold Builtin.«sorted»
  refine wpAny_bind (m := checkCount "sorted" 1 1 _) (wpAny_pure ?_)
  refine wpAny_bind (hc _ fun h' tk kp hle => ?_)
  refine wpAny_bind (wpAny_newList ?_ hz)
  have hob : (h'.push (seqObj "list" vs.toArray 0)).get? h'.objs.size = some (seqObj "list" vs.toArray 0) := Heap.get?_push_size _ rfl
  have kb : ∀ b o, s.heap.get? b = some o → (h'.push (seqObj "list" vs.toArray 0)).get? b = some o := fun b o e => Heap.get?_push_of_some _ (kp b o e)
  refine wpAny_bind (wpAny_holding (wpAny_call_entry PyProof.Rows.slot_list_sort ⟨_, hob, rfl⟩ PyProof.Rows.entry_list_sort (SrtO.list_sort_ord (s := { s with heap := h'.push (seqObj "list" vs.toArray 0), toks := tk }) O hob hz (fun h2 => hS h2 _ _ _ hob kb) fun out hs hb => ⟨_, rfl, ?_⟩) (PyProof.Rows.args_list_sort _)))
  refine wpAny_pure ⟨_, rfl, ?_⟩
  obtain ⟨e, he⟩ := PyProof.Rows.sortedHeap_at (vs := vs) (out := out.toArray) hob
  refine h out _ tk h'.objs.size hb.perm hs (fun b o q => ?_) hle ⟨e, he⟩
  have lt := Heap.lt_size q
  exact (PyProof.Rows.sortedHeap_old (Nat.ne_of_lt (Nat.lt_of_lt_of_le lt hle)) (Heap.lt_size (kb b o q))).trans (kb b o q)
end
/-! ### as a rule -/
/-- an item: its value, what stands for it, its object; a tuple of m ints -/
def Trip (K : PySem.W.Frag) (μ : List Addr) (H : Hp) (h : Heap) (m : Nat) (z : Sim.D × V × Value) : Prop := Rep K CLF μ H z.1 z.2.1 ∧ RelV z.2.1 z.2.2 ∧ ∃ ns : List Int, z.1 = .tup (ns.map D.int) ∧ ns.length = m ∧ TS.TupInts h z.2.2 ns
def tupNm (m : Nat) : D → Bool
  | .tup l => (intsL l).isSome && decide (l.length = m)
  | _ => false
theorem tupsOf_eq (m : Nat) (l : List D) : tupsOf m l = l.all (tupNm m) := by
  unfold tupsOf
  congr 1
theorem intsL_eq : ∀ {l : List D} {ns : List Int}, intsL l = some ns → l = ns.map D.int
  | [], _, h => by cases h; rfl
  | d :: l, ns, h => by
    cases d with
    | int i =>
      have h : (intsL l).map (i :: ·) = some ns := h
      cases e : intsL l with
      | none => rw [e] at h; cases h
      | some ms =>
        rw [e] at h
        cases h
        rw [intsL_eq e]
        rfl
    | _ => cases h
theorem intsL_map : ∀ ns : List Int, intsL (ns.map D.int) = some ns
  | [] => rfl
  | n :: r => by
    show (intsL (r.map D.int)).map (n :: ·) = _
    rw [intsL_map r]
    rfl
section
variable {X : Cx} {G : Wd} {pins : List (Addr × Obj)} {σ : L2.St} {H : Hp} {s : Shared} {μ : List Addr} {S : Store}
theorem trip_of (I : Inv X pins σ H s) {m : Nat} {d : D} {v : V} {u : Value} (rd : Rep X.K CLF μ H d v) (ru : RelV v u) (h : tupNm m d = true) : Trip X.K μ H s.heap m (d, v, u) := by
  cases rd with
  | @tup l p xs ht hr =>
    unfold tupNm at h
    rw [Bool.and_eq_true, decide_eq_true_eq] at h
    obtain ⟨ns, hns⟩ := Option.isSome_iff_exists.mp h.1
    have el := intsL_eq hns
    subst el
    have ex := hr.ints
    subst ex
    obtain rfl : u = Value.ref p := ru
    obtain ⟨hz, its, rv, ot⟩ := (show ObjOk X.prog X.w H s.heap p (.tup (ns.map V.int)) from I.hok p _ ht)
    refine ⟨.tup ht hr, rfl, ns, rfl, by rw [← h.2, List.length_map], p, its.toArray, rfl, ot, ?_⟩
    rw [List.toList_toArray]
    exact rv.ints
  | _ => cases h
theorem trips_of (I : Inv X pins σ H s) {m : Nat} : ∀ {ds : List D} {xs : List V} {us : List Value}, Reps X.K CLF μ H ds xs → Vals xs us → tupsOf m ds = true → ∃ zs : List (D × V × Value), zs.map (·.1) = ds ∧ zs.map (·.2.1) = xs ∧ zs.map (·.2.2) = us ∧ ∀ z ∈ zs, Trip X.K μ H s.heap m z
  | _, _, _, .nil, .nil, _ => ⟨[], rfl, rfl, rfl, fun z hz => by cases hz⟩
  | d :: ds, v :: xs, u :: us, .cons rd rs, .cons ru r, h => by
    rw [tupsOf_eq, List.all_cons, Bool.and_eq_true] at h
    obtain ⟨zs, h1, h2, h3, h4⟩ := trips_of I rs r (by rw [tupsOf_eq]; exact h.2)
    refine ⟨(d, v, u) :: zs, by rw [List.map_cons, h1], by rw [List.map_cons, h2], by rw [List.map_cons, h3], fun z hz => ?_⟩
    rcases List.mem_cons.mp hz with rfl | hz
    · exact trip_of I rd ru h.1
    · exact h4 z hz
theorem sort_rule (I : Inv X pins σ H s) (R : RelG X.K G CLF μ S H) {r : Addr} {m : Nat} {ds : List D} {xs : List V} {us : List Value} {Q : VK} {E : Value → Shared → Prop} (hm : 1 ≤ m) (rs : Reps X.K CLF μ H ds xs) (rv : Vals xs us) (ht : tupsOf m ds = true) (hz : us.length ≤ sizeLine)
    (hc : ∀ RR : List Value → Shared → Prop, (∀ (h' : Heap) (tk : Nat), (∀ b o, s.heap.get? b = some o → h'.get? b = some o) → s.heap.objs.size ≤ h'.objs.size → RR us { s with heap := h', toks := tk }) → wpAny (model X.prog X.w) X.A.in1 (collect (.ref r)) RR E s)
    (h : LV X.K G CLF (rrD X.K CLF) μ S (alloc (.lst (sortL ltK ds))) H Q) : wpAny (model X.prog X.w) X.A (call (.builtin "sorted") [.ref r]) (EP X pins σ Q) E s := by
  obtain ⟨zs, e1, e2, e3, hT⟩ := trips_of I rs rv ht
  have hk : ∀ z ∈ zs, TS.intsOf s.heap z.2.2 = (sortKey z.1).getD [] ∧ (TS.intsOf s.heap z.2.2).length = m ∧ TS.TupInts s.heap z.2.2 (TS.intsOf s.heap z.2.2) := fun z hz => by
    obtain ⟨_, _, ns, e, hl, ti⟩ := hT z hz
    rw [ti.ints, e]
    refine ⟨?_, hl, ti⟩
    show ns = (intsL (ns.map D.int)).getD []
    rw [intsL_map]
    rfl
  refine sorted_of (swo_key (TS.intsOf s.heap)) hz hc (fun h2 h₁ tk a ha kp => ?_) fun out h' tk l hp hs kp hle hl => ?_
  · refine tups_sortable hm (fun v hv => ?_) (fun o e c => ?_) h2
    · rw [← e3] at hv
      obtain ⟨z, hz, rfl⟩ := List.mem_map.mp hv
      obtain ⟨_, k2, k3⟩ := hk z hz
      exact ⟨k3.keeps fun b o e _ => kp b o e, k2⟩
    · have e' : some o = some (seqObj "list" us.toArray 0) := e.symm.trans ha
      cases e'
      exact absurd (Value.type.inj c) (by decide)
  · obtain ⟨ys, p1, p2⟩ := perm_lift (fun z : D × V × Value => z.2.2) hp zs e3
    have mem : ∀ z ∈ ys, z ∈ zs := fun z hz => p1.mem_iff.mp hz
    have pd : (ys.map (·.1)).Perm ds := by rw [← e1]; exact p1.map _
    have key : ∀ z ∈ ys, ∀ z' ∈ ys, ltK z.1 z'.1 = lexLt (TS.intsOf s.heap z.2.2) (TS.intsOf s.heap z'.2.2) := fun z hz z' hz' => by
      obtain ⟨_, _, ns, e, _, ti⟩ := hT z (mem z hz)
      obtain ⟨_, _, ns', e', _, ti'⟩ := hT z' (mem z' hz')
      rw [ti.ints, ti'.ints, e, e']
      show (match intsL (ns.map D.int), intsL (ns'.map D.int) with | some a, some b => lexLt a b | _, _ => false) = _
      rw [intsL_map, intsL_map]
    have srt : (ys.map (·.1)).Pairwise (fun a b => ltK b a = false) := by
      rw [← p2, List.pairwise_map] at hs
      rw [List.pairwise_map]
      exact List.Pairwise.imp_of_mem (fun {x y} hx hy q => by rw [key y hy x hx]; exact q) hs
    have tup : ∀ d ∈ ds, ∃ ns : List Int, d = .tup (ns.map D.int) := fun d hd => by
      rw [← e1] at hd
      obtain ⟨z, hz, rfl⟩ := List.mem_map.mp hd
      obtain ⟨_, _, ns, e, _, _⟩ := hT z hz
      exact ⟨ns, e⟩
    have lk : ∀ ns ns' : List Int, ltK (.tup (ns.map D.int)) (.tup (ns'.map D.int)) = lexLt ns ns' := fun ns ns' => by
      show (match intsL (ns.map D.int), intsL (ns'.map D.int) with | some a, some b => lexLt a b | _, _ => false) = _
      rw [intsL_map, intsL_map]
    have cong : sortL ltK ds = sortL (fun x y => lexLt ((sortKey x).getD []) ((sortKey y).getD [])) ds := sortL_congr fun x hx y hy => by
      obtain ⟨ns, rfl⟩ := tup x hx
      obtain ⟨ns', rfl⟩ := tup y hy
      rw [lk]
      show _ = lexLt ((intsL (ns.map D.int)).getD []) ((intsL (ns'.map D.int)).getD [])
      rw [intsL_map, intsL_map]
      rfl
    have srt2 : (sortL ltK ds).Pairwise (fun a b => ltK b a = false) := by
      have q := sortL_sorted (swo_key (fun d : D => (sortKey d).getD [])) ds
      rw [← cong] at q
      refine List.Pairwise.imp_of_mem (fun {x y} hx hy z => ?_) q
      obtain ⟨ns, rfl⟩ := tup x ((sortL_perm ltK ds).mem_iff.mp hx)
      obtain ⟨ns', rfl⟩ := tup y ((sortL_perm ltK ds).mem_iff.mp hy)
      rw [lk]
      have z : lexLt ((intsL (ns'.map D.int)).getD []) ((intsL (ns.map D.int)).getD []) = false := z
      rw [intsL_map, intsL_map] at z
      exact z
    have eq : ys.map (·.1) = sortL ltK ds := by
      refine sorted_one (fun x hx y hy q1 q2 => ?_) (fun x hx => ?_) (pd.trans (sortL_perm ltK ds).symm) srt srt2
      · obtain ⟨ns, rfl⟩ := tup x (pd.mem_iff.mp hx)
        obtain ⟨ns', rfl⟩ := tup y (pd.mem_iff.mp hy)
        rw [lk] at q1 q2
        rw [lexLt_eq _ _ q1 q2]
      · obtain ⟨ns, rfl⟩ := tup x (pd.mem_iff.mp hx)
        rw [lk]
        exact lexLt_irrefl _
    have rr : Reps X.K CLF μ H (sortL ltK ds) (ys.map (·.2.1)) := by
      rw [← eq]
      clear eq srt key pd p1 p2
      induction ys with
      | nil => exact .nil
      | cons y ys ih => exact .cons (hT y (mem y List.mem_cons_self)).1 (ih fun z hz => mem z (List.mem_cons_of_mem _ hz))
    have rvs : Vals (ys.map (·.2.1)) out := by
      rw [← p2]
      clear eq srt key pd p1 p2 rr
      induction ys with
      | nil => exact .nil
      | cons y ys ih => exact .cons (hT y (mem y List.mem_cons_self)).2.1 (ih fun z hz => mem z (List.mem_cons_of_mem _ hz))
    obtain ⟨n, hl⟩ := hl
    have nl : H l = none := I.hok.fresh hle
    refine ⟨.ref l, upd H l (.lst (ys.map (·.2.1))), I.laid (t' := tk) (o := .lst (ys.map (·.2.1))) kp hle ⟨?_, out, n, rvs, hl⟩, rfl, h.lst rfl R rr nl⟩
    rw [rvs.length, hp.length_eq]
    exact hz
theorem allInts_eq : ∀ {l : List D}, allInts l = true → ∃ ns : List Int, l = ns.map D.int
  | [], _ => ⟨[], rfl⟩
  | d :: l, h => by
    unfold allInts at h
    rw [List.all_cons, Bool.and_eq_true] at h
    obtain ⟨ns, e⟩ := allInts_eq (l := l) h.2
    cases d with
    | int i => exact ⟨i :: ns, by rw [e]; rfl⟩
    | _ => cases h.1
theorem sort_ints {ns ns' : List Int} (hp : ns'.Perm ns) (hs : ns'.Pairwise (· ≤ ·)) : sortL ltK (ns.map D.int) = ns'.map D.int := by
  have lk : ∀ i j : Int, ltK (.int i) (.int j) = decide (i < j) := fun i j => by
    show lexLt [i] [j] = _
    unfold lexLt
    by_cases e : i = j
    · rw [if_pos e, e]
      exact (decide_eq_false (by omega)).symm
    · rw [if_neg e]
  have isI : ∀ d ∈ sortL ltK (ns.map D.int), ∃ i : Int, d = .int i := fun d hd => by
    obtain ⟨i, _, e⟩ := List.mem_map.mp ((sortL_perm ltK _).mem_iff.mp hd)
    exact ⟨i, e.symm⟩
  have cong : sortL ltK (ns.map D.int) = sortL (fun x y => lexLt ((sortKey x).getD []) ((sortKey y).getD [])) (ns.map D.int) := sortL_congr fun x hx y hy => by
    obtain ⟨i, _, rfl⟩ := List.mem_map.mp hx
    obtain ⟨j, _, rfl⟩ := List.mem_map.mp hy
    rfl
  refine sorted_one (lt := ltK) (fun x hx y hy q1 q2 => ?_) (fun x hx => ?_) ((sortL_perm ltK _).trans (hp.symm.map _)) ?_ ?_
  · obtain ⟨i, rfl⟩ := isI x hx
    obtain ⟨j, rfl⟩ := isI y hy
    rw [lk] at q1 q2
    have q1 := of_decide_eq_false q1
    have q2 := of_decide_eq_false q2
    rw [show i = j by omega]
  · obtain ⟨i, rfl⟩ := isI x hx
    rw [lk]
    exact decide_eq_false (by omega)
  · have q := sortL_sorted (swo_key (fun d : D => (sortKey d).getD [])) (ns.map D.int)
    rw [← cong] at q
    refine List.Pairwise.imp_of_mem (fun {x y} hx hy z => ?_) q
    obtain ⟨i, rfl⟩ := isI x hx
    obtain ⟨j, rfl⟩ := isI y hy
    exact z
  · rw [List.pairwise_map]
    exact hs.imp fun {x y} h => by rw [lk]; exact decide_eq_false (by omega)
theorem sortD_of {l m : List D} (h : sortD l = some m) : m = sortL ltK l ∧ (allInts l = true ∨ ∃ k, 1 ≤ k ∧ tupsOf k l = true) := by
  unfold sortD at h
  split at h
  · cases h
    exact ⟨rfl, .inl ‹_›⟩
  · split at h
    · rename_i m' r
      split at h
      · rename_i hh
        cases h
        rw [Bool.and_eq_true, Bool.and_eq_true, decide_eq_true_eq] at hh
        exact ⟨rfl, .inr ⟨_, hh.1.1, hh.1.2⟩⟩
      · cases h
    · cases h
theorem keysD_reps {K : PySem.W.Frag} {μ : List Addr} {H : Hp} : ∀ {l : List D} {k : List Key}, keysD l = some k → Reps K CLF μ H l (k.map kV)
  | [], k, h => by cases h; exact .nil
  | d :: l, k, h => by
    have h : (match keyD d, keysD l with | some k, some ks => some (k :: ks) | _, _ => none) = some k := h
    cases e1 : keyD d with
    | none => simp only [e1] at h; cases h
    | some q =>
      cases e2 : keysD l with
      | none => simp only [e1, e2] at h; cases h
      | some ms =>
        simp only [e1, e2] at h
        cases h
        refine .cons ?_ (keysD_reps e2)
        cases d <;> cases e1
        · exact .int _
        · exact .str _
theorem repKT_keys {K : PySem.W.Frag} {μ : List Addr} {H : Hp} : ∀ {ds : List (D × D)} {kvs : List (List Key × V)} {bs : List Addr}, RepKT K CLF μ H ds kvs → IsKeys H kvs bs → Reps K CLF μ H (ds.map (·.1)) (bs.map V.ref)
  | _, _, _, .nil, .nil => .nil
  | _, _, b :: bs, .cons (d := d) hk _ r, .cons hb t => by
    refine .cons ?_ (repKT_keys r t)
    cases d with
    | tup l => exact .tup hb (keysD_reps hk)
    | _ => cases hk
theorem ints_by {vs : List Value} {ks : List Int} (hl : vs.length = ks.length) (h : ∀ (j : Nat) (v : Value), vs[j]? = some v → ∃ x t, ks[j]? = some x ∧ v = Value.int x t) : IntsAre vs ks := by
  induction vs generalizing ks with
  | nil => cases ks with
    | nil => exact .nil
    | cons k ks => simp at hl
  | cons v vs ih => cases ks with
    | nil => simp at hl
    | cons k ks =>
      obtain ⟨x, t, e1, e2⟩ := h 0 v rfl
      have e1 : k = x := Option.some.inj e1
      subst e1
      subst e2
      exact .cons _ _ (ih (by simpa using hl) fun j u e => h (j + 1) u (by simpa using e))
/-- sorted of a dict whose keys are ints, any number of them -/
theorem call_sortedDU (hcalm : X.calm = true) : CallR X (.builtin "sorted") (fun xs H Q => ∃ (a : Addr) (kvs : List (Key × V)) (ks : List Int), xs = [.ref a] ∧ Rd H a (.dK kvs) ∧ kvs.map (·.1) = ks.map Sum.inl ∧ ks.length ≤ 1000000 ∧
    ∀ (ys : List Int) (p : Addr), ys.Perm ks → ys.Pairwise (· ≤ ·) → H p = none → Q (.ref p) (upd H p (.lst (ys.map V.int)))) := by
  intro pins s σ H xs us Q I r q
  obtain ⟨a, kvs, ks, ex, hd, hks, hlen, q⟩ := q
  subst ex
  obtain rfl := Vals.ref1 r
  obtain ⟨z, lo, vs, rel, dd⟩ := dk_rd I.hok hd
  obtain ⟨ep, hat⟩ := dd.dictAt
  have hkeys : vs.map (·.1) = ks.map Sum.inl := rel.keys.symm.trans hks
  have hl : vs.length = ks.length := by
    have e := congrArg List.length hkeys
    rw [List.length_map, List.length_map] at e
    exact e
  have h16 : vs.length ≤ sizeLine := by rw [hl, sizeLine_eq]; omega
  refine Calls.call_function_entry PyProof.Rows.kind_sorted PyProof.Rows.plain_sorted PyProof.Rows.entry_sorted (PyProof.Rows.args_sorted1 _) ?_
  unfold Builtin.«sorted»
  refine wpAny_bind (m := checkCount "sorted" 1 1 _) (wpAny_pure ?_)
  refine wpAny_bind (PySem.W.kdu_collect (A := X.A.in1) (PySem.W.kdl_dict (knd := mixKind X.prog X.w) (kvs := vs) (ep := ep) lo) (I.ok.hd hcalm) hat h16 fun h' tk acc hk hacc => ?_)
  have hal : acc.toList.length = ks.length := by rw [Array.length_toList, hacc.1, hl]
  have hS : IntsAre acc.toList ks := ints_by hal fun j v e => by
    obtain ⟨k, x, e1, e2⟩ := hacc.2 j v (by rw [← Array.getElem?_toList]; exact e)
    have e3 : (vs.map (·.1))[j]? = some k := by rw [List.getElem?_map, e1]; rfl
    rw [hkeys, List.getElem?_map] at e3
    cases e4 : ks[j]? with
    | none => rw [e4] at e3; cases e3
    | some y =>
      rw [e4] at e3
      have e5 : Sum.inl y = k := Option.some.inj e3
      subst e5
      rcases keyIs_shape (show keyIs (Sum.inl y) v = true from e2) with ⟨i, t, ek, ev⟩ | ⟨z, t, ek, ev⟩
      · cases ek
        exact ⟨y, t, rfl, ev⟩
      · cases ek
  have I1 : Inv X pins σ H { s with heap := h', toks := tk } := I.kept hk
  have hz : acc.toList.length ≤ sizeLine := by rw [hal, sizeLine_eq]; omega
  refine wpAny_bind (wpAny_newList ?_ hz)
  have hob : (h'.push (seqObj "list" acc.toList.toArray 0)).get? h'.objs.size = some (seqObj "list" acc.toList.toArray 0) := Heap.get?_push_size _ rfl
  refine wpAny_bind (wpAny_holding (wpAny_call_entry PyProof.Rows.slot_list_sort ⟨_, hob, rfl⟩ PyProof.Rows.entry_list_sort
    (SrtO.list_sort_ord (s := { s with heap := h'.push (seqObj "list" acc.toList.toArray 0), toks := tk }) SrtO.swo_int hob hz (fun h2 => SrtO.ints_sortable hS h2) fun out hs hb => ⟨_, rfl, ?_⟩) (PyProof.Rows.args_list_sort _)))
  obtain ⟨k1, k2, k3⟩ := SrtO.ints_out hS hs hb
  obtain ⟨e', he'⟩ := PyProof.Rows.sortedHeap_at (vs := acc.toList) (out := out.toArray) hob
  have hlen2 : ((out.map SrtO.iv).map V.int).length ≤ sizeLine := by
    rw [List.length_map, k2.length_eq, sizeLine_eq]
    omega
  refine wpAny_pure ⟨_, rfl, .ref h'.objs.size, upd H h'.objs.size (.lst ((out.map SrtO.iv).map V.int)), I1.laid (t' := tk) (fun b u e => ?_) (Nat.le_refl _) ⟨hlen2, out, e', vals_of_ints k1, he'⟩, rfl, q _ _ k2 k3 (I1.hok.fresh (Nat.le_refl _))⟩
  have hb : b < h'.objs.size := Heap.lt_size e
  rw [PyProof.Rows.sortedHeap_old (Nat.ne_of_lt hb) (Heap.lt_size (Heap.get?_push_of_some _ e))]
  exact Heap.get?_push_of_some _ e
theorem intKeys_of {K : PySem.W.Frag} {μ : List Addr} {H : Hp} : ∀ {ds : List (D × D)} {kvs : List (Key × V)}, RepKV K CLF μ H ds kvs → (ds.all fun p => intKey p.1) = true → ∃ ns : List Int, ds.map (·.1) = ns.map D.int ∧ kvs.map (·.1) = ns.map Sum.inl
  | _, _, .nil, _ => ⟨[], rfl, rfl⟩
  | (d, x) :: ds, _, .cons hk _ r, h => by
    rw [List.all_cons, Bool.and_eq_true] at h
    obtain ⟨ns, h1, h2⟩ := intKeys_of r h.2
    have z : intKey d = true := h.1
    cases d with
    | int i =>
      cases hk
      exact ⟨i :: ns, by rw [List.map_cons, h1]; rfl, by rw [List.map_cons, h2]; rfl⟩
    | _ => cases z
theorem boolsL_of {K : PySem.W.Frag} {CL : CLT} {μ : List Addr} {H : Hp} : ∀ {l : List D} {ys : List V} {bs : List Bool}, Reps K CL μ H l ys → boolsL l = some bs → ys = bs.map V.bl
  | _, _, _, .nil, h => by cases h; rfl
  | _, _, n, .cons r rs, h => by
    cases r with
    | bl b =>
      rename_i ds vs
      have h : (boolsL ds).map (b :: ·) = some n := h
      cases e : boolsL ds with
      | none => rw [e] at h; cases h
      | some m =>
        rw [e] at h
        cases h
        rw [boolsL_of rs e]
        rfl
    | _ => cases h
theorem cr_anyD {CL : CLT} (hc : X.calm = true) : CallR X (.builtin "any") (rBi X.K G CL .any1) := by
  intro pins s σ H xs us Q I r h
  obtain ⟨μ, S, ds, R, rs, h⟩ := h
  match ds, rs with
  | [], _ => exact (h.no rfl).elim
  | _ :: _ :: _, _ => exact (h.no rfl).elim
  | [d], rs =>
    obtain ⟨x, rfl, rx⟩ := rs.one
    cases e : lstAt S d with
    | none => exact (h.no (by show (match lstAt S d with | some l => _ | none => none) = _; simp only [e])).elim
    | some l =>
      obtain ⟨p, ys, rfl, hq, hr⟩ := R.lstAt rx e
      obtain ⟨bs, e1, hq2⟩ := h.opt (f := fun bs : List Bool => D.bl (bs.any id)) (by show (match lstAt S d with | some l => _ | none => none) = _; simp only [e]; rfl) R
      have := boolsL_of hr e1
      subst this
      exact cr_any hc pins s σ H _ us Q I r ⟨p, bs, rfl, hq, hq2 _ (.bl _)⟩
theorem cr_allD {CL : CLT} (hc : X.calm = true) : CallR X (.builtin "all") (rBi X.K G CL .all1) := by
  intro pins s σ H xs us Q I r h
  obtain ⟨μ, S, ds, R, rs, h⟩ := h
  match ds, rs with
  | [], _ => exact (h.no rfl).elim
  | _ :: _ :: _, _ => exact (h.no rfl).elim
  | [d], rs =>
    obtain ⟨x, rfl, rx⟩ := rs.one
    cases e : lstAt S d with
    | none => exact (h.no (by show (match lstAt S d with | some l => _ | none => none) = _; simp only [e])).elim
    | some l =>
      obtain ⟨p, ys, rfl, hq, hr⟩ := R.lstAt rx e
      obtain ⟨bs, e1, hq2⟩ := h.opt (f := fun bs : List Bool => D.bl (bs.all id)) (by show (match lstAt S d with | some l => _ | none => none) = _; simp only [e]; rfl) R
      have := boolsL_of hr e1
      subst this
      exact cr_all hc pins s σ H _ us Q I r ⟨p, bs, rfl, hq, hq2 _ (.bl _)⟩
theorem cr_sortedD (hc : X.calm = true) : CallR X (.builtin "sorted") (rBi X.K G CLF .sorted) := by
  intro pins s σ H xs us Q I r h
  obtain ⟨μ, S, ds, R, rs, h⟩ := h
  match ds, rs with
  | [], _ => exact (h.no rfl).elim
  | _ :: _ :: _, _ => exact (h.no rfl).elim
  | [d], rs =>
    obtain ⟨x, rfl, rx⟩ := rs.one
    cases rx with
    | @ref k p hm =>
      obtain ⟨mo, e, ho⟩ := R.at hm
      cases mo with
      | lst l =>
        obtain ⟨ys, h1, hr⟩ := R.own hm e
        have e2 : biD .sorted [.ref k] S = (sortD l).bind fun m => alloc (.lst m) S := by
          show (match S[k]? with | some (.lst l) => _ | some (.dct kvs _) => _ | _ => none) = _
          simp only [e]
        cases es : sortD l with
        | none => exact (h.no (by rw [e2, es]; rfl)).elim
        | some m =>
          rw [es] at e2
          have e2 : biD .sorted [.ref k] S = alloc (.lst m) S := e2
          obtain ⟨rfl, ha⟩ := sortD_of es
          obtain ⟨z, its, n, rv, hg⟩ := I.hok p _ h1
          obtain rfl := Vals.ref1 r
          rcases ha with ha | ⟨q, hq, ht⟩
          · obtain ⟨ns, rfl⟩ := allInts_eq ha
            have ey := hr.ints
            subst ey
            refine cr_sortedI pins s σ H _ _ Q I r ⟨p, ns, rfl, SqL.of h1, fun ns' b hp hs hb => ?_⟩
            refine h.lst e2 R ?_ hb
            rw [sort_ints hp hs]
            exact Reps.ofInts ns'
          · refine sort_rule I R hq hr rv ht (by rw [← rv.length]; exact z) (fun RR k2 => ?_) (by
              obtain ⟨a, S', e3, h3⟩ := h
              exact ⟨a, S', by rw [← e2]; exact e3, h3⟩)
            refine PyProof.Rows.collect_list ⟨_, hg, rfl, n, rfl⟩ ?_ (by rw [← rv.length]; exact z)
            refine k2 _ s.toks (fun b o q => ?_) ?_
            · rw [Heap.get?_update_ne _ _ _ _ (Nat.ne_of_lt (Heap.lt_size q))]
              exact Heap.get?_push_of_some _ q
            · rw [Heap.size_update]
              exact Nat.le_of_lt (by rw [Heap.size_push]; exact Nat.lt_succ_self _)
      | gone => exact (h.no (by show (match S[k]? with | some (.lst l) => _ | some (.dct kvs _) => _ | _ => none) = _; simp only [e])).elim
      | dct kvs lock =>
        have e2 : biD .sorted [.ref k] S = if (kvs.all fun p => keyT p.1) = true then (sortD (kvs.map (·.1))).bind fun m => alloc (.lst m) S else if ((kvs.all fun p => intKey p.1) && decide (kvs.length ≤ 1000000)) = true then alloc (.lst (sortL ltK (kvs.map (·.1)))) S else none := by
          show (match S[k]? with | some (.lst l) => _ | some (.dct kvs _) => _ | _ => none) = _
          simp only [e]
        by_cases hk : (kvs.all fun p => keyT p.1) = true
        · rw [if_pos hk] at e2
          cases es : sortD (kvs.map (·.1)) with
          | none => exact (h.no (by rw [e2, es]; rfl)).elim
          | some m =>
            rw [es] at e2
            have e2 : biD .sorted [.ref k] S = alloc (.lst m) S := e2
            obtain ⟨rfl, ha⟩ := sortD_of es
            obtain rfl := Vals.ref1 r
            have h' : LV X.K G CLF (rrD X.K CLF) μ S (alloc (.lst (sortL ltK (kvs.map (·.1))))) H Q := by
              obtain ⟨a, S', e3, h3⟩ := h
              exact ⟨a, S', by rw [← e2]; exact e3, h3⟩
            have hh : X.A.in1.handled = none := I.ok.hd hc
            obtain ⟨b, g1, g2⟩ := R.obj k _ e
            rw [hm] at g1
            cases g1
            cases g2 with
            | dK hd hr =>
              cases hr with
              | @cons d2 _ _ _ _ _ hk2 _ _ =>
                exfalso
                rw [List.all_cons, Bool.and_eq_true] at hk
                have z : keyT d2 = true := hk.1
                cases d2 <;> first | (cases hk2; done) | (cases z; done)
              | nil =>
                obtain ⟨z, lo, vs, rk, hdo⟩ := (show ObjOk X.prog X.w H s.heap p (.dK []) from I.hok p _ hd)
                cases rk
                obtain ⟨ep, hat⟩ := hdo.dictAt
                refine sort_rule (m := 1) (ds := []) (xs := []) (us := []) I R (Nat.le_refl _) .nil .nil rfl (Nat.zero_le _) (fun RR k2 => ?_) h'
                refine collect_src (PySem.W.kdl_dict (knd := mixKind X.prog X.w) (kvs := []) (ep := ep) lo) hh hat (Nat.zero_le _) fun h1 tk acc kp hlt it => ?_
                have ea : acc.toList = [] := List.length_eq_zero_iff.mp (by rw [Array.length_toList]; exact it.1)
                rw [ea]
                exact k2 h1 tk kp (Nat.le_of_lt hlt)
            | @dT _ kvs' hn hd hr =>
              obtain ⟨z, lo, ks, pr, o, es', ep, hget, hx, hdt, he, hnd⟩ := (show ObjOk X.prog X.w H s.heap p (.dT kvs') from I.hok p _ hd)
              have l1 : es'.size = ks.length := size_of_entries he
              have l2 : kvs'.length = ks.length := Paired.length pr
              have rk := repKT_keys hr (isKeys_of pr)
              obtain ⟨q, hq, ht⟩ : ∃ q, 1 ≤ q ∧ tupsOf q (kvs.map (·.1)) = true := by
                rcases ha with ha | ha
                · exfalso
                  cases kvs with
                  | nil => exact hn rfl
                  | cons q l =>
                    obtain ⟨ns, e3⟩ := allInts_eq ha
                    rw [List.all_cons, Bool.and_eq_true] at hk
                    cases ns with
                    | nil => cases e3
                    | cons i ns =>
                      have e4 : q.1 = .int i := (List.cons.inj e3).1
                      rw [e4] at hk
                      cases hk.1
                · exact ha
              refine sort_rule I R hq rk (vals_refs _) ht (by rw [List.length_map, List.length_map]; omega) (fun RR k2 => ?_) h'
              refine collect_src (kdl_raw lo hx hdt) hh hget (by omega) fun h1 tk acc kp hlt it => ?_
              have ea : acc.toList = (ks.map fun x => x.2.1).map Value.ref := by
                rw [List.map_map]
                have hl : acc.toList.length = ks.length := by rw [Array.length_toList, it.1]; exact l1
                apply List.ext_getElem?
                intro j
                rw [List.getElem?_map]
                cases hj : acc.toList[j]? with
                | none =>
                  rw [List.getElem?_eq_none (by have := List.getElem?_eq_none_iff.mp hj; omega)]
                  rfl
                | some v =>
                  obtain ⟨en, hen, hv⟩ := it.2 j v (by rw [← Array.getElem?_toList]; exact hj)
                  have qe := entry_at he j
                  rw [hen] at qe
                  cases hb : ks[j]? with
                  | none => rw [hb] at qe; cases qe
                  | some b =>
                    rw [hb] at qe
                    have e2 : en = entryOfKey (tupleKind (mixKind X.prog X.w)) b := Option.some.inj qe
                    rw [hv, e2]
                    rfl
              rw [ea]
              exact k2 h1 tk kp (Nat.le_of_lt hlt)
        · rw [if_neg hk] at e2
          by_cases hk2 : ((kvs.all fun p => intKey p.1) && decide (kvs.length ≤ 1000000)) = true
          · rw [if_pos hk2] at e2
            rw [Bool.and_eq_true, decide_eq_true_eq] at hk2
            obtain ⟨b, g1, g2⟩ := R.obj k _ e
            rw [hm] at g1
            cases g1
            cases g2 with
            | @dK _ kvs' hd hr =>
              obtain ⟨ns, hn1, hn2⟩ := intKeys_of hr hk2.1
              refine call_sortedDU hc pins s σ H _ us Q I r ⟨p, kvs', ns, rfl, Or.inl hd, hn2, ?_, fun ys b hp hs hb => ?_⟩
              · have := congrArg List.length hn1
                rw [List.length_map, List.length_map] at this
                omega
              · refine h.lst e2 R ?_ hb
                rw [hn1, sort_ints hp hs]
                exact Reps.ofInts ys
            | @dT _ kvs' hn hd hr =>
              exfalso
              cases hr with
              | nil => exact hn rfl
              | @cons d _ _ _ _ _ hk3 _ _ =>
                rw [List.all_cons, Bool.and_eq_true] at hk2
                have z : intKey d = true := hk2.1.1
                cases d <;> first | (cases hk3; done) | (cases z; done)
          · rw [if_neg hk2] at e2
            exact (h.no e2).elim
    | _ => exact (h.no rfl).elim
end
end Sim
set_option Elab.async false
set_option linter.all false
set_option autoImplicit false
set_option maxRecDepth 100000
/-! Sim1g: enumerate over a tuple. -/
namespace Sim
open PySem PySem.Spec PyProof.Rows L2
open Sem (wp)
set_option maxHeartbeats 1000000 in
theorem meets_enum1 {v : Value} {o : Obj} {H : Heap → Prop} (B : Begins v o H) :
    Meets (Builtin.«enumerate.__new__» ⟨[.type "enumerate", v], []⟩) (fun _ R s => H s.heap ∧
      R (.ok (.ret (.ref (s.heap.push o).objs.size))) { s with heap := (s.heap.push o).push { cls := .type "enumerate", data := .fields #[.none, .bool false, .ref s.heap.objs.size, rawInt 0, .none, .none] } }) :=
  .of_wp fun prog w A R s h => by
    obtain ⟨hp, g, d, tk, os⟩ := s; obtain ⟨h1, h⟩ := h
    have hsub := sub_enumerate
    have q1 : ∀ {A' : Around} {E : Value → Shared → Prop} {Q : Value → Shared → Prop}, Q (.ref hp.objs.size) ⟨hp.push o, g, d, tk, os⟩ → wpAny (model prog w) A' (pyIter v) Q E ⟨hp, g, d, tk, os⟩ :=
      fun q => B.iter prog w _ _ ⟨hp, g, d, tk, os⟩ _ h1 q
    wp_walk using q1
    refine wpAny_stack_any fun st => wpAny_pure ?_
    split
    · rename_i c _ _ _ _ _
      cases (c == Value.type "enumerate")
      · wp_walk using q1
        exact ⟨_, rfl, h⟩
      · wp_walk using q1
        exact ⟨_, rfl, h⟩
    · wp_walk using q1
      exact ⟨_, rfl, h⟩
section
variable {prog : Program} {w : World} {A : Around} {E : Value → Shared → Prop} {s : Shared}
/-- enumerate(v): its two new cells -/
theorem enum_begins1 {v : Value} {o : Obj} {H : Heap → Prop} {Q : Value → Shared → Prop} (B : Begins v o H) (h1 : H s.heap)
    (h : ∀ h', IsEnum h' (s.heap.objs.size + 1) s.heap.objs.size 0 .none → h'.get? s.heap.objs.size = some o → h'.objs.size = s.heap.objs.size + 2 →
      (∀ b o, s.heap.get? b = some o → h'.get? b = some o) → Q (.ref (s.heap.objs.size + 1)) { s with heap := h' }) :
    wpAny (model prog w) A (call (.type "enumerate") [v]) Q E s := by
  refine callType_new F.called_enumerate (by decide) (F.typeCall_enumerate_1 _) (F.newCall_enumerate_1 _) (fun obj => F.args_object_init_2 obj _) F.entry_enumerate_new
    (meets_enum1 B) ⟨h1, ?_⟩
  have hz : (s.heap.push o).objs.size = s.heap.objs.size + 1 := Heap.size_push ..
  show _ ∧ _
  rw [hz]
  have he : IsEnum ((s.heap.push o).push { cls := .type "enumerate", data := .fields #[.none, .bool false, .ref s.heap.objs.size, rawInt 0, .none, .none] }) (s.heap.objs.size + 1) s.heap.objs.size 0 .none := by
    have := Heap.get?_push_size (s.heap.push o) (o := { cls := .type "enumerate", data := .fields #[.none, .bool false, .ref s.heap.objs.size, rawInt 0, .none, .none] }) rfl
    rw [hz] at this; exact this
  refine ⟨⟨_, he, rfl⟩, h _ he (Heap.get?_push_of_some _ (Heap.get?_push_size _ B.free)) (by rw [Heap.size_push, hz]) fun b o x => Heap.get?_push_of_some _ (Heap.get?_push_of_some _ x)⟩
end
/-- the tuple at a, each item in a new pair -/
def IteT (K : PySem.W.Frag) (a : Addr) : L2.It :=
  ⟨fun i H => ∃ (xs : List V) (x : V), SqT K H a xs ∧ xs[i]? = some x, fun i H v H' => ∃ T x, v = .ref T ∧ H T = none ∧ H' = upd H T (.tup [.int (i : Nat), x]) ∧ ∀ xs, SqT K H a xs → xs[i]? = some x, fun i H => ∃ xs : List V, SqT K H a xs ∧ xs.length = i⟩
theorem turn_enumT {P : Program} {w : World} {K : PySem.W.Frag} {elts : List Expr} {kk : Nat} {tpos : Pos} (a e it : Addr) :
    Turn P w K (.Tuple elts kk tpos) (IteT K a) [e, it] e (fun i h => (∃ old, IsEnum h e it ((i : Nat) : Int) old) ∧ h.IsTupleIter it a i ∧ e ≠ it ∧ a ≠ e ∧ a ≠ it) where
  mem := by simp
  obj := fun i h st b hb => by
    obtain ⟨⟨old, he⟩, ⟨o, ho, hc, hd⟩, _⟩ := st
    have e' : b = e ∨ b = it := by simpa using hb
    rcases e' with z | z
    · rw [z]; exact ⟨_, he, fun v q => nomatch q⟩
    · rw [z]; exact ⟨o, ho, fun v q => by rw [hd] at q; cases q⟩
  keep := fun i h h' st k => let ⟨⟨old, he⟩, hi, hne⟩ := st; ⟨⟨old, k e (by simp) _ he⟩, hi.at fun o q => k it (by simp) o q, hne⟩
  item := by
    intro X hP hw hK hc i pins s σ H E I hf st hg
    subst hP hw hK
    obtain ⟨⟨old, he⟩, hit, hne, hae, hai⟩ := st
    obtain ⟨xs, x, hq, hx⟩ := hg
    obtain ⟨its, rv, p, hz⟩ := I.tuple hq
    obtain ⟨u, hu, ru⟩ := rv.get hx
    have hel : e < s.heap.objs.size := Heap.lt_size he
    have hil : it < s.heap.objs.size := by obtain ⟨_, q, _⟩ := hit; exact Heap.lt_size q
    have D := Draws.tuple (prog := X.prog) (w := X.w) (A := X.A.in1) (I.ok.hd hc) it a hai its.toArray
    refine wpAny_pyNext_enum_itemD (n := its.toArray.size) D he ⟨hit, p⟩ ?_ hne (fun z => ?_) fun x' h' tk hx' ho hit' hT hsz hk => ?_
    · have := (List.getElem?_eq_some_iff.mp hu).1
      simpa using this
    · have z : e = it ∨ e = a := by simpa using z
      rcases z with z | z
      · exact hne z
      · exact hae z.symm
    have ex : x' = u := by
      have hx' : its.toArray[i]? = some x' := hx'
      rw [show its.toArray[i]? = some u by simpa using hu] at hx'
      exact (Option.some.inj hx').symm
    subst ex
    obtain ⟨hit', _⟩ := hit'
    refine ⟨_, rfl, wpAny_letOwnedTupleGo_enum (s := { s with heap := h', toks := tk + 1 }) ho fun h'' he' sb => ?_⟩
    have hT2 : h''.get? s.heap.objs.size = some { cls := .type "tuple", data := .seq #[.int i tk, x'] } := (sb.2 _ (Nat.ne_of_gt hel)).trans hT
    have new : ObjOk X.prog X.w (upd H s.heap.objs.size (.tup [.int (i : Nat), x])) h'' s.heap.objs.size (.tup [.int (i : Nat), x]) :=
      ⟨by show 2 ≤ sizeLine; decide, [.int i tk, x'], .cons ⟨_, rfl⟩ (.cons ru .nil), ⟨_, hT2, rfl, _, rfl⟩⟩
    have I1 : Inv X pins σ (upd H s.heap.objs.size (.tup [.int (i : Nat), x])) { s with heap := h'', toks := tk + 1 } :=
      I.turnedNew (ch := [e, it]) (fun b ob hb q => (sb.2 b (fun z => hb (by simp [z]))).trans (hk b ob (fun z => hb (by simp [z])) (fun z => hb (by simp [z])) q)) hf (Nat.le_refl _) new
    refine ⟨.ref s.heap.objs.size, _, I1, rfl, ⟨_, x, rfl, I.hok.fresh (Nat.le_refl _), rfl, fun ys hy => by rw [I.tuple_inj hy hq]; exact hx⟩, ⟨⟨x', ?_⟩, hit'.at fun o q => (sb.2 it (Ne.symm hne)).trans q, hne, hae, hai⟩, fun b hb => ?_⟩
    · have e1 : ((i + 1 : Nat) : Int) = (i : Int) + 1 := by omega
      rw [e1]; exact he'
    · have hb' : b < s.heap.objs.size := by
        have e' : b = e ∨ b = it := by simpa using hb
        rcases e' with z | z
        · rw [z]; exact hel
        · rw [z]; exact hil
      rw [upd_ne (Nat.ne_of_lt hb')]
      exact (hf b hb).1
  done := by
    intro X hP hw hK hc i pins s σ H E I hf st hg
    subst hP hw hK
    obtain ⟨⟨old, he⟩, hit, hne, hae, hai⟩ := st
    obtain ⟨xs, hq, hx⟩ := hg
    obtain ⟨its, rv, p, hz⟩ := I.tuple hq
    obtain ⟨f0, f1, f2, f3, f4, f5⟩ := hf it (by simp)
    have hl := rv.length
    have D := Draws.tuple (prog := X.prog) (w := X.w) (A := X.A.in1) (I.ok.hd hc) it a hai its.toArray
    refine wpAny_pyNext_enum_endD D he (by rw [show its.toArray.size = i by rw [List.size_toArray]; omega]; exact ⟨hit, p⟩) fun h' eb => ⟨rfl, I.turned (t' := s.toks) (fun b o hb q => eb b o hb q) f0 f1 f3 f4 f5⟩
  self := fun A i s Q E st h => let ⟨⟨_, he⟩, _⟩ := st; wpAny_pyIter_enum he h
section
variable {X : Cx}
def iEnumA (K : PySem.W.Frag) (ta : TA) : TI := fun σ H R => ta σ H fun vs H1 => ∃ a xs, vs = [.ref a] ∧ ((SqL K H1 a xs ∧ R (Ite K a) H1) ∨ (SqT K H1 a xs ∧ R (IteT K a) H1))
theorem pi_enumA {e : Expr} {ta : TA} {p pos tpos : Pos} {elts : List Expr} {kk : Nat} (hg : Gl X "enumerate") (hm : X.mg "enumerate" = none) (ha : PA X [e] ta) (hs : starEach [e] X.env = [(false, eval e X.env)] := by rfl) :
    PI X (.Tuple elts kk tpos) (.Call (.Name "enumerate" p) [e] [] pos) (iEnumA X.K ta) := by
  refine ⟨fun pins s σ H R I h => ?_⟩
  refine Call_ (ld_blt I hg hm boot_enumerate (PyProof.Rows.callWith_type1 (thn (ha.run pos pins s σ H _ I h) fun us s1 ⟨vs, H1, I1, r1, q1⟩ => ?_) hs rfl))
  obtain ⟨a, xs, ex, q⟩ := q1
  subst ex
  cases r1 with
  | cons r rr =>
    cases rr
    cases r
    have fok : ∀ b, b ∈ [s1.heap.objs.size + 1, s1.heap.objs.size] → FpOk X pins H1 b := fun b hb => by
      have e' : b = s1.heap.objs.size + 1 ∨ b = s1.heap.objs.size := by simpa using hb
      have hle : s1.heap.objs.size ≤ b := by
        rcases e' with z | z
        · rw [z]; exact Nat.le_add_right _ _
        · rw [z]; exact Nat.le_refl _
      exact I1.fpOk hle (I1.hok.fresh hle)
    rcases q with ⟨hq, q⟩ | ⟨hq, q⟩
    · obtain ⟨its, rv, p', hz⟩ := I1.list hq
      refine call_enumerate_list p'.isList fun h' he hit hsz hk => wpAny_pyIter_enum he ?_
      have I2 : Inv X pins σ H1 { s1 with heap := h' } := I1.kept (t' := s1.toks) hk
      exact ⟨s1.heap.objs.size + 1, [s1.heap.objs.size + 1, s1.heap.objs.size], _, _, H1, rfl, I2, turn_enum a (s1.heap.objs.size + 1) s1.heap.objs.size, ⟨⟨.none, he⟩, hit, Nat.succ_ne_self _⟩, fok, q⟩
    · obtain ⟨its, rv, p', hz⟩ := I1.tuple hq
      have ha : a < s1.heap.objs.size := by obtain ⟨o, ho, _⟩ := id p'; exact Heap.lt_size ho
      refine enum_begins1 (begins_tuple a its.toArray) p' fun h' he hit hsz hk => wpAny_pyIter_enum he ?_
      have I2 : Inv X pins σ H1 { s1 with heap := h' } := I1.kept (t' := s1.toks) hk
      exact ⟨s1.heap.objs.size + 1, [s1.heap.objs.size + 1, s1.heap.objs.size], _, _, H1, rfl, I2, turn_enumT a (s1.heap.objs.size + 1) s1.heap.objs.size, ⟨⟨.none, he⟩, ⟨_, hit, rfl, rfl⟩, Nat.succ_ne_self _, Nat.ne_of_lt (Nat.lt_succ_of_lt ha), Nat.ne_of_lt ha⟩, fok, q⟩
/-- a list or a tuple, walked -/
def iSeq (K : PySem.W.Frag) (tl : TE) : TI := fun σ H R => tl σ H fun x H1 => ∃ a xs, x = .ref a ∧ ((SqL K H1 a xs ∧ R (Itl K a) H1) ∨ (SqT K H1 a xs ∧ R (Itt K a) H1))
theorem pi_seq {tg l : Expr} {tl : TE} (hl : PE X l tl) : PI X tg l (iSeq X.K tl) := by
  refine ⟨fun pins s σ H R I h => ?_⟩
  refine thn (hl.run pins s σ H _ I h) fun v s1 ⟨x, H1, I1, r1, q1⟩ => ?_
  obtain ⟨a, xs, e, q⟩ := q1
  subst e
  cases r1
  have fok : ∀ b, b ∈ [s1.heap.objs.size] → FpOk X pins H1 b := fun b hb => by
    have e : b = s1.heap.objs.size := by simpa using hb
    subst e
    exact I1.fpOk (Nat.le_refl _) (I1.hok.fresh (Nat.le_refl _))
  rcases q with ⟨hq, q⟩ | ⟨hq, q⟩
  · obtain ⟨its, rv, p, hz⟩ := I1.list hq
    refine wpAny_pyIter_list p.isList ?_
    exact ⟨s1.heap.objs.size, [s1.heap.objs.size], _, _, H1, rfl, I1.kept (t' := s1.toks) fun b o e => Heap.get?_push_of_some _ e, turn_list a _, ⟨_, Heap.get?_push_size _ rfl, rfl, rfl⟩, fok, q⟩
  · obtain ⟨its, rv, p, hz⟩ := I1.tuple hq
    refine wpAny_pyIter_tuple (show s1.heap.IsTuple a its.toArray from p) ?_
    exact ⟨s1.heap.objs.size, [s1.heap.objs.size], _, _, H1, rfl, I1.kept (t' := s1.toks) fun b o e => Heap.get?_push_of_some _ e, turn_tuple a _, ⟨_, Heap.get?_push_size _ rfl, rfl, rfl⟩, fok, q⟩
end
end Sim
set_option Elab.async false
set_option linter.all false
set_option autoImplicit false
set_option maxRecDepth 100000
/-! Sim1h: expressions, one node each. -/
namespace Sim
open PySem PySem.Spec PyProof.Rows L2
theorem PE.imp {X : Cx} {e : Expr} {t t' : TE} (h : PE X e t) (k : ∀ σ H Q, t' σ H Q → t σ H Q) : PE X e t' := ⟨fun pins s σ H Q I hw => h.run pins s σ H Q I (k _ _ _ hw)⟩
theorem PT.imp {X : Cx} {e : Expr} {t t' : TT} (h : PT X e t) (k : ∀ σ H Q, t' σ H Q → t σ H Q) : PT X e t' := ⟨fun pins s σ H Q I hw => h.run pins s σ H Q I (k _ _ _ hw)⟩
theorem PW.imp {X : Cx} {e : Expr} {t t' : TT} (h : PW X e t) (k : ∀ σ H Q, t' σ H Q → t σ H Q) : PW X e t' := ⟨fun whole pins s σ H Q I hw => h.run whole pins s σ H Q I (k _ _ _ hw)⟩
theorem PA.imp {X : Cx} {e : List Expr} {t t' : TA} (h : PA X e t) (k : ∀ σ H Q, t' σ H Q → t σ H Q) : PA X e t' := ⟨fun pos pins s σ H Q I hw => h.run pos pins s σ H Q I (k _ _ _ hw)⟩
theorem PS.imp {X : Cx} {e : Stmt} {t t' : TS} (h : PS X e t) (k : ∀ D σ H, t' D σ H → t D σ H) : PS X e t' := ⟨fun pins s σ H Q I hw => h.run pins s σ H Q I (k _ _ _ hw)⟩
theorem PSs.imp {X : Cx} {e : List Stmt} {t t' : TS} (h : PSs X e t) (k : ∀ D σ H, t' D σ H → t D σ H) : PSs X e t' := ⟨fun pins s σ H Q I hw => h.run pins s σ H Q I (k _ _ _ hw)⟩
theorem PI.imp {X : Cx} {g e : Expr} {t t' : TI} (h : PI X g e t) (k : ∀ σ H R, t' σ H R → t σ H R) : PI X g e t' := ⟨fun pins s σ H Q I hw => h.run pins s σ H Q I (k _ _ _ hw)⟩
theorem bd_assoc {α β γ : Type} (m : M α) (f : α → M β) (g : β → M γ) : bd (bd m f) g = bd m fun a => bd (f a) g := by
  funext S
  unfold bd
  cases m S with
  | none => rfl
  | some p =>
    obtain ⟨r, S1⟩ := p
    cases r <;> rfl
theorem ok_bd {α β : Type} (a : α) (f : α → M β) : bd (ok a) f = f a := rfl
theorem stk_bd {α β : Type} (f : α → M β) : bd (stk : M α) f = stk := rfl
section
variable {K : PySem.W.Frag} {G : Wd} {CL : CLT} {W : WX} {α β ν ξ : Type} {RR : RRT α ν} {RR' : RRT β ξ} {σ : St} {H : Hp}
theorem LG.imp {f : Loc → M α} {Q Q' : ν → Hp → Prop} (h : LG K G CL RR W f σ H Q) (k : ∀ v H', Q v H' → Q' v H') : LG K G CL RR W f σ H Q' := by
  obtain ⟨μ, L, S, R, RL, h⟩ := h
  exact ⟨μ, L, S, R, RL, h.imp k⟩
theorem LG.bd {f : Loc → M α} {g : Loc → α → M β} {Q : ξ → Hp → Prop} (h : LG K G CL RR' W (fun L => bd (f L) (g L)) σ H Q) :
    LG K G CL RR W f σ H fun v H1 => ∃ μ1 S1 L a, RelG K G CLF μ1 S1 H1 ∧ RepL K CL μ1 H1 L σ ∧ RR μ1 H1 a v ∧ LA K G CLF RR' W μ1 S1 (g L a) σ H1 Q := by
  obtain ⟨μ, L, S, R, RL, h⟩ := h
  exact ⟨μ, L, S, R, RL, h.bd.imp fun v H1 ⟨μ1, S1, a, s, R1, rr, h1⟩ => ⟨μ1, S1, L, a, R1, RL.step s, rr, h1⟩⟩
/-- one that was made earlier -/
theorem LA.lg {μ : List Addr} {S : Store} {L : Loc} {f : Loc → M α} {Q : ν → Hp → Prop} (h : LA K G CLF RR W μ S (f L) σ H Q) (R : RelG K G CLF μ S H) (RL : RepL K CL μ H L σ) : LG K G CL RR W f σ H Q := ⟨μ, L, S, R, RL, h⟩
/-- two, one after the other, and an operation that does not raise -/
theorem LG.two {f1 f2 : Loc → M D} {o : D → D → M D} {Q : VK} (hv : ∀ a b S S' r, o a b S = some (r, S') → ∃ d, r = Ex.val d) (h : LE K G CL W (fun L => Sim.bd (f1 L) fun x => Sim.bd (f2 L) fun y => o x y) σ H Q) :
    tOp (r2 K G CLF o) (LE K G CL W f1) (LE K G CL W f2) σ H Q := by
  refine (LG.bd (RR := rrD K CLF) h).imp fun x H1 ⟨μ1, S1, L, a, R1, RL1, ra, h1⟩ => ?_
  refine LA.lg (f := f2) (h1.bd.imp fun y H2 ⟨μ2, S2, b, s2, R2, rb, h2⟩ => ?_) R1 RL1
  exact ⟨μ2, S2, a, b, R2, ra.step s2, rb, h2.lv fun r S' e => hv a b S2 S' r e⟩
theorem LG.one {f1 : Loc → M D} {o : D → M D} {Q : VK} (hv : ∀ a S S' r, o a S = some (r, S') → ∃ d, r = Ex.val d) (h : LE K G CL W (fun L => Sim.bd (f1 L) o) σ H Q) :
    LE K G CL W f1 σ H fun x H1 => r1 K G CLF o x H1 Q :=
  (LG.bd (RR := rrD K CLF) h).imp fun x H1 ⟨μ1, S1, L, a, R1, RL1, ra, h1⟩ => ⟨μ1, S1, a, R1, ra, h1.lv fun r S' e => hv a S1 S' r e⟩
end
section
variable {X : Cx} {G : Wd} {CL : CLT} {W : WX} {a b c : Expr} {fa fb fc : Loc → M D} {pos : Pos}
theorem sim_var {i : Nat} {x : Str} (hN : X.N[i]? = some x) (hv : Vis X.env.scope x) (hd : (x == ("__debug__" : Str)) = false) (hcd : (x == ("__classdict__" : Str)) = false) : PE X (.Name x pos) (LE X.K G CL W fun L => ofO (getV L i)) :=
  PE.imp (pe_var hN hv hd hcd) fun σ H Q h => by
    obtain ⟨μ, L, S, R, RL, h⟩ := h
    obtain ⟨d, e, h⟩ := h.ofO
    have e' : getL L i = some d ∧ ∀ f j cs, d ≠ .clo f j cs := by
      unfold getV at e
      cases q : getL L i with
      | none => rw [q] at e; cases e
      | some y =>
        rw [q] at e
        cases y with
        | clo f j cs => cases e
        | _ => (cases e; exact ⟨rfl, fun _ _ _ z => by cases z⟩)
    obtain ⟨v, h1, h2⟩ := RL.get e'.1
    cases h2 with
    | val r => exact ⟨v, h1, h.ok R r⟩
    | clo _ _ _ => exact (e'.2 _ _ _ rfl).elim
/-- a value that needs nothing -/
theorem sim_const {e : Expr} {d : D} {v : V} (h : PE X e (tC v)) (hr : ∀ μ H, Rep X.K CLF μ H d v) : PE X e (LE X.K G CL W fun _ => Sim.ok d) :=
  PE.imp h fun σ H Q ⟨μ, L, S, R, RL, h⟩ => h.ok R (hr _ _)
theorem sim_bin {op : BOp} {o : Operator} (ho : bopOf op = some o) (ha : PE X a (LE X.K G CL W fa)) (hb : PE X b (LE X.K G CL W fb)) : PE X (.BinOp a o b pos) (LE X.K G CL W fun L => bd (fa L) fun x => bd (fb L) fun y => binD op x y) :=
  PE.imp (pe_op (opr_bin (G := G) (CL := CLF) ho) ha hb) fun σ H Q h => h.two fun _ _ _ _ _ e => binD_val e
theorem sim_neg (ha : PE X a (LE X.K G CL W fa)) : PE X (.UnaryOp .USub a pos) (LE X.K G CL W fun L => bd (fa L) (unD .neg)) :=
  PE.imp (pe_un (unr_neg (G := G) (CL := CLF)) ha) fun σ H Q h => h.one fun _ _ _ _ e => unD_val e
theorem sim_cmp (hu : X.A.units + 64 < cLine) {op : COp} (hm : behindInMarks (copOf op) b = false) (ha : PE X a (LE X.K G CL W fa)) (hb : PE X b (LE X.K G CL W fb)) : PE X (.Compare a [copOf op] [b] pos) (LE X.K G CL W fun L => bd (fa L) fun x => bd (fb L) fun y => cmpD op x y) :=
  PE.imp (pe_cmpR (opr_cmp (G := G) (CL := CLF) hu op) ha hb hm) fun σ H Q h => h.two fun _ _ _ _ _ e => cmpD_val e
theorem mapV {α : Type} {S S' : Store} {o : Option α} {f : α → D} {r : Ex D} (h : o.map (fun a => ((Ex.val (f a) : Ex D), S)) = some (r, S')) : ∃ d, r = .val d := by
  cases o with
  | none => cases h
  | some a => cases h; exact ⟨_, rfl⟩
theorem subD_val {a b : D} {S S' : Store} {r : Ex D} (h : subD a b S = some (r, S')) : ∃ d, r = .val d := by
  unfold subD at h
  repeat' split at h
  all_goals first | exact mapV h | cases h
theorem sim_sub (hu : X.A.units + 1 < cLine) (hs : PlainIx b) (ha : PE X a (LE X.K G CL W fa)) (hb : PE X b (LE X.K G CL W fb)) : PE X (.Subscript a b pos) (LE X.K G CL W fun L => bd (fa L) fun x => bd (fb L) fun y => subD x y) :=
  PE.imp (pe_ix (ixr_D (G := G) (CL := CLF) hu) ha hb hs) fun σ H Q h => h.two fun _ _ _ _ _ e => subD_val e
theorem slD_val {a : D} {lo hi : Option Int} {S S' : Store} {r : Ex D} (h : slD a lo hi S = some (r, S')) : ∃ d, r = .val d := by
  unfold slD at h
  repeat' split at h
  all_goals first | (cases h; exact ⟨_, rfl⟩) | cases h
theorem sim_slU {p2 : Pos} (ha : PE X a (LE X.K G CL W fa)) (hb : PE X b (LE X.K G CL W fb)) : PE X (.Subscript a (.Slice none (some b) none p2) pos) (LE X.K G CL W fun L => bd (fa L) fun x => bd (fb L) fun y => slU x y) :=
  PE.imp (pe_slice (slr_D (G := G) (CL := CLF)) ha po_none (po_some hb)) fun σ H Q h => by
    refine (LG.bd (RR := rrD X.K CLF) h).imp fun x H1 ⟨μ1, S1, L, d, R1, RL1, ra, h1⟩ => ?_
    refine (LA.lg (f := fb) (h1.bd.imp fun y H2 ⟨μ2, S2, e, s2, R2, rb, h2⟩ => ?_) R1 RL1 : LE X.K G CL W fb σ H1 _)
    cases rb with
    | int j => exact ⟨j, rfl, μ2, S2, d, R2, ra.step s2, h2.lv fun r S' q => slD_val q⟩
    | _ => exact h2.stk.elim
theorem sim_slL {p2 : Pos} (ha : PE X a (LE X.K G CL W fa)) (hb : PE X b (LE X.K G CL W fb)) : PE X (.Subscript a (.Slice (some b) none none p2) pos) (LE X.K G CL W fun L => bd (fa L) fun x => bd (fb L) fun y => slL x y) :=
  PE.imp (pe_slice (slr_D (G := G) (CL := CLF)) ha (po_some hb) po_none) fun σ H Q h => by
    refine (LG.bd (RR := rrD X.K CLF) h).imp fun x H1 ⟨μ1, S1, L, d, R1, RL1, ra, h1⟩ => ?_
    refine (LA.lg (f := fb) (h1.bd.imp fun y H2 ⟨μ2, S2, e, s2, R2, rb, h2⟩ => ?_) R1 RL1 : LE X.K G CL W fb σ H1 _)
    cases rb with
    | int j => exact ⟨j, rfl, μ2, S2, d, R2, ra.step s2, h2.lv fun r S' q => slD_val q⟩
    | _ => exact h2.stk.elim
theorem sim_slB {p2 : Pos} (ha : PE X a (LE X.K G CL W fa)) (hb : PE X b (LE X.K G CL W fb)) (hc : PE X c (LE X.K G CL W fc)) : PE X (.Subscript a (.Slice (some b) (some c) none p2) pos) (LE X.K G CL W fun L => bd (fa L) fun x => bd (fb L) fun y => bd (intM y) fun i => bd (fc L) fun z => slB x i z) :=
  PE.imp (pe_slice (slr_D (G := G) (CL := CLF)) ha (po_some hb) (po_some hc)) fun σ H Q h => by
    refine (LG.bd (RR := rrD X.K CLF) h).imp fun x H1 ⟨μ1, S1, L, d, R1, RL1, ra, h1⟩ => ?_
    refine (LA.lg (f := fb) (h1.bd.imp fun y H2 ⟨μ2, S2, e, s2, R2, rb, h2⟩ => ?_) R1 RL1 : LE X.K G CL W fb σ H1 _)
    cases rb with
    | int i =>
      refine ⟨i, rfl, (LA.lg (f := fc) (LA.imp (LA.bd (RR := rrD X.K CLF) (m := fc L) (f := fun z => slB d i z) h2) fun z H3 ⟨μ3, S3, e3, s3, R3, rc, h3⟩ => ?_) R2 (RL1.step s2) : LE X.K G CL W fc σ H2 _)⟩
      cases rc with
      | int j => exact ⟨j, rfl, μ3, S3, d, R3, (ra.step s2).step s3, h3.lv fun r S' q => slD_val q⟩
      | _ => exact h3.stk.elim
    | _ => exact (LA.stk h2).elim
theorem sim_ite {c a b : Expr} {fc : Loc → M Bool} (hc : PT X c (LT' X.K G CL W fc)) (ha : PE X a (LE X.K G CL W fa)) (hb : PE X b (LE X.K G CL W fb)) : PE X (.IfExp c a b pos) (LE X.K G CL W fun L => bd (fc L) fun t => if t = true then fa L else fb L) :=
  PE.imp (pe_ifExp hc ha hb) fun σ H Q h => by
    refine (LG.bd (RR := rrB) h).imp fun t H1 ⟨μ1, S1, L, d, R1, RL1, e, h1⟩ => ?_
    have e : d = t := e
    subst e
    cases d with
    | true => exact LA.lg (f := fa) h1 R1 RL1
    | false => exact LA.lg (f := fb) h1 R1 RL1
theorem tru_val {d : D} {S S' : Store} {r : Ex Bool} (h : tru d S = some (r, S')) : ∃ b, r = .val b ∧ truD S d = some b ∧ S' = S := by
  unfold tru at h
  cases e : truD S d with
  | none => rw [e] at h; cases h
  | some b => rw [e] at h; cases h; exact ⟨b, rfl, rfl, rfl⟩
/-- a value's truth -/
theorem LA.tru {μ : List Addr} {S : Store} {σ : St} {H : Hp} {d : D} {x : V} {β ξ : Type} {RR : RRT β ξ} {g : Bool → M β} {Q : ξ → Hp → Prop} (h : LA X.K G CLF RR W μ S (Sim.bd (Sim.tru d) g) σ H Q) (R : RelG X.K G CLF μ S H) (r : Rep X.K CLF μ H d x) :
    ∃ k, TruV X.K x H k ∧ truD S d = some k ∧ LA X.K G CLF RR W μ S (g k) σ H Q := by
  cases e : truD S d with
  | none =>
    obtain ⟨r', S', e', _⟩ := h
    unfold Sim.bd Sim.tru at e'
    rw [e] at e'
    cases e'
  | some k =>
    refine ⟨k, tru_V R r e, rfl, ?_⟩
    obtain ⟨r', S', e', h⟩ := h
    unfold Sim.bd Sim.tru at e'
    rw [e] at e'
    exact ⟨r', S', e', h⟩
theorem sim_truth (he : ∀ whole, isTrue a X.env whole = (do let v ← whole; standAt a.pos; holding [v] (truthy v))) (ha : PE X a (LE X.K G CL W fa)) : PT X a (LT' X.K G CL W fun L => bd (fa L) tru) :=
  PT.imp (pt_truth ha he) fun σ H Q h => by
    refine (LG.bd (RR := rrD X.K CLF) h).imp fun x H1 ⟨μ1, S1, L, d, R1, RL1, ra, h1⟩ => ?_
    have h1 : LA X.K G CLF rrB W μ1 S1 (bd (tru d) Sim.ok) σ H1 Q := by
      have e : bd (tru d) Sim.ok = tru d := by
        funext S
        unfold Sim.bd
        cases q : tru d S with
        | none => rfl
        | some p =>
          obtain ⟨r, S'⟩ := p
          obtain ⟨b, rfl, _, rfl⟩ := tru_val q
          rfl
      rw [e]
      exact h1
    obtain ⟨k, tk, _, h2⟩ := h1.tru R1 ra
    exact ⟨k, tk, h2.ok R1 rfl⟩
theorem sim_not (ha : PE X a (LE X.K G CL W fa)) : PE X (.UnaryOp .Not a pos) (LE X.K G CL W fun L => bd (fa L) fun x => bd (tru x) fun b => Sim.ok (.bl (!b))) :=
  PE.imp (pe_notT ha) fun σ H Q h => by
    refine (LG.bd (RR := rrD X.K CLF) h).imp fun x H1 ⟨μ1, S1, L, d, R1, RL1, ra, h1⟩ => ?_
    obtain ⟨k, tk, _, h2⟩ := h1.tru R1 ra
    exact ⟨k, tk, h2.ok R1 (.bl _)⟩
theorem sim_and {rest : List Expr} (ha : PE X a (LE X.K G CL W fa)) (hb : PE X (.BoolOp .And (b :: rest) pos) (LE X.K G CL W fb)) : PE X (.BoolOp .And (a :: b :: rest) pos) (LE X.K G CL W fun L => bd (fa L) fun x => bd (tru x) fun b => if b = true then fb L else Sim.ok x) :=
  PE.imp (pe_andT ha hb) fun σ H Q h => by
    refine (LG.bd (RR := rrD X.K CLF) h).imp fun x H1 ⟨μ1, S1, L, d, R1, RL1, ra, h1⟩ => ?_
    obtain ⟨k, tk, _, h2⟩ := h1.tru R1 ra
    refine ⟨k, tk, ?_⟩
    cases k with
    | true => exact LA.lg (f := fb) h2 R1 RL1
    | false => exact h2.ok R1 ra
theorem sim_or {rest : List Expr} (ha : PE X a (LE X.K G CL W fa)) (hb : PE X (.BoolOp .Or (b :: rest) pos) (LE X.K G CL W fb)) : PE X (.BoolOp .Or (a :: b :: rest) pos) (LE X.K G CL W fun L => bd (fa L) fun x => bd (tru x) fun b => if b = true then Sim.ok x else fb L) :=
  PE.imp (pe_orT ha hb) fun σ H Q h => by
    refine (LG.bd (RR := rrD X.K CLF) h).imp fun x H1 ⟨μ1, S1, L, d, R1, RL1, ra, h1⟩ => ?_
    obtain ⟨k, tk, _, h2⟩ := h1.tru R1 ra
    refine ⟨k, tk, ?_⟩
    cases k with
    | true => exact h2.ok R1 ra
    | false => exact LA.lg (f := fb) h2 R1 RL1
/-! ### tests -/
theorem pt_notS (ha : PT X a (LT' X.K G CL W fun L => bd (fa L) tru)) : PT X (.UnaryOp .Not a pos) (LT' X.K G CL W fun L => bd (bd (fa L) fun x => bd (tru x) fun b => Sim.ok (.bl (!b))) tru) :=
  PT.imp (pt_not ha) fun σ H Q h => by
    obtain ⟨μ, L, S, R, RL, h⟩ := h
    dsimp only at h
    rw [bd_assoc] at h
    refine ⟨μ, L, S, R, RL, ?_⟩
    have e : (bd (fa L) fun x => bd (bd (tru x) fun b => Sim.ok (.bl (!b))) tru) = bd (bd (fa L) tru) fun b => Sim.ok (!b) := by
      rw [bd_assoc]
      congr 1
      funext x
      rw [bd_assoc]
      rfl
    rw [e] at h
    exact h.bd.imp fun k H1 ⟨μ1, S1, b, s1, R1, e1, h1⟩ => by
      have e1 : b = k := e1
      subst e1
      exact h1.ok R1 rfl
theorem tru_again {d : D} {f : Bool → M D} (hf : ∀ S b S' x, truD S d = some b → f b S = some (.val x, S') → True) : True := trivial
theorem pw_andS {rest : List Expr} (ha : PT X a (LT' X.K G CL W fun L => bd (fa L) tru)) (hb : PW X (.BoolOp .And (b :: rest) pos) (LT' X.K G CL W fun L => bd (fb L) tru)) :
    PW X (.BoolOp .And (a :: b :: rest) pos) (LT' X.K G CL W fun L => bd (bd (fa L) fun x => bd (tru x) fun b => if b = true then fb L else Sim.ok x) tru) :=
  PW.imp (pw_and ha hb) fun σ H Q h => by
    obtain ⟨μ, L, S, R, RL, h⟩ := h
    have e : (bd (bd (fa L) fun x => bd (tru x) fun b => if b = true then fb L else Sim.ok x) tru) = bd (bd (fa L) tru) fun b => if b = true then bd (fb L) tru else Sim.ok false := by
      rw [bd_assoc, bd_assoc]
      congr 1
      funext x
      rw [bd_assoc]
      funext S
      unfold Sim.bd
      cases q : tru x S with
      | none => rfl
      | some p =>
        obtain ⟨r, S'⟩ := p
        obtain ⟨b, rfl, e1, rfl⟩ := tru_val q
        cases b with
        | true => rfl
        | false =>
          show (match (Sim.ok x : M D) S' with | some (.val a, S1) => Sim.tru a S1 | some (.exc x, S1) => some (.exc x, S1) | none => none) = _
          show Sim.tru x S' = _
          rw [q]
          rfl
    dsimp only at h
    rw [e] at h
    refine ⟨μ, L, S, R, RL, h.bd.imp fun k H1 ⟨μ1, S1, b, s1, R1, e1, h1⟩ => ?_⟩
    have e1 : b = k := e1
    subst e1
    cases b with
    | true => exact LA.lg (f := fun L => bd (fb L) Sim.tru) h1 R1 (RL.step s1)
    | false => exact h1.ok R1 rfl
theorem pw_orS {rest : List Expr} (ha : PT X a (LT' X.K G CL W fun L => bd (fa L) tru)) (hb : PW X (.BoolOp .Or (b :: rest) pos) (LT' X.K G CL W fun L => bd (fb L) tru)) :
    PW X (.BoolOp .Or (a :: b :: rest) pos) (LT' X.K G CL W fun L => bd (bd (fa L) fun x => bd (tru x) fun b => if b = true then Sim.ok x else fb L) tru) :=
  PW.imp (pw_or ha hb) fun σ H Q h => by
    obtain ⟨μ, L, S, R, RL, h⟩ := h
    have e : (bd (bd (fa L) fun x => bd (tru x) fun b => if b = true then Sim.ok x else fb L) tru) = bd (bd (fa L) tru) fun b => if b = true then Sim.ok true else bd (fb L) tru := by
      rw [bd_assoc, bd_assoc]
      congr 1
      funext x
      rw [bd_assoc]
      funext S
      unfold Sim.bd
      cases q : tru x S with
      | none => rfl
      | some p =>
        obtain ⟨r, S'⟩ := p
        obtain ⟨b, rfl, e1, rfl⟩ := tru_val q
        cases b with
        | false => rfl
        | true =>
          show Sim.tru x S' = _
          rw [q]
          rfl
    dsimp only at h
    rw [e] at h
    refine ⟨μ, L, S, R, RL, h.bd.imp fun k H1 ⟨μ1, S1, b, s1, R1, e1, h1⟩ => ?_⟩
    have e1 : b = k := e1
    subst e1
    cases b with
    | false => exact LA.lg (f := fun L => bd (fb L) Sim.tru) h1 R1 (RL.step s1)
    | true => exact h1.ok R1 rfl
theorem sim_ptcmp (hu : X.A.units + 64 < cLine) {op : COp} (hm : behindInMarks (copOf op) b = false) (ha : PE X a (LE X.K G CL W fa)) (hb : PE X b (LE X.K G CL W fb)) : PT X (.Compare a [copOf op] [b] pos) (LT' X.K G CL W fun L => bd (bd (fa L) fun x => bd (fb L) fun y => cmpD op x y) tru) :=
  PT.imp (pt_cmpR (opr_cmp (G := G) (CL := CLF) hu op) ha hb hm) fun σ H Q h => by
    obtain ⟨μ, L, S, R, RL, h⟩ := h
    dsimp only at h
    rw [bd_assoc] at h
    refine ⟨μ, L, S, R, RL, h.bd.imp fun x H1 ⟨μ1, S1, p, s1, R1, ra, h1⟩ => ?_⟩
    rw [bd_assoc] at h1
    refine LA.lg (f := fb) (h1.bd.imp fun y H2 ⟨μ2, S2, q, s2, R2, rb, h2⟩ => ?_) R1 (RL.step s1)
    refine ⟨μ2, S2, p, q, R2, ra.step s2, rb, ?_⟩
    obtain ⟨r, S', e, h3⟩ := h2
    cases ec : cmpO op p q S2 with
    | none => unfold Sim.bd at e; rw [cmpD_eq, ec] at e; cases e
    | some k =>
      have e2 : Sim.bd (cmpD op p q) Sim.tru S2 = some (.val k, S2) := by
        unfold Sim.bd
        rw [cmpD_eq, ec]
        rfl
      rw [e2] at e
      cases e
      refine ⟨.bl k, S2, by rw [cmpD_eq, ec]; rfl, fun μ' H' v st R' rv => ?_⟩
      cases rv
      exact ⟨k, rfl, h3 μ' H' k st R' rfl⟩
end
end Sim
set_option Elab.async false
set_option linter.all false
set_option autoImplicit false
set_option maxRecDepth 100000
/-! Sim2f: a tuple turned about. -/
namespace Sim
open PySem PySem.Spec PyProof.Rows L2
section
variable {prog : Program} {w : World} {A : Around} {E : Value → Shared → Prop} {s : Shared}
theorem applied_rev {sl : Addr} {vl vu vs : Value} {n : Nat} {Q : Int × Int × Nat → Shared → Prop} (hs : s.heap.IsSliceOf sl vl vu vs) (pl : IsPart vl none) (pu : IsPart vu none) (ps : IsPart vs (some (-1)))
    (h : Q ((n : Int) - 1, -1, n) s) : wpAny (model prog w) A (Builtin.Slice.sliceApplied (.ref sl) (pure (n : Int))) Q E s := by
  obtain ⟨os, hos, hcs, hds⟩ := id hs
  unfold Builtin.Slice.sliceApplied Builtin.Slice.sliceFields
  refine wpAny_bind (wpAny_bind (wpAny_field hos hds (x := vl) rfl (wpAny_bind (wpAny_field hos hds (x := vu) rfl (wpAny_bind (wpAny_field hos hds (x := vs) rfl (wpAny_pure ?_)))))))
  refine wpAny_bind (HT.slicePart_ ps ?_)
  show wpAny _ _ (if ((-1 : Int) == 0) = true then _ else _) _ _ s
  rw [if_neg (by decide)]
  refine wpAny_bind (HT.slicePart_ pl (wpAny_bind (HT.slicePart_ pu (wpAny_bind (wpAny_pure ?_)))))
  have e : Builtin.Slice.sliceAdjust none none (-1) (n : Int) = ((n : Int) - 1, -1) := by
    unfold Builtin.Slice.sliceAdjust
    simp
  show wpAny _ _ (match Builtin.Slice.sliceAdjust none none (-1) (n : Int) with | (lo, hi) => pure (lo, (-1 : Int), Builtin.Slice.slicePlaces lo hi (-1))) _ _ s
  rw [e]
  show wpAny _ _ (pure ((n : Int) - 1, (-1 : Int), Builtin.Slice.slicePlaces ((n : Int) - 1) (-1) (-1))) _ _ s
  have e2 : Builtin.Slice.slicePlaces ((n : Int) - 1) (-1) (-1) = n := by
    unfold Builtin.Slice.slicePlaces
    simp
    split <;> omega
  rw [e2]
  exact wpAny_pure h
theorem pick_rev (xs : Array Value) : ((List.range xs.size).filterMap fun (m : Nat) => xs[(((xs.size : Int) - 1) + (m : Int) * (-1)).toNat]?).toArray = xs.toList.reverse.toArray := by
  have e : (fun (m : Nat) => xs[(((xs.size : Int) - 1) + (m : Int) * (-1)).toNat]?) = fun (m : Nat) => xs[(((xs.size : Int) - 1) - (m : Int)).toNat]? := by
    funext m
    have : (((xs.size : Int) - 1) + (m : Int) * (-1)).toNat = (((xs.size : Int) - 1) - (m : Int)).toNat := by omega
    rw [this]
  rw [e]
  have h := PySem.W.krv_range xs.size
  have e3 : (List.range xs.size).filterMap (fun (m : Nat) => xs[(((xs.size : Int) - 1) - (m : Int)).toNat]?) = ((List.range xs.size).map fun k => xs.size - 1 - k).filterMap (xs[·]?) := by
    rw [List.filterMap_map]
    have cong : ∀ {α β : Type} {f g : α → Option β} (l : List α), (∀ x ∈ l, f x = g x) → l.filterMap f = l.filterMap g := by
      intro α β f g l
      induction l with
      | nil => intro _; rfl
      | cons x l ih => intro h; rw [List.filterMap_cons, List.filterMap_cons, h x (List.mem_cons_self ..), ih fun y hy => h y (List.mem_cons_of_mem _ hy)]
    apply cong
    intro k hk
    have := List.mem_range.mp hk
    have e4 : (((xs.size : Int) - 1) - (k : Int)).toNat = xs.size - 1 - k := by omega
    show xs[(((xs.size : Int) - 1) - (k : Int)).toNat]? = xs[xs.size - 1 - k]?
    rw [e4]
  rw [e3, h, List.filterMap_reverse, PySem.W.krv_all]
theorem getItem_tuple_rev {t sl : Addr} {items : Array Value} {vl vu vs : Value} {Q : Value → Shared → Prop} (ht : IsTup s.heap t items) (hs : s.heap.IsSliceOf sl vl vu vs) (pl : IsPart vl none) (pu : IsPart vu none) (ps : IsPart vs (some (-1)))
    (h : Q (.ref s.heap.objs.size) { s with heap := s.heap.push { cls := .type "tuple", data := .seq items.toList.reverse.toArray } })
    (hsz : items.size ≤ sizeLine) : wpAny (model prog w) A (getItem (.ref t) (.ref sl)) Q E s := by
  have htake : sizeOk (.seq items.toList.reverse.toArray) := by
    show items.toList.reverse.toArray.size ≤ sizeLine
    rw [List.size_toArray, List.length_reverse, Array.length_toList]
    omega
  obtain ⟨os, hos, hcs, hds⟩ := id hs
  have hTs : s.TypeIs (.ref sl) "slice" := ⟨os, hos, hcs⟩
  unfold getItem
  try with_reducible refine wpAny_holding ?_
  first | refine wpAny_bind (wpAny_pure ?_) | skip
  refine wpAny_bind (wpAny_sequenceKey ht.typeIs (by decide) ?_)
  refine wpAny_bind (wpAny_callSpecial?_slot (name := Str.ofString "__getitem__") ht.typeIs PyProof.Rows.slot_tuple_getitem
    (wpAny_call_entry PyProof.Rows.slot_tuple_getitem ht.typeIs entry_tuple_getitem ?_ (args_tuple_getitem _ _)))
  show wpAny _ _ (Builtin.Tuple.tupleItemsOf (.ref t) >>= _) _ _ s
  refine wpAny_bind (tupleItemsOf_ ht ?_)
  refine wpAny_bind (wpAny_typeOf hTs ?_)
  rw [if_pos (by decide)]
  refine wpAny_bind (applied_rev hs pl pu ps ?_)
  have hno : ¬ ((((items.size : Int) - 1) == 0 && (-1 : Int) == 1 && items.size == items.size) = true) := by
    intro q
    rw [Bool.and_eq_true, Bool.and_eq_true] at q
    have := q.1.2
    revert this; decide
  show wpAny _ _ (if (((items.size : Int) - 1) == 0 && (-1 : Int) == 1 && items.size == items.size) = true then _ else _) _ _ s
  rw [if_neg hno, pick_rev]
  first
    | exact wpAny_bind (m := Builtin.Tuple.tupleExact _) (wpAny_newObj_type (wpAny_pure ⟨_, rfl, wpAny_pure h⟩) htake)
    | exact wpAny_bind (m := Builtin.Tuple.tupleExact _) (wpAny_newObj_type (wpAny_bind (wpAny_pure (wpAny_pure ⟨_, rfl, wpAny_pure h⟩))) htake)
    | exact wpAny_bind (wpAny_bind (m := Builtin.Tuple.tupleExact _) (wpAny_newObj_type (wpAny_pure (wpAny_pure ⟨_, rfl, wpAny_pure h⟩)) htake))
    | exact wpAny_bind (wpAny_bind (m := Builtin.Tuple.tupleExact _) (wpAny_newObj_type (wpAny_pure ⟨_, rfl, wpAny_pure h⟩) htake))
end
def tRevT (K : PySem.W.Frag) (te : TE) : TE := fun σ H Q => te σ H fun x H1 => ∃ a xs, x = .ref a ∧ SqT K H1 a xs ∧ ∀ p, H1 p = none → Q (.ref p) (upd H1 p (.tup xs.reverse))
theorem pe_revT {X : Cx} {e : Expr} {te : TE} {k : Nat} {p1 p2 p3 pos : Pos} (he : PE X e te) : PE X (.Subscript e (.Slice none none (some (.UnaryOp .USub (.Constant (.int 1) k p1) p2)) p3) pos) (tRevT X.K te) := by
  refine ⟨fun pins s σ H Q I h => ?_⟩
  refine Subscript_ (thn (he.run pins s σ H _ I h) fun v s1 ⟨x, H1, I1, r1, q1⟩ => ?_)
  obtain ⟨a, xs, ex, hx, q⟩ := q1
  subst ex
  cases r1
  have hst : PO X (some (.UnaryOp .USub (.Constant (.int 1) k p1) p2)) (tPart (tUn (rU fun i => .int (-i)) (tC (.int 1)))) := po_some (pe_un un_neg pe_int)
  refine wpAny_Slice (thn (po_none.run pins s1 σ H1 (fun o H2 => o = none ∧ H2 = H1) I1 ⟨rfl, rfl⟩) fun vl s2 ⟨l, H2, I2, pl, el, e2⟩ => ?_)
  subst el e2
  refine thn (po_none.run pins s2 σ H2 (fun o H3 => o = none ∧ H3 = H2) I2 ⟨rfl, rfl⟩) fun vu s3 ⟨u, H3, I3, pu, eu, e3⟩ => ?_
  subst eu e3
  refine thn (hst.run pins s3 σ H3 (fun o H4 => o = some (-1) ∧ H4 = H3) I3 ⟨1, rfl, -1, rfl, rfl, rfl⟩) fun vs s4 ⟨o, H4, I4, ps, eo, e4⟩ => ?_
  subst eo e4
  have I5 : Inv X pins σ H4 { s4 with heap := s4.heap.push { cls := .type "slice", data := .fields #[vl, vu, vs] } } := I4.kept (t' := s4.toks) fun b ob q => Heap.get?_push_of_some _ q
  obtain ⟨its, r, ht, hz⟩ := I5.tuple hx
  have hlen := r.length
  show wpAny (model X.prog X.w) X.A (subscriptTail e (.Slice none none (some (.UnaryOp .USub (.Constant (.int 1) k p1) p2)) p3) (.ref a) (.ref s4.heap.objs.size)) (EP X pins σ Q) X.xe { s4 with heap := s4.heap.push { cls := .type "slice", data := .fields #[vl, vu, vs] } }
  refine tail_any (ops := [.ref a, .ref s4.heap.objs.size]) ht.typeIs (PyProof.Rows.slot_tuple_getitem.lookup) ?_ (by with_unfolding_all rfl)
  refine getItem_tuple_rev ht (Heap.IsSliceOf.new _ vl vu vs) pl pu ps ?_ (by rw [List.size_toArray]; omega)
  refine ⟨.ref _, _, I5.laid (t' := s4.toks) (o := .tup xs.reverse) (fun b ob q => Heap.get?_push_of_some _ q) (Nat.le_refl _) ?_, rfl, q _ (I5.hok.fresh (Nat.le_refl _))⟩
  exact ⟨by rw [List.length_reverse]; exact hz, _, r.reverse, ⟨_, Heap.get?_push_size _ rfl, rfl, _, rfl⟩⟩
theorem Reps.reverse {K : PySem.W.Frag} {CL : CLT} {μ : List Addr} {H : Hp} {ds : List D} {xs : List V} (h : Reps K CL μ H ds xs) : Reps K CL μ H ds.reverse xs.reverse := by
  have key : ∀ {ds : List D} {xs : List V} {es : List D} {ys : List V}, Reps K CL μ H ds xs → Reps K CL μ H es ys → Reps K CL μ H (ds.reverse ++ es) (xs.reverse ++ ys) := by
    intro ds
    induction ds with
    | nil => intro xs es ys h h2; cases h; exact h2
    | cons d ds ih =>
      intro xs es ys h h2
      cases h with
      | cons r rs =>
        rw [List.reverse_cons, List.reverse_cons, List.append_assoc, List.append_assoc]
        exact ih rs (.cons r h2)
  have := key h .nil
  simpa using this
theorem revD_val {a : D} {S S' : Store} {r : Ex D} (h : revD a S = some (r, S')) : ∃ d, r = .val d := by
  cases a <;> first | (cases h; exact ⟨_, rfl⟩) | cases h
theorem sim_rev {X : Cx} {G : Wd} {CL : CLT} {W : WX} {a : Expr} {fa : Loc → M D} {k : Nat} {p1 p2 p3 pos : Pos} (ha : PE X a (LE X.K G CL W fa)) :
    PE X (.Subscript a (.Slice none none (some (.UnaryOp .USub (.Constant (.int 1) k p1) p2)) p3) pos) (LE X.K G CL W fun L => bd (fa L) revD) :=
  PE.imp (pe_revT ha) fun σ H Q h => by
    refine (LG.bd (RR := rrD X.K CLF) h).imp fun x H1 ⟨μ1, S1, L, d, R1, RL1, ra, h1⟩ => ?_
    have h2 := h1.lv fun r S' e => revD_val e
    cases ra with
    | @tup l p xs ht hr => exact ⟨p, xs, rfl, SqT.of ht, fun b n => h2.tup (l := l.reverse) rfl R1 hr.reverse n⟩
    | _ => exact (h2.no rfl).elim
end Sim
set_option Elab.async false
set_option linter.all false
set_option autoImplicit false
set_option maxRecDepth 100000
/-! Sim1i: arguments, displays, built-in functions, methods, isinstance, ranges, chains. -/
namespace Sim
open PySem PySem.Spec PyProof.Rows L2
/-- an expression that is no starred one -/
def plainArg : Expr → Bool
  | .Starred _ _ => false
  | _ => true
theorem star_cons {e : Expr} (h : plainArg e = true) (es : List Expr) (env : Env) : starEach (e :: es) env = (false, eval e env) :: starEach es env := by
  cases e <;> first | rfl | cases h
theorem star_any {env : Env} (pos : Pos) : ∀ {es : List Expr}, es.all plainArg = true → (backTo pos (starEach es env)).any (·.1) = false
  | [], _ => rfl
  | e :: es, h => by
    rw [List.all_cons, Bool.and_eq_true] at h
    rw [star_cons h.1]
    show (false || (backTo pos (starEach es env)).any (·.1)) = false
    rw [star_any pos h.2]
    rfl
theorem star_all {env : Env} (pos : Pos) : ∀ {es : List Expr}, es.all plainArg = true → (backTo pos (starEach es env)).all (fun x => !x.1) = true
  | [], _ => rfl
  | e :: es, h => by
    rw [List.all_cons, Bool.and_eq_true] at h
    rw [star_cons h.1]
    show (!false && (backTo pos (starEach es env)).all (fun x => !x.1)) = true
    rw [star_all pos h.2]
    rfl
section
variable {X : Cx} {G : Wd} {CL : CLT} {W : WX} {a b c e : Expr} {es : List Expr} {fa fb fc : Loc → M D} {fs : Loc → M (List D)} {pos : Pos}
theorem sim_nil : PA X [] (LAs X.K G CL W fun _ => Sim.ok []) :=
  PA.imp pa_nil fun σ H Q ⟨μ, L, S, R, RL, h⟩ => h.ok R .nil
theorem sim_cons (hp : plainArg e = true) (ha : PE X e (LE X.K G CL W fa)) (hr : PA X es (LAs X.K G CL W fs)) : PA X (e :: es) (LAs X.K G CL W fun L => bd (fa L) fun d => bd (fs L) fun ds => Sim.ok (d :: ds)) :=
  PA.imp (pa_cons ha hr (star_cons hp _ _)) fun σ H Q h => by
    refine (LG.bd (RR := rrD X.K CLF) h).imp fun x H1 ⟨μ1, S1, L, d, R1, RL1, ra, h1⟩ => ?_
    exact LA.lg (f := fs) (h1.bd.imp fun y H2 ⟨μ2, S2, ds, s2, R2, rb, h2⟩ => h2.ok R2 (.cons (ra.step s2) rb)) R1 RL1
/-- how many an argument list may give -/
def LenOk (fs : Loc → M (List D)) : Prop := ∀ L S ds S', fs L S = some (.val ds, S') → ds.length ≤ LIM
theorem LAs.len {μ : List Addr} {S : Store} {L : Loc} {σ : St} {H : Hp} {α ν : Type} {RR : RRT α ν} {g : List D → M α} {Q : ν → Hp → Prop} (hl : LenOk fs) (h : LA X.K G CLF RR W μ S (bd (fs L) g) σ H Q) :
    LA X.K G CLF (rrA X.K CLF) W μ S (fs L) σ H fun v H1 => ∃ μ1 S1 a, Step μ H μ1 H1 ∧ RelG X.K G CLF μ1 S1 H1 ∧ Reps X.K CLF μ1 H1 a v ∧ a.length ≤ LIM ∧ LA X.K G CLF RR W μ1 S1 (g a) σ H1 Q := by
  obtain ⟨r, S', e, h⟩ := h
  unfold Sim.bd at e
  cases q : fs L S with
  | none => rw [q] at e; cases e
  | some p =>
    obtain ⟨r1, S1⟩ := p
    rw [q] at e
    cases r1 with
    | val a =>
      refine ⟨.val a, S1, q, fun μ1 H1 v s1 R1 rr => ⟨μ1, S1, a, s1, R1, rr, hl L S a S1 q, r, S', e, ?_⟩⟩
      cases r with
      | val b => exact fun μ2 H2 w s2 R2 r2 => h μ2 H2 w (s1.trans s2) R2 r2
      | exc x => exact fun μ2 H2 dx s2 R2 r2 => h μ2 H2 dx (s1.trans s2) R2 r2
    | exc x =>
      cases e
      exact ⟨.exc x, _, q, h⟩
theorem sim_tup {x1 : Nat} (hl : LenOk fs) (h : PA X es (LAs X.K G CL W fs)) : PE X (.Tuple es x1 pos) (LE X.K G CL W fun L => bd (fs L) fun ds => Sim.ok (.tup ds)) :=
  PE.imp (pe_tup h) fun σ H Q ⟨μ, L, S, R, RL, h⟩ => by
    refine ⟨μ, L, S, R, RL, (LAs.len hl h).imp fun xs H1 ⟨μ1, S1, ds, s1, R1, rs, hn, h1⟩ => ⟨by rw [← rs.length, ← lim_eq]; exact hn, fun p n => ?_⟩⟩
    exact (h1.lv fun r S' e => by cases e; exact ⟨_, rfl⟩).tup rfl R1 rs n
theorem sim_lst (hl : LenOk fs) (h : PA X es (LAs X.K G CL W fs)) : PE X (.List es pos) (LE X.K G CL W fun L => bd (fs L) fun ds => alloc (.lst ds)) :=
  PE.imp (pe_lst h) fun σ H Q ⟨μ, L, S, R, RL, h⟩ => by
    refine ⟨μ, L, S, R, RL, (LAs.len hl h).imp fun xs H1 ⟨μ1, S1, ds, s1, R1, rs, hn, h1⟩ => ⟨by rw [← rs.length, ← lim_eq]; exact hn, fun p n => ?_⟩⟩
    exact (h1.lv fun r S' e => by cases e; exact ⟨_, rfl⟩).lst rfl R1 rs n
theorem sim_dct0 : PE X (.Dict [] [] pos) (LE X.K G CL W fun _ => alloc (.dct [] false)) :=
  PE.imp pe_dnewK fun σ H Q ⟨μ, L, S, R, RL, h⟩ p n => by
    obtain ⟨r, S', e, h⟩ := h
    unfold alloc at e
    cases e
    have st : Step μ H (μ ++ [p]) (upd H p (.dK [])) := Step.push n
    refine h (μ ++ [p]) _ _ st (R.push n (.dK upd_same .nil)) (.ref ?_)
    rw [← R.len, List.getElem?_append_right (Nat.le_refl _)]
    simp
theorem LG.as {α ν : Type} {RR : RRT α ν} {K : PySem.W.Frag} {σ : St} {H : Hp} {g : List D → M α} {Q : ν → Hp → Prop} (h : LG K G CL RR W (fun L => Sim.bd (fs L) g) σ H Q) :
    LAs K G CL W fs σ H fun v H1 => ∃ μ1 S1 a, RelG K G CLF μ1 S1 H1 ∧ Reps K CLF μ1 H1 a v ∧ LA K G CLF RR W μ1 S1 (g a) σ H1 Q :=
  (LG.bd (RR := rrA K CLF) h).imp fun v H1 ⟨μ1, S1, L, a, R1, _, ra, h1⟩ => ⟨μ1, S1, a, R1, ra, h1⟩
theorem biD_val {f : Bi} {as : List D} {S S' : Store} {r : Ex D} (h : biD f as S = some (r, S')) : ∃ d, r = .val d := by
  unfold biD at h
  repeat' split at h
  all_goals first | (cases h; exact ⟨_, rfl⟩) | (cases h; done) | exact mapV h | skip
  all_goals
    cases q : sortD _ with
    | none => rw [q] at h; cases h
    | some m => rw [q] at h; cases h; exact ⟨_, rfl⟩
theorem sim_bi {x : Str} {p : Pos} {i : String} {f : Bi} (hc : CallR X (.builtin i) (rBi X.K G CLF f)) (hg : Gl X x) (hm : X.mg x = none) (hv : bootBuiltins x = some (.builtin i)) (hn : x ≠ "__name__") (hdb : (x == ("__debug__" : Str)) = false)
    (hp : (e :: es).all plainArg = true) (ha : PA X (e :: es) (LAs X.K G CL W fs)) : PE X (.Call (.Name x p) (e :: es) [] pos) (LE X.K G CL W fun L => bd (fs L) fun ds => biD f ds) :=
  PE.imp (pe_callB hc hg hm hv ha hn hdb (star_cons (by rw [List.all_cons, Bool.and_eq_true] at hp; exact hp.1) _ _) (star_any pos (by rw [List.all_cons, Bool.and_eq_true] at hp; exact hp.2))) fun σ H Q h =>
    (LG.as h).imp fun v H1 ⟨μ1, S1, ds, R1, rs, h1⟩ => ⟨μ1, S1, ds, R1, rs, h1.lv fun r S' e => biD_val e⟩
theorem sim_ty {x : Str} {p : Pos} {i : String} {f : Bi} (hc : CallR X (.type i) (rBi X.K G CLF f)) (hg : Gl X x) (hm : X.mg x = none) (hv : bootBuiltins x = some (.type i)) (hn : x ≠ "__name__") (hdb : (x == ("__debug__" : Str)) = false)
    (hp : (e :: es).all plainArg = true) (ha : PA X (e :: es) (LAs X.K G CL W fs)) : PE X (.Call (.Name x p) (e :: es) [] pos) (LE X.K G CL W fun L => bd (fs L) fun ds => biD f ds) :=
  PE.imp (pe_callTy hc hg hm hv ha hn hdb (star_cons (by rw [List.all_cons, Bool.and_eq_true] at hp; exact hp.1) _ _) (star_any pos (by rw [List.all_cons, Bool.and_eq_true] at hp; exact hp.2))) fun σ H Q h =>
    (LG.as h).imp fun v H1 ⟨μ1, S1, ds, R1, rs, h1⟩ => ⟨μ1, S1, ds, R1, rs, h1.lv fun r S' e => biD_val e⟩
/-! ### methods -/
def plainOwner : Expr → Bool
  | .Name _ _ | .Constant _ _ _ | .Subscript _ _ _ => true
  | _ => false
theorem owner_base {o : Expr} (h : plainOwner o = true) (m : Str) (env : Env) (w : Sem Value) : attributeBase o m env w = w := by
  cases o <;> first | rfl | cases h
theorem methD_val {m : Me} {o : D} {as : List D} {S S' : Store} {r : Ex D} (h : methD m o as S = some (r, S')) : ∃ d, r = .val d := by
  unfold methD at h
  repeat' split at h
  all_goals first | (cases h; exact ⟨_, rfl⟩) | cases h
/-- what a method's owner must be -/
def tyM : Me → String
  | .append | .extend | .insert | .pop1 | .index | .remove => "list"
  | .join => "str"
  | _ => "dict"
theorem mTy_V {K : PySem.W.Frag} {μ : List Addr} {S S' : Store} {H : Hp} {m : Me} {d : D} {x : V} {r : Ex Unit} (R : RelG K G CLF μ S H) (rd : Rep K CLF μ H d x) (h : mTy m d S = some (r, S')) : r = .val () ∧ S' = S ∧ tyV K (tyM m) x H := by
  have list : ∀ {k : Nat}, d = .ref k → (match S[k]? with | some (.lst _) => Sim.ok () S | _ => none) = some (r, S') → tyM m = "list" → r = .val () ∧ S' = S ∧ tyV K (tyM m) x H := fun {k} e h1 h2 => by
    subst e
    cases rd with
    | ref hm =>
      obtain ⟨mo, em, ho⟩ := R.at hm
      rw [em] at h1
      cases mo with
      | dct kvs lock | gone => cases h1
      | lst l =>
        cases h1
        obtain ⟨zs, q1, _⟩ := R.own hm em
        exact ⟨rfl, rfl, .inl ⟨h2, zs, SqL.of q1⟩⟩
  cases m <;> cases d <;> first | (cases h; done) | exact list rfl h rfl | skip
  · cases h
    cases rd
    exact ⟨rfl, rfl, rfl⟩
  · rename_i k
    cases rd with
    | @ref _ p hm =>
      obtain ⟨mo, em, ho⟩ := R.at hm
      have h1 : (match S[k]? with | some (.dct _ _) => Sim.ok () S | _ => none) = some (r, S') := h
      rw [em] at h1
      cases ho with
      | lst _ _ => cases h1
      | dK q1 _ =>
        cases h1
        exact ⟨rfl, rfl, .inr (.inr (.inl ⟨rfl, .inl ⟨_, q1⟩⟩))⟩
      | dT _ q1 _ =>
        cases h1
        exact ⟨rfl, rfl, .inr (.inr (.inl ⟨rfl, .inr ⟨_, q1⟩⟩))⟩
      | gone _ _ _ => cases h1
theorem sim_meth {o : Expr} {m : Me} {name : Str} {id : String} {apos : Pos} (pa : PlainAttrs (tyM m)) (slot : Slot (tyM m) name id) (hty : typeOf (.builtin id) = pure (.type "method_descriptor")) (hm : MtR X id (rMe X.K G CLF m))
    (ho : plainOwner o = true) (hp : (e :: es).all plainArg = true) (hl : (e :: es).length < 30) (hline : (apos.endLine == pos.line) = true) (hoe : PE X o (LE X.K G CL W fa)) (ha : PA X (e :: es) (LAs X.K G CL W fs)) :
    PE X (.Call (.Attribute o name apos) (e :: es) [] pos) (LE X.K G CL W fun L => bd (fa L) fun x => bd (mTy m x) fun _ => bd (fs L) fun ds => methD m x ds) :=
  PE.imp (pe_bm pa slot hty hm hoe ha (owner_base ho _ _ _) (by
      rw [star_all pos hp]
      show (true && (true && decide ((e :: es).length + 0 + 0 < 30))) = true
      simp only [Nat.add_zero, Bool.true_and]
      exact decide_eq_true hl) hline (star_cons (by rw [List.all_cons, Bool.and_eq_true] at hp; exact hp.1) _ _) (star_any pos (by rw [List.all_cons, Bool.and_eq_true] at hp; exact hp.2))) fun σ H Q h => by
    refine (LG.bd (RR := rrD X.K CLF) h).imp fun x H1 ⟨μ1, S1, L, d, R1, RL1, ra, h1⟩ => ?_
    obtain ⟨r, S', q, h1⟩ := h1
    unfold Sim.bd at q
    cases q1 : mTy m d S1 with
    | none => rw [q1] at q; cases q
    | some p =>
      obtain ⟨r1, S2⟩ := p
      obtain ⟨rfl, rfl, ty⟩ := mTy_V R1 ra q1
      rw [q1] at q
      refine ⟨ty, LA.lg (f := fs) (LA.imp (LA.bd (RR := rrA X.K CLF) (m := fs L) (f := fun ds => methD m d ds) ⟨r, S', q, h1⟩) fun xs H2 ⟨μ2, S3, ds, s2, R2, rs, h2⟩ => ?_) R1 RL1⟩
      exact ⟨μ2, S3, d, ds, R2, ra.step s2, rs, h2.lv fun r S' e => methD_val e⟩
/-! ### isinstance -/
theorem isiM_val {t : Ty} {a : D} {S S' : Store} {r : Ex D} (h : isiM t a S = some (r, S')) : ∃ b, r = .val (.bl b) ∧ S' = S ∧ isiD t S a = some b := by
  unfold isiM at h
  cases q : isiD t S a with
  | none => rw [q] at h; cases h
  | some b => rw [q] at h; cases h; exact ⟨b, rfl, rfl, rfl⟩
theorem sim_isi {t : Ty} {p p2 : Pos} {x : Str} (hx : x = (tyN t : Str)) (hg : Gl X "isinstance") (hm : X.mg "isinstance" = none) (hg2 : Gl X x) (hm2 : X.mg x = none) (hb : bootBuiltins x = some (.type (tyN t))) (hi : bootBuiltins "isinstance" = some (.builtin "isinstance"))
    (hn : x ≠ "__name__") (hd : (x == ("__debug__" : Str)) = false) (hp : plainArg a = true) (ha : PE X a (LE X.K G CL W fa)) : PE X (.Call (.Name "isinstance" p) [a, .Name x p2] [] pos) (LE X.K G CL W fun L => bd (fa L) (isiM t)) :=
  PE.imp (pe_callB (call_isi (X := X)) hg hm hi (pa_cons ha (pa_cons (pe_bltn (v := V.ty (tyN t)) hg2 hm2 hb rfl hn hd) pa_nil) (star_cons hp _ _)) (by decide) (by decide) (star_cons hp _ _) rfl) fun σ H Q h => by
    refine (LG.bd (RR := rrD X.K CLF) h).imp fun x H1 ⟨μ1, S1, L, d, R1, RL1, ra, h1⟩ => ?_
    obtain ⟨r, S', q, h1⟩ := h1
    obtain ⟨b, rfl, rfl, e⟩ := isiM_val q
    obtain ⟨T, ty, kb⟩ := isi_ty R1 ra e
    exact ⟨x, V.ty (tyN t), .type T, .type (tyN t), b, rfl, .ty _, ty, kit_ty kb, h1 μ1 H1 _ (Step.refl _ _) R1 (.bl b)⟩
/-! ### a op b op c -/
theorem sim_chain (hu : X.A.units + 64 < cLine) {o1 o2 : COp} (hm : lastMarks [copOf o1, copOf o2] [b, c] = false) (ha : PE X a (LE X.K G CL W fa)) (hb : PE X b (LE X.K G CL W fb)) (hc : PE X c (LE X.K G CL W fc)) :
    PE X (.Compare a [copOf o1, copOf o2] [b, c] pos) (LE X.K G CL W fun L => bd (fa L) fun x => bd (fb L) fun y => bd (cmpD o1 x y) fun k => bd (tru k) fun t => if t = true then bd (fc L) fun z => cmpD o2 y z else Sim.ok (.bl false)) :=
  PE.imp (pe_chain (opr_cmp (G := G) (CL := CLF) hu o1) (opr_cmp (G := G) (CL := CLF) hu o2) ha hb hc hm) fun σ H Q h => by
    refine (LG.bd (RR := rrD X.K CLF) h).imp fun x H1 ⟨μ1, S1, L, p, R1, RL1, ra, h1⟩ => ?_
    refine LA.lg (f := fb) (h1.bd.imp fun y H2 ⟨μ2, S2, q, s2, R2, rb, h2⟩ => ?_) R1 RL1
    refine ⟨μ2, S2, p, q, R2, ra.step s2, rb, ?_⟩
    obtain ⟨r, S', e, h3⟩ := h2
    unfold Sim.bd at e
    rw [cmpD_eq] at e
    cases ec : cmpO o1 p q S2 with
    | none => rw [ec] at e; cases e
    | some k =>
      rw [ec] at e
      refine ⟨.bl k, S2, by rw [cmpD_eq, ec]; rfl, fun μ' H' v st R' rv => ?_⟩
      cases rv
      refine ⟨k, rfl, ?_⟩
      cases k with
      | false =>
        rw [if_neg Bool.false_ne_true]
        have e : (some ((Ex.val (D.bl false) : Ex D), S2)) = some (r, S') := e
        cases e
        exact h3 μ' H' _ st R' (.bl _)
      | true =>
        rw [if_pos rfl]
        have e : bd (fc L) (fun z => cmpD o2 q z) S2 = some (r, S') := e
        have h4 : LA X.K G CLF (rrD X.K CLF) W μ' S2 (bd (fc L) fun z => cmpD o2 q z) σ H' Q := by
          refine ⟨r, S', e, ?_⟩
          cases r with
          | val d => exact fun μ2 H2 w s2 R2 r2 => h3 μ2 H2 w (st.trans s2) R2 r2
          | exc x => exact fun μ2 H2 dx s2 R2 r2 => h3 μ2 H2 dx (st.trans s2) R2 r2
        refine LA.lg (f := fc) (h4.bd.imp fun z H3 ⟨μ3, S3, w, s3, R3, rc, h5⟩ => ?_) R' (RL1.step (s2.trans st))
        exact ⟨μ3, S3, q, w, R3, (rb.step st).step s3, rc, h5.lv fun r S' e => cmpD_val e⟩
theorem sim_ptchain (hu : X.A.units + 64 < cLine) {o1 o2 : COp} (hm : lastMarks [copOf o1, copOf o2] [b, c] = false) (ha : PE X a (LE X.K G CL W fa)) (hb : PE X b (LE X.K G CL W fb)) (hc : PE X c (LE X.K G CL W fc)) :
    PT X (.Compare a [copOf o1, copOf o2] [b, c] pos) (LT' X.K G CL W fun L => bd (bd (fa L) fun x => bd (fb L) fun y => bd (cmpD o1 x y) fun k => bd (tru k) fun t => if t = true then bd (fc L) fun z => cmpD o2 y z else Sim.ok (.bl false)) tru) :=
  PT.imp (pt_chain (opr_cmp (G := G) (CL := CLF) hu o1) (opr_cmp (G := G) (CL := CLF) hu o2) ha hb hc hm) fun σ H Q h => by
    obtain ⟨μ, L, S, R, RL, h⟩ := h
    dsimp only at h
    rw [bd_assoc] at h
    refine ⟨μ, L, S, R, RL, h.bd.imp fun x H1 ⟨μ1, S1, p, s1, R1, ra, h1⟩ => ?_⟩
    rw [bd_assoc] at h1
    refine LA.lg (f := fb) (h1.bd.imp fun y H2 ⟨μ2, S2, q, s2, R2, rb, h2⟩ => ?_) R1 (RL.step s1)
    refine ⟨μ2, S2, p, q, R2, ra.step s2, rb, ?_⟩
    rw [bd_assoc] at h2
    obtain ⟨r, S', e, h3⟩ := h2
    cases ec : cmpO o1 p q S2 with
    | none => unfold Sim.bd at e; rw [cmpD_eq, ec] at e; cases e
    | some k =>
      have e0 : Sim.bd (bd (tru (.bl k)) fun t => if t = true then bd (fc L) fun z => cmpD o2 q z else Sim.ok (.bl false)) Sim.tru S2 = some (r, S') := by
        unfold Sim.bd at e ⊢
        rw [cmpD_eq, ec] at e
        exact e
      refine ⟨.bl k, S2, by rw [cmpD_eq, ec]; rfl, fun μ' H' v st R' rv => ?_⟩
      cases rv
      refine ⟨k, rfl, ?_⟩
      cases k with
      | false =>
        rw [if_neg Bool.false_ne_true]
        have e0 : some ((Ex.val false : Ex Bool), S2) = some (r, S') := e0
        cases e0
        exact ⟨false, rfl, h3 μ' H' false st R' rfl⟩
      | true =>
        rw [if_pos rfl]
        have e0 : Sim.bd (bd (fc L) fun z => cmpD o2 q z) Sim.tru S2 = some (r, S') := e0
        rw [bd_assoc] at e0
        have h4 : LA X.K G CLF rrB W μ' S2 (bd (fc L) fun z => bd (cmpD o2 q z) Sim.tru) σ H' Q := by
          refine ⟨r, S', e0, ?_⟩
          cases r with
          | val d => exact fun μ2 H2 w s2 R2 r2 => h3 μ2 H2 w (st.trans s2) R2 r2
          | exc x => exact fun μ2 H2 dx s2 R2 r2 => h3 μ2 H2 dx (st.trans s2) R2 r2
        refine LA.lg (f := fc) (h4.bd.imp fun z H3 ⟨μ3, S3, w, s3, R3, rc, h5⟩ => ?_) R' ((RL.step s1).step (s2.trans st))
        refine ⟨μ3, S3, q, w, R3, (rb.step st).step s3, rc, ?_⟩
        obtain ⟨r5, S5, e5, h6⟩ := h5
        cases ec2 : cmpO o2 q w S3 with
        | none => unfold Sim.bd at e5; rw [cmpD_eq, ec2] at e5; cases e5
        | some k2 =>
          have e7 : Sim.bd (cmpD o2 q w) Sim.tru S3 = some (.val k2, S3) := by
            unfold Sim.bd
            rw [cmpD_eq, ec2]
            rfl
          rw [e7] at e5
          cases e5
          refine ⟨.bl k2, S3, by rw [cmpD_eq, ec2]; rfl, fun μ4 H4 v2 st4 R4 rv2 => ?_⟩
          cases rv2
          exact ⟨k2, rfl, h6 μ4 H4 k2 st4 R4 rfl⟩
/-! ### ranges -/
theorem rg_reps {K : PySem.W.Frag} {μ : List Addr} {H : Hp} (a : Int) (n : Nat) : Reps K CLF μ H (rangeL a n) ((List.range n).map fun (i : Nat) => V.int (a + (i : Nat))) := by
  unfold rangeL
  generalize List.range n = l
  induction l with
  | nil => exact .nil
  | cons i l ih => exact .cons (.int _) ih
theorem small_of {i : Int} (h : small62 i = true) : -(2 ^ 62) ≤ i ∧ i < 2 ^ 62 := by
  unfold small62 at h
  exact of_decide_eq_true h
theorem sim_lrg1 {p p2 pos2 : Pos} (hc : X.calm = true) (hg : Gl X "list") (hm : X.mg "list" = none) (hg2 : Gl X "range") (hm2 : X.mg "range" = none) (hp : plainArg a = true) (ha : PE X a (LE X.K G CL W fa)) :
    PE X (.Call (.Name "list" p) [.Call (.Name "range" p2) [a] [] pos2] [] pos) (LE X.K G CL W fun L => bd (fa L) lrg1) :=
  PE.imp (pe_listRg hc hg hm (prg_1 (p := p2) (pos := pos2) hg2 hm2 ha (star_cons hp _ _))) fun σ H Q h => by
    refine (LG.bd (RR := rrD X.K CLF) h).imp fun x H1 ⟨μ1, S1, L, d, R1, RL1, ra, h1⟩ => ?_
    cases ra with
    | int n =>
      obtain ⟨hc, h2⟩ := LA.guard (m := alloc (.lst (rangeL 0 n.toNat))) h1
      rw [Bool.and_eq_true, decide_eq_true_eq] at hc
      obtain ⟨s1, s2⟩ := small_of hc.2
      refine ⟨n, rfl, ⟨by decide, by decide, s1, s2, by omega⟩, fun q nq => ?_⟩
      have rr := rg_reps (K := X.K) (μ := μ1) (H := H1) 0 n.toNat
      have e : rgV 0 n = (List.range n.toNat).map fun (i : Nat) => V.int (0 + (i : Nat)) := by unfold rgV; rw [Int.sub_zero]
      rw [e]
      exact (h2.lv fun r S' e => by cases e; exact ⟨_, rfl⟩).lst rfl R1 rr nq
    | _ => exact (LA.stk h1).elim
theorem sim_trg1 {p p2 pos2 : Pos} (hc : X.calm = true) (hg : Gl X "tuple") (hm : X.mg "tuple" = none) (hg2 : Gl X "range") (hm2 : X.mg "range" = none) (hp : plainArg a = true) (ha : PE X a (LE X.K G CL W fa)) :
    PE X (.Call (.Name "tuple" p) [.Call (.Name "range" p2) [a] [] pos2] [] pos) (LE X.K G CL W fun L => bd (fa L) trg1) :=
  PE.imp (pe_tupRg hc hg hm (prg_1 (p := p2) (pos := pos2) hg2 hm2 ha (star_cons hp _ _))) fun σ H Q h => by
    refine (LG.bd (RR := rrD X.K CLF) h).imp fun x H1 ⟨μ1, S1, L, d, R1, RL1, ra, h1⟩ => ?_
    cases ra with
    | int n =>
      obtain ⟨hc, h2⟩ := LA.guard (m := Sim.ok (D.tup (rangeL 0 n.toNat))) h1
      rw [Bool.and_eq_true, decide_eq_true_eq] at hc
      obtain ⟨s1, s2⟩ := small_of hc.2
      refine ⟨n, rfl, ⟨by decide, by decide, s1, s2, by omega⟩, fun q nq => ?_⟩
      have rr := rg_reps (K := X.K) (μ := μ1) (H := H1) 0 n.toNat
      have e : rgV 0 n = (List.range n.toNat).map fun (i : Nat) => V.int (0 + (i : Nat)) := by unfold rgV; rw [Int.sub_zero]
      rw [e]
      exact (h2.lv fun r S' e => by cases e; exact ⟨_, rfl⟩).tup rfl R1 rr nq
    | _ => exact (LA.stk h1).elim
theorem sim_lrg2 {p p2 pos2 : Pos} (hc : X.calm = true) (hg : Gl X "list") (hm : X.mg "list" = none) (hg2 : Gl X "range") (hm2 : X.mg "range" = none) (hp : plainArg a = true) (hpb : plainArg b = true) (ha : PE X a (LE X.K G CL W fa)) (hb : PE X b (LE X.K G CL W fb)) :
    PE X (.Call (.Name "list" p) [.Call (.Name "range" p2) [a, b] [] pos2] [] pos) (LE X.K G CL W fun L => bd (fa L) fun x => bd (fb L) fun y => lrg2 x y) :=
  PE.imp (pe_listRg hc hg hm (prg_2 (p := p2) (pos := pos2) hg2 hm2 ha hb (star_cons hp _ _) (star_cons hpb _ _) (star_any _ (by rw [List.all_cons, hpb]; rfl)))) fun σ H Q h => by
    refine (LG.bd (RR := rrD X.K CLF) h).imp fun x H1 ⟨μ1, S1, L, d, R1, RL1, ra, h1⟩ => ?_
    refine LA.lg (f := fb) (h1.bd.imp fun y H2 ⟨μ2, S2, d2, st2, R2, rb, h2⟩ => ?_) R1 RL1
    cases ra with
    | int i =>
      cases rb with
      | int j =>
        obtain ⟨hc, h3⟩ := LA.guard (m := alloc (.lst (rangeL i (j - i).toNat))) h2
        rw [Bool.and_eq_true, Bool.and_eq_true, decide_eq_true_eq] at hc
        obtain ⟨s1, s2⟩ := small_of hc.1.2
        obtain ⟨s3, s4⟩ := small_of hc.2
        refine ⟨i, j, rfl, rfl, ⟨s1, s2, s3, s4, by omega⟩, fun q nq => ?_⟩
        exact (h3.lv fun r S' e => by cases e; exact ⟨_, rfl⟩).lst rfl R2 (rg_reps i (j - i).toNat) nq
      | _ => exact (LA.stk h2).elim
    | _ => exact (by cases d2 <;> exact LA.stk h2 : False).elim
theorem sim_trg2 {p p2 pos2 : Pos} (hc : X.calm = true) (hg : Gl X "tuple") (hm : X.mg "tuple" = none) (hg2 : Gl X "range") (hm2 : X.mg "range" = none) (hp : plainArg a = true) (hpb : plainArg b = true) (ha : PE X a (LE X.K G CL W fa)) (hb : PE X b (LE X.K G CL W fb)) :
    PE X (.Call (.Name "tuple" p) [.Call (.Name "range" p2) [a, b] [] pos2] [] pos) (LE X.K G CL W fun L => bd (fa L) fun x => bd (fb L) fun y => trg2 x y) :=
  PE.imp (pe_tupRg hc hg hm (prg_2 (p := p2) (pos := pos2) hg2 hm2 ha hb (star_cons hp _ _) (star_cons hpb _ _) (star_any _ (by rw [List.all_cons, hpb]; rfl)))) fun σ H Q h => by
    refine (LG.bd (RR := rrD X.K CLF) h).imp fun x H1 ⟨μ1, S1, L, d, R1, RL1, ra, h1⟩ => ?_
    refine LA.lg (f := fb) (h1.bd.imp fun y H2 ⟨μ2, S2, d2, st2, R2, rb, h2⟩ => ?_) R1 RL1
    cases ra with
    | int i =>
      cases rb with
      | int j =>
        obtain ⟨hc, h3⟩ := LA.guard (m := Sim.ok (D.tup (rangeL i (j - i).toNat))) h2
        rw [Bool.and_eq_true, Bool.and_eq_true, decide_eq_true_eq] at hc
        obtain ⟨s1, s2⟩ := small_of hc.1.2
        obtain ⟨s3, s4⟩ := small_of hc.2
        refine ⟨i, j, rfl, rfl, ⟨s1, s2, s3, s4, by omega⟩, fun q nq => ?_⟩
        exact (h3.lv fun r S' e => by cases e; exact ⟨_, rfl⟩).tup rfl R2 (rg_reps i (j - i).toNat) nq
      | _ => exact (LA.stk h2).elim
    | _ => exact (by cases d2 <;> exact LA.stk h2 : False).elim
end
end Sim
set_option Elab.async false
set_option linter.all false
set_option autoImplicit false
set_option maxRecDepth 100000
/-! Sim1j: targets, iterables, comprehensions. -/
namespace Sim
open PySem PySem.Spec PyProof.Rows L2
/-! ### targets -/
/-- the names but those at vs stay -/
def Off (vs : List Nat) (σ σ' : St) : Prop := σ'.length = σ.length ∧ ∀ i, i ∉ vs → σ'[i]? = σ[i]?
theorem Off.refl (vs : List Nat) (σ : St) : Off vs σ σ := ⟨rfl, fun _ _ => rfl⟩
theorem Off.trans {vs : List Nat} {σ σ1 σ2 : St} (a : Off vs σ σ1) (b : Off vs σ1 σ2) : Off vs σ σ2 := ⟨b.1.trans a.1, fun i h => (b.2 i h).trans (a.2 i h)⟩
theorem Off.set {vs : List Nat} {σ : St} {i : Nat} {v : Option V} (h : i ∈ vs) : Off vs σ (σ.set i v) := ⟨List.length_set .., fun j hj => List.getElem?_set_ne (by intro e; subst e; exact hj h)⟩
theorem wipe_get (σ : St) (i : Nat) : ∀ vs : List Nat, (wipe σ vs)[i]? = if i ∈ vs then (σ[i]?).map (fun _ => none) else σ[i]?
  | [] => by simp [wipe]
  | v :: vs => by
    unfold wipe
    by_cases e : v = i
    · subst e
      by_cases hl : v < σ.length
      · rw [List.getElem?_set_self (by rw [wipe_length]; exact hl), if_pos List.mem_cons_self, List.getElem?_eq_getElem hl]
        rfl
      · rw [List.getElem?_eq_none (by rw [List.length_set, wipe_length]; omega), if_pos List.mem_cons_self, List.getElem?_eq_none (by omega)]
        rfl
    · rw [List.getElem?_set_ne e, wipe_get σ i vs]
      by_cases hm : i ∈ vs
      · rw [if_pos hm, if_pos (List.mem_cons_of_mem _ hm)]
      · rw [if_neg hm, if_neg (by simp only [List.mem_cons, not_or]; exact ⟨fun z => e z.symm, hm⟩)]
theorem Off.wipe {vs : List Nat} {σ σ' : St} (h : Off vs σ σ') : L2.wipe σ' vs = L2.wipe σ vs := by
  apply List.ext_getElem?
  intro i
  rw [wipe_get, wipe_get]
  by_cases hm : i ∈ vs
  · rw [if_pos hm, if_pos hm]
    by_cases hl : i < σ.length
    · rw [List.getElem?_eq_getElem hl, List.getElem?_eq_getElem (by rw [h.1]; exact hl)]
      rfl
    · rw [List.getElem?_eq_none (l := σ) (by omega), List.getElem?_eq_none (l := σ') (by rw [h.1]; omega)]
  · rw [if_neg hm, if_neg hm, h.2 i hm]
theorem wipe_off (vs : List Nat) (σ : St) : L2.wipe (L2.wipe σ vs) vs = L2.wipe σ vs := by
  apply Off.wipe
  exact ⟨wipe_length .., fun i hi => by rw [wipe_get, if_neg hi]⟩
section
variable (K : PySem.W.Frag) (G : Wd) (CL : CLT) (vs : List Nat)
abbrev rrL (σ : St) : RRT Loc St := fun μ H L' σ' => RepL K CL μ H L' σ' ∧ Off vs σ σ'
def gT (f : D → Loc → M Loc) : TG := fun v σ H Q => ∃ μ L S d, RelG K G CLF μ S H ∧ RepL K CL μ H L σ ∧ Rep K CLF μ H d v ∧ LV K G CLF (rrL K CL vs σ) μ S (f d L) H Q
def gTs (f : List D → Loc → M Loc) : TGs := fun v σ H Q => ∃ μ L S d, RelG K G CLF μ S H ∧ RepL K CL μ H L σ ∧ Reps K CLF μ H d v ∧ LV K G CLF (rrL K CL vs σ) μ S (f d L) H Q
end
theorem LV.bd {K : PySem.W.Frag} {G : Wd} {α β ν ξ : Type} {RR : RRT α ν} {RR' : RRT β ξ} {μ : List Addr} {S : Store} {H : Hp} {m : M α} {f : α → M β} {Q : ξ → Hp → Prop} (h : LV K G CLF RR' μ S (Sim.bd m f) H Q) :
    LV K G CLF RR μ S m H fun v H1 => ∃ μ1 S1 a, Step μ H μ1 H1 ∧ RelG K G CLF μ1 S1 H1 ∧ RR μ1 H1 a v ∧ LV K G CLF RR' μ1 S1 (f a) H1 Q := by
  obtain ⟨b, S', e, h⟩ := h
  unfold Sim.bd at e
  cases q : m S with
  | none => rw [q] at e; cases e
  | some p =>
    obtain ⟨r1, S1⟩ := p
    rw [q] at e
    cases r1 with
    | val a => exact ⟨a, S1, q, fun μ1 H1 v s1 R1 rr => ⟨μ1, S1, a, s1, R1, rr, b, S', e, fun μ2 H2 w s2 R2 r2 => h μ2 H2 w (s1.trans s2) R2 r2⟩⟩
    | exc x => cases e
theorem PG.imp {X : Cx} {e : Expr} {t t' : TG} (h : PG X e t) (k : ∀ v σ H Q, t' v σ H Q → t v σ H Q) : PG X e t' := ⟨fun pins s σ H v u Q I r hw => h.run pins s σ H v u Q I r (k _ _ _ _ hw)⟩
theorem PGs.imp {X : Cx} {e : List Expr} {t t' : TGs} (h : PGs X e t) (k : ∀ v σ H Q, t' v σ H Q → t v σ H Q) : PGs X e t' := ⟨fun pins s σ H v u Q I r hw => h.run pins s σ H v u Q I r (k _ _ _ _ hw)⟩
theorem LA.noX {K : PySem.W.Frag} {G : Wd} {CL : CLT} {W W' : WX} {α ν : Type} {RR : RRT α ν} {μ : List Addr} {S : Store} {σ : St} {H : Hp} {m : M α} {Q : ν → Hp → Prop} (h : LA K G CL RR W μ S (noX m) σ H Q) : LA K G CL RR W' μ S m σ H Q := by
  obtain ⟨r, S', e, h⟩ := h
  unfold Sim.noX at e
  cases q : m S with
  | none => rw [q] at e; cases e
  | some p =>
    obtain ⟨r1, S1⟩ := p
    rw [q] at e
    cases r1 with
    | val a => cases e; exact ⟨_, _, q, h⟩
    | exc x => cases e
theorem assignEach_cons {e : Expr} (h : plainArg e = true) (es : List Expr) (env : Env) : assignEach (e :: es) env = (false, assign e env) :: assignEach es env := by
  cases e <;> first | rfl | cases h
theorem assignEach_len {env : Env} : ∀ {es : List Expr}, es.all plainArg = true → (assignEach es env).length = es.length ∧ (assignEach es env).findIdx? (·.1) = none
  | [], _ => ⟨rfl, rfl⟩
  | e :: es, h => by
    rw [List.all_cons, Bool.and_eq_true] at h
    obtain ⟨h1, h2⟩ := assignEach_len (env := env) h.2
    rw [assignEach_cons h.1]
    refine ⟨by rw [List.length_cons, List.length_cons, h1], ?_⟩
    rw [List.findIdx?_cons, h2]
    rfl
theorem setD_val {o i v : D} {S S' : Store} {r : Ex Unit} (h : setD o i v S = some (r, S')) : r = .val () := by
  unfold setD at h
  split at h
  · split at h
    · split at h
      · rename_i l k _ _
        revert h
        generalize Sim.ixN _ _ = q
        intro h
        cases q with
        | none => cases h
        | some j => cases h; rfl
      · cases h
    · split at h
      · cases h; rfl
      · cases h
    · cases h
  · cases h
section
variable {X : Cx} {G : Wd} {CL : CLT} {W : WX} {vs : List Nat} {pos : Pos}
theorem sim_gname {i : Nat} {x : Str} (hm : i ∈ vs) (hNd : X.N.Nodup) (hi : X.N[i]? = some x) (hx : L2.Loc X.env.scope x) (hf : X.fn x = true ∨ X.env.scope.names.lookup x = some .local) :
    PG X (.Name x pos) (gT X.K G CL vs fun d L => if i < L.length then Sim.ok (L.set i (some d)) else stk) :=
  PG.imp (pg_name hNd hi hx hf) fun v σ H Q ⟨μ, L, S, d, R, RL, rd, h⟩ => by
    by_cases hl : i < L.length
    · dsimp only at h
      rw [if_pos hl] at h
      exact h.here rfl R ⟨RL.set (.val rd), Off.set hm⟩
    · dsimp only at h
      rw [if_neg hl] at h
      exact (h.no rfl).elim
theorem sim_gnil : PGs X [] (gTs X.K G CL vs fun l L => if l.isEmpty then Sim.ok L else stk) :=
  PGs.imp pgs_nil fun v σ H Q ⟨μ, L, S, d, R, RL, rd, h⟩ => by
    cases rd with
    | nil => exact ⟨rfl, h.here rfl R ⟨RL, Off.refl _ _⟩⟩
    | cons _ _ => exact (h.no rfl).elim
theorem sim_gcons {e : Expr} {es : List Expr} {f : D → Loc → M Loc} {fr : List D → Loc → M Loc} (hp : plainArg e = true) (h1 : PG X e (gT X.K G CL vs f)) (h2 : PGs X es (gTs X.K G CL vs fr)) :
    PGs X (e :: es) (gTs X.K G CL vs fun l L => match l with | d :: l' => bd (f d L) fun L1 => fr l' L1 | [] => stk) :=
  PGs.imp (pgs_cons h1 h2 (by rw [assignEach_cons hp]; rfl)) fun v σ H Q ⟨μ, L, S, d, R, RL, rd, h⟩ => by
    cases rd with
    | nil => exact (h.no rfl).elim
    | @cons d ds x xs r rs =>
      refine ⟨x, xs, rfl, μ, L, S, d, R, RL, r, ?_⟩
      refine LV.imp (LV.bd (RR := rrL X.K CL vs σ) (m := f d L) (f := fun L1 => fr ds L1) h) fun σ1 H1 ⟨μ1, S1, L1, s1, R1, ⟨RL1, o1⟩, h3⟩ => ?_
      refine ⟨μ1, L1, S1, ds, R1, RL1, rs.step s1, ?_⟩
      obtain ⟨r, S', e, h3⟩ := h3
      exact ⟨r, S', e, fun μ' H' σ' s R' ⟨RL2, o2⟩ => h3 μ' H' σ' s R' ⟨RL2, o1.trans o2⟩⟩
theorem sim_gtup {es : List Expr} {k : Nat} {fr : List D → Loc → M Loc} (hc : X.calm = true) (hp : es.all plainArg = true) (hl : ∀ l L S r, fr l L S = some r → l.length = es.length) (h2 : PGs X es (gTs X.K G CL vs fr)) :
    PG X (.Tuple es k pos) (gT X.K G CL vs fun d L => match d with | .tup l => fr l L | _ => stk) :=
  PG.imp (pg_tup (n := es.length) hc h2 (assignEach_len hp).1 (assignEach_len hp).2) fun v σ H Q ⟨μ, L, S, d, R, RL, rd, h⟩ => by
    cases rd with
    | @tup l a xs ht hr =>
      have hn : l.length = es.length := by
        obtain ⟨r, S', e, _⟩ := h
        exact hl l L S _ e
      exact ⟨a, xs, rfl, SqT.of ht, by rw [← hr.length]; exact hn, μ, L, S, l, R, RL, hr, h⟩
    | _ => exact (h.no rfl).elim
theorem sim_gsub {o i : Expr} {fo fi : Loc → M D} (hu : X.A.units + 1 < cLine) (hs : PlainIx i) (hsl : ∀ v, assign (.Subscript o i pos) X.env v = (do
      let ov ← holding [v] (eval o X.env)
      let iv ← holding [v, ov] (eval i X.env)
      standAt pos
      holding [v, ov, iv] (setItem ov iv v)
      release [v, ov, iv] [])) (ho : PE X o (LE X.K G CL W fo)) (hi : PE X i (LE X.K G CL W fi)) :
    PG X (.Subscript o i pos) (gT X.K G CL vs fun d L => noX (bd (fo L) fun x => bd (fi L) fun y => bd (setD x y d) fun _ => Sim.ok L)) :=
  PG.imp (pg_sub ho hi (pset_D (G := G) (CL := CLF) hu) hsl) fun v σ H Q ⟨μ, L, S, d, R, RL, rd, h⟩ => by
    have h : LA X.K G CLF (rrL X.K CL vs σ) W μ S (Sim.bd (fo L) fun x => Sim.bd (fi L) fun y => Sim.bd (setD x y d) fun _ => Sim.ok L) σ H Q := (h.la (W := W) (σ := σ)).noX
    refine ⟨μ, L, S, R, RL, LA.imp (LA.bd (RR := rrD X.K CLF) (m := fo L) (f := fun x => Sim.bd (fi L) fun y => Sim.bd (setD x y d) fun _ => Sim.ok L) h) fun x H1 ⟨μ1, S1, a, s1, R1, ra, h1⟩ => ?_⟩
    refine ⟨μ1, L, S1, R1, RL.step s1, LA.imp (LA.bd (RR := rrD X.K CLF) (m := fi L) (f := fun y => Sim.bd (setD a y d) fun _ => Sim.ok L) h1) fun y H2 ⟨μ2, S2, b, s2, R2, rb, h2⟩ => ?_⟩
    refine ⟨μ2, S2, a, b, d, R2, ra.step s2, rb, (rd.step s1).step s2, ?_⟩
    obtain ⟨r, S', e, h3⟩ := h2
    unfold Sim.bd at e
    cases q : setD a b d S2 with
    | none => rw [q] at e; cases e
    | some p =>
      obtain ⟨r1, S3⟩ := p
      rw [q] at e
      obtain ⟨rfl⟩ := setD_val q
      cases e
      exact ⟨(), _, q, fun μ' H' _ st R' _ => h3 μ' H' σ st R' ⟨((RL.step s1).step s2).step st, Off.refl _ _⟩⟩
end
/-! ### iterables -/
mutual
theorem beqD_eq : ∀ {a b : D}, beqD a b = true → a = b
  | .non, .non, _ => rfl
  | .bl a, .bl b, h => by have h : (a == b) = true := h; rw [beq_iff_eq] at h; rw [h]
  | .int a, .int b, h => by have h : (a == b) = true := h; rw [beq_iff_eq] at h; rw [h]
  | .str a, .str b, h => by have h : (a == b) = true := h; rw [beq_iff_eq] at h; rw [h]
  | .tup a, .tup b, h => by rw [beqL_eq (show beqL a b = true from h)]
  | .ref a, .ref b, h => by have h : (a == b) = true := h; rw [beq_iff_eq] at h; rw [h]
  | .klst a, .klst b, h => by rw [beqL_eq (show beqL a b = true from h)]
  | .clo f i c, .clo g j d, h => by
    have h : (f == g && i == j && beqC c d) = true := h
    rw [Bool.and_eq_true, Bool.and_eq_true, beq_iff_eq, beq_iff_eq] at h
    rw [h.1.1, h.1.2, beqC_eq h.2]
  | .non, .bl _, h | .non, .int _, h | .non, .str _, h | .non, .tup _, h | .non, .ref _, h | .non, .klst _, h | .non, .clo _ _ _, h => by cases h
  | .bl _, .non, h | .bl _, .int _, h | .bl _, .str _, h | .bl _, .tup _, h | .bl _, .ref _, h | .bl _, .klst _, h | .bl _, .clo _ _ _, h => by cases h
  | .int _, .non, h | .int _, .bl _, h | .int _, .str _, h | .int _, .tup _, h | .int _, .ref _, h | .int _, .klst _, h | .int _, .clo _ _ _, h => by cases h
  | .str _, .non, h | .str _, .bl _, h | .str _, .int _, h | .str _, .tup _, h | .str _, .ref _, h | .str _, .klst _, h | .str _, .clo _ _ _, h => by cases h
  | .tup _, .non, h | .tup _, .bl _, h | .tup _, .int _, h | .tup _, .str _, h | .tup _, .ref _, h | .tup _, .klst _, h | .tup _, .clo _ _ _, h => by cases h
  | .ref _, .non, h | .ref _, .bl _, h | .ref _, .int _, h | .ref _, .str _, h | .ref _, .tup _, h | .ref _, .klst _, h | .ref _, .clo _ _ _, h => by cases h
  | .klst _, .non, h | .klst _, .bl _, h | .klst _, .int _, h | .klst _, .str _, h | .klst _, .tup _, h | .klst _, .ref _, h | .klst _, .clo _ _ _, h => by cases h
  | .clo _ _ _, .non, h | .clo _ _ _, .bl _, h | .clo _ _ _, .int _, h | .clo _ _ _, .str _, h | .clo _ _ _, .tup _, h | .clo _ _ _, .ref _, h | .clo _ _ _, .klst _, h => by cases h
theorem beqL_eq : ∀ {a b : List D}, beqL a b = true → a = b
  | [], [], _ => rfl
  | x :: xs, y :: ys, h => by
    have h : (beqD x y && beqL xs ys) = true := h
    rw [Bool.and_eq_true] at h
    rw [beqD_eq h.1, beqL_eq h.2]
  | [], _ :: _, h => by cases h
  | _ :: _, [], h => by cases h
theorem beqC_eq : ∀ {a b : List (Option D)}, beqC a b = true → a = b
  | [], [], _ => rfl
  | some x :: xs, some y :: ys, h => by
    have h : (beqD x y && beqC xs ys) = true := h
    rw [Bool.and_eq_true] at h
    rw [beqD_eq h.1, beqC_eq h.2]
  | none :: xs, none :: ys, h => by rw [beqC_eq (show beqC xs ys = true from h)]
  | some _ :: _, none :: _, h => by cases h
  | none :: _, some _ :: _, h => by cases h
  | [], none :: _, h => by cases h
  | [], some _ :: _, h => by cases h
  | none :: _, [], h => by cases h
  | some _ :: _, [], h => by cases h
end
/-- J yields what src tells, as long as the walked list stands still -/
def ItOk (K : PySem.W.Frag) (G : Wd) (μ : List Addr) (H : Hp) (src : Src) (J : L2.It) : Prop :=
  ∀ μ1 S1 H1, Step μ H μ1 H1 → RelG K G CLF μ1 S1 H1 → still src S1 = true →
    (∀ i d, src.items[i]? = some d → J.go i H1 ∧ ∀ x H2, J.yld i H1 x H2 → Step μ1 H1 μ1 H2 ∧ RelG K G CLF μ1 S1 H2 ∧ Rep K CLF μ1 H2 d x) ∧ J.stop src.items.length H1
abbrev rrS (K : PySem.W.Frag) (G : Wd) : RRT Src L2.It := fun μ H src J => ItOk K G μ H src J
abbrev LI (K : PySem.W.Frag) (G : Wd) (CL : CLT) (W : WX) (f : Loc → M Src) : TI := LG K G CL (rrS K G) W f
section
variable {K : PySem.W.Frag} {G : Wd} {μ : List Addr} {S : Store} {H : Hp}
theorem it_tup {a : Addr} {l : List D} {xs : List V} (ht : H a = some (.tup xs)) (hr : Reps K CLF μ H l xs) : ItOk K G μ H ⟨l, none⟩ (Itt K a) := by
  intro μ1 S1 H1 st R1 _
  have ht1 := SqT.of (K := K) (st.tups _ _ ht)
  have hr1 := hr.step st
  refine ⟨fun i d hd => ?_, ⟨xs, ht1, by rw [← hr1.length]; exact Nat.le_refl _⟩⟩
  obtain ⟨x, hx, rx⟩ := hr1.get hd
  refine ⟨⟨xs, x, ht1, hx⟩, fun y H2 ⟨e, hy⟩ => ?_⟩
  subst e
  have := hy xs ht1
  rw [hx] at this
  cases this
  exact ⟨Step.refl _ _, R1, rx⟩
theorem it_klst {a : Addr} {l : List D} {xs : List V} (ht : SqR K H a xs) (hr : Reps K CLF μ H l xs) : ItOk K G μ H ⟨l, none⟩ (Itl K a) := by
  intro μ1 S1 H1 st R1 _
  have ht1 := (st.sqR ht).sqL
  have hr1 := hr.step st
  refine ⟨fun i d hd => ?_, ⟨xs, ht1, by rw [← hr1.length]; exact Nat.le_refl _⟩⟩
  obtain ⟨x, hx, rx⟩ := hr1.get hd
  refine ⟨⟨xs, x, ht1, hx⟩, fun y H2 ⟨e, hy⟩ => ?_⟩
  subst e
  have := hy xs ht1
  rw [hx] at this
  cases this
  exact ⟨Step.refl _ _, R1, rx⟩
theorem still_own {src : Src} {r : Nat} {l : List D} (e : src.at_ = some (r, l)) (h : still src S = true) : S[r]? = some (.lst l) := by
  unfold still at h
  rw [e] at h
  dsimp only at h
  split at h
  · rename_i m q
    rw [q, beqL_eq h]
  · cases h
theorem it_own {r : Nat} {a : Addr} {l : List D} (hm : μ[r]? = some a) : ItOk K G μ H ⟨l, some (r, l)⟩ (Itl K a) := by
  intro μ1 S1 H1 st R1 hs
  obtain ⟨xs, h1, hr1⟩ := R1.own (st.mu hm) (still_own rfl hs)
  have ht1 := SqL.of (K := K) h1
  refine ⟨fun i d hd => ?_, ⟨xs, ht1, by rw [← hr1.length]; exact Nat.le_refl _⟩⟩
  obtain ⟨x, hx, rx⟩ := hr1.get hd
  refine ⟨⟨xs, x, ht1, hx⟩, fun y H2 ⟨e, hy⟩ => ?_⟩
  subst e
  have := hy xs ht1
  rw [hx] at this
  cases this
  exact ⟨Step.refl _ _, R1, rx⟩
theorem enumL_get : ∀ (l : List D) (k i : Nat), (enumL k l)[i]? = (l[i]?).map fun d => D.tup [.int ((k + i : Nat) : Int), d]
  | [], _, _ => by simp [enumL]
  | d :: l, k, 0 => by simp [enumL]
  | d :: l, k, i + 1 => by
    have := enumL_get l (k + 1) i
    unfold enumL
    rw [List.getElem?_cons_succ, List.getElem?_cons_succ, this]
    rw [show k + 1 + i = k + (i + 1) by omega]
theorem enumL_len : ∀ (l : List D) (k : Nat), (enumL k l).length = l.length
  | [], _ => rfl
  | d :: l, k => by unfold enumL; rw [List.length_cons, List.length_cons, enumL_len l]
/-- a pair that enumerate made -/
theorem enum_yld {μ1 : List Addr} {S1 : Store} {H1 : Hp} {l : List D} {xs : List V} {i : Nat} {d : D} {v : V} {H2 : Hp} (R1 : RelG K G CLF μ1 S1 H1) (hr : Reps K CLF μ1 H1 l xs) (hd : (enumL 0 l)[i]? = some d) {P : List V → Prop} (hp : P xs)
    (h : ∃ T x, v = .ref T ∧ H1 T = none ∧ H2 = upd H1 T (.tup [.int (i : Nat), x]) ∧ ∀ xs, P xs → xs[i]? = some x) : Step μ1 H1 μ1 H2 ∧ RelG K G CLF μ1 S1 H2 ∧ Rep K CLF μ1 H2 d v := by
  obtain ⟨T, x, rfl, n, rfl, hx⟩ := h
  have hx := hx xs hp
  rw [enumL_get] at hd
  cases q : l[i]? with
  | none => rw [q] at hd; cases hd
  | some y =>
    rw [q] at hd
    cases hd
    obtain ⟨z, hz, rz⟩ := hr.get q
    rw [hz] at hx
    cases hx
    have st : Step μ1 H1 μ1 (upd H1 T (.tup [.int (i : Nat), x])) := Step.new n
    refine ⟨st, R1.new n, .tup upd_same (.cons ?_ (.cons (rz.step st) .nil))⟩
    rw [Nat.zero_add]
    exact .int _
theorem it_enumT {a : Addr} {l : List D} {xs : List V} (ht : H a = some (.tup xs)) (hr : Reps K CLF μ H l xs) : ItOk K G μ H ⟨enumL 0 l, none⟩ (IteT K a) := by
  intro μ1 S1 H1 st R1 _
  have ht1 := SqT.of (K := K) (st.tups _ _ ht)
  have hr1 := hr.step st
  refine ⟨fun i d hd => ?_, ⟨xs, ht1, by show xs.length = (enumL 0 l).length; rw [enumL_len, hr1.length]⟩⟩
  have hi : i < l.length := by have := (List.getElem?_eq_some_iff.mp hd).1; rw [enumL_len] at this; exact this
  obtain ⟨x, hx, rx⟩ := hr1.get (List.getElem?_eq_getElem hi)
  exact ⟨⟨xs, x, ht1, hx⟩, fun y H2 hy => enum_yld R1 hr1 hd (P := SqT K H1 a) ht1 hy⟩
theorem it_enumL {a : Addr} {l : List D} {src : Src} (e : src.items = enumL 0 l) (hq : ∀ μ1 S1 H1, Step μ H μ1 H1 → RelG K G CLF μ1 S1 H1 → still src S1 = true → ∃ xs, SqL K H1 a xs ∧ Reps K CLF μ1 H1 l xs) : ItOk K G μ H src (Ite K a) := by
  intro μ1 S1 H1 st R1 hs
  obtain ⟨xs, ht1, hr1⟩ := hq μ1 S1 H1 st R1 hs
  rw [e]
  refine ⟨fun i d hd => ?_, ⟨xs, ht1, by rw [enumL_len, hr1.length]; exact Nat.le_refl _⟩⟩
  have hi : i < l.length := by have := (List.getElem?_eq_some_iff.mp hd).1; rw [enumL_len] at this; exact this
  obtain ⟨x, hx, rx⟩ := hr1.get (List.getElem?_eq_getElem hi)
  exact ⟨⟨xs, x, ht1, hx⟩, fun y H2 hy => enum_yld R1 hr1 hd (P := SqL K H1 a) ht1 hy⟩
theorem rangeL_get (a : Int) (n i : Nat) : (rangeL a n)[i]? = if i < n then some (D.int (a + (i : Nat))) else none := by
  unfold rangeL
  rw [List.getElem?_map]
  by_cases h : i < n
  · rw [if_pos h, List.getElem?_range h]; rfl
  · rw [if_neg h, List.getElem?_eq_none (by rw [List.length_range]; omega)]; rfl
theorem rangeL_len (a : Int) (n : Nat) : (rangeL a n).length = n := by unfold rangeL; rw [List.length_map, List.length_range]
theorem it_rg (lo : Int) (n : Nat) : ItOk K G μ H ⟨rangeL lo n, none⟩ (Itr lo n) := by
  intro μ1 S1 H1 st R1 _
  refine ⟨fun i d hd => ?_, by show n ≤ (rangeL lo n).length; rw [rangeL_len]; exact Nat.le_refl _⟩
  have hd : (rangeL lo n)[i]? = some d := hd
  rw [rangeL_get] at hd
  by_cases h : i < n
  · rw [if_pos h] at hd
    cases hd
    refine ⟨h, fun x H2 ⟨e1, e2⟩ => ?_⟩
    subst e1 e2
    exact ⟨Step.refl _ _, R1, .int _⟩
  · rw [if_neg h] at hd
    cases hd
theorem it_down (lo : Int) (n : Nat) : ItOk K G μ H ⟨(List.range n).map fun (k : Nat) => D.int (lo - (k : Int)), none⟩ (Itc lo (-1) n) := by
  intro μ1 S1 H1 st R1 _
  refine ⟨fun i d hd => ?_, by show n ≤ ((List.range n).map _).length; rw [List.length_map, List.length_range]; exact Nat.le_refl _⟩
  have hd : ((List.range n).map fun (k : Nat) => D.int (lo - (k : Int)))[i]? = some d := hd
  rw [List.getElem?_map] at hd
  by_cases h : i < n
  · rw [List.getElem?_range h] at hd
    cases hd
    refine ⟨h, fun x H2 ⟨e1, e2⟩ => ?_⟩
    subst e1 e2
    refine ⟨Step.refl _ _, R1, ?_⟩
    rw [show lo + (i : Nat) * (-1 : Int) = lo - (i : Int) by omega]
    exact .int _
  · rw [List.getElem?_eq_none (by rw [List.length_range]; omega)] at hd
    cases hd
end
section
variable {X : Cx} {G : Wd} {CL : CLT} {W : WX} {tg a b c : Expr} {fa fb fc : Loc → M D} {pos p : Pos}
theorem sim_seq (ha : PE X a (LE X.K G CL W fa)) : PI X tg a (LI X.K G CL W fun L => bd (fa L) seqS) :=
  PI.imp (pi_seq ha) fun σ H R h => by
    refine (LG.bd (RR := rrD X.K CLF) h).imp fun x H1 ⟨μ1, S1, L, d, R1, RL1, ra, h1⟩ => ?_
    cases ra with
    | @tup l q xs ht hr => exact ⟨q, xs, rfl, .inr ⟨SqT.of ht, LA.ok (a := (⟨l, none⟩ : Src)) h1 R1 (it_tup ht hr)⟩⟩
    | @klst l q xs ht hr => exact ⟨q, xs, rfl, .inl ⟨ht.sqL, LA.ok (a := (⟨l, none⟩ : Src)) h1 R1 (it_klst ht hr)⟩⟩
    | @ref k q hm =>
      obtain ⟨mo, em, ho⟩ := R1.at hm
      obtain ⟨r, S', e, h1⟩ := h1
      cases mo with
      | gone =>
        have e2 : seqS (.ref k) S1 = none := by
          show (match S1[k]? with | some (.lst l) => _ | _ => none) = _
          simp only [em]
        rw [e2] at e
        cases e
      | dct kvs lock =>
        have e2 : seqS (.ref k) S1 = none := by
          show (match S1[k]? with | some (.lst l) => _ | _ => none) = _
          simp only [em]
        rw [e2] at e
        cases e
      | lst l =>
        obtain ⟨xs, q1, hr⟩ := R1.own hm em
        have e2 : seqS (.ref k) S1 = some (.val ⟨l, some (k, l)⟩, S1) := by
          show (match S1[k]? with | some (.lst l) => _ | _ => none) = _
          simp only [em]
          rfl
        rw [e2] at e
        cases e
        exact ⟨q, xs, rfl, .inl ⟨SqL.of q1, h1 μ1 H1 _ (Step.refl _ _) R1 (it_own hm)⟩⟩
    | _ => (obtain ⟨r, S', e, _⟩ := h1; cases e)
theorem sim_enum {elts : List Expr} {kk : Nat} {tpos : Pos} (hg : Gl X "enumerate") (hm : X.mg "enumerate" = none) (hp : plainArg a = true) (ha : PE X a (LE X.K G CL W fa)) : PI X (.Tuple elts kk tpos) (.Call (.Name "enumerate" p) [a] [] pos) (LI X.K G CL W fun L => bd (fa L) enumS) :=
  PI.imp (pi_enumA hg hm (pa_cons ha pa_nil (star_cons hp _ _)) (star_cons hp _ _)) fun σ H R h => by
    refine (LG.bd (RR := rrD X.K CLF) h).imp fun x H1 ⟨μ1, S1, L, d, R1, RL1, ra, h1⟩ => ?_
    cases ra with
    | @tup l q xs ht hr => exact ⟨q, xs, rfl, .inr ⟨SqT.of ht, LA.ok (a := (⟨enumL 0 l, none⟩ : Src)) h1 R1 (it_enumT ht hr)⟩⟩
    | @klst l q xs ht hr => exact ⟨q, xs, rfl, .inl ⟨ht.sqL, LA.ok (a := (⟨enumL 0 l, none⟩ : Src)) h1 R1 (it_enumL rfl fun μ2 S2 H2 st R2 _ => ⟨xs, (st.sqR ht).sqL, hr.step st⟩)⟩⟩
    | @ref k q hm =>
      obtain ⟨mo, em, ho⟩ := R1.at hm
      obtain ⟨r, S', e, h1⟩ := h1
      cases mo with
      | gone =>
        have e2 : enumS (.ref k) S1 = none := by
          show (match S1[k]? with | some (.lst l) => _ | _ => none) = _
          simp only [em]
        rw [e2] at e
        cases e
      | dct kvs lock =>
        have e2 : enumS (.ref k) S1 = none := by
          show (match S1[k]? with | some (.lst l) => _ | _ => none) = _
          simp only [em]
        rw [e2] at e
        cases e
      | lst l =>
        obtain ⟨xs, q1, hr⟩ := R1.own hm em
        have e2 : enumS (.ref k) S1 = some (.val ⟨enumL 0 l, some (k, l)⟩, S1) := by
          show (match S1[k]? with | some (.lst l) => _ | _ => none) = _
          simp only [em]
          rfl
        rw [e2] at e
        cases e
        refine ⟨q, xs, rfl, .inl ⟨SqL.of q1, h1 μ1 H1 _ (Step.refl _ _) R1 (it_enumL rfl fun μ2 S2 H2 st R2 hs => ?_)⟩⟩
        obtain ⟨ys, q2, hr2⟩ := R2.own (st.mu hm) (still_own rfl hs)
        exact ⟨ys, SqL.of q2, hr2⟩
    | _ => (obtain ⟨r, S', e, _⟩ := h1; cases e)
theorem sim_rg1 (hg : Gl X "range") (hm : X.mg "range" = none) (hp : plainArg a = true) (ha : PE X a (LE X.K G CL W fa)) : PI X tg (.Call (.Name "range" p) [a] [] pos) (LI X.K G CL W fun L => bd (fa L) rgS1) :=
  PI.imp (pi_range1 hg hm (pa_cons ha pa_nil (star_cons hp _ _)) (star_cons hp _ _)) fun σ H R h => by
    refine (LG.bd (RR := rrD X.K CLF) h).imp fun x H1 ⟨μ1, S1, L, d, R1, RL1, ra, h1⟩ => ?_
    cases ra with
    | int n =>
      obtain ⟨hc, h2⟩ := LA.guard (m := Sim.ok (⟨rangeL 0 n.toNat, none⟩ : Src)) h1
      obtain ⟨s1, s2⟩ := small_of hc
      exact ⟨n, rfl, s1, s2, h2.ok R1 (it_rg 0 n.toNat)⟩
    | _ => (obtain ⟨r, S', e, _⟩ := h1; cases e)
theorem sim_rg2 (hg : Gl X "range") (hm : X.mg "range" = none) (hp : plainArg a = true) (hpb : plainArg b = true) (ha : PE X a (LE X.K G CL W fa)) (hb : PE X b (LE X.K G CL W fb)) : PI X tg (.Call (.Name "range" p) [a, b] [] pos) (LI X.K G CL W fun L => bd (fa L) fun x => bd (fb L) fun y => rgS2 x y) :=
  PI.imp (pi_range2 hg hm (pa_cons ha (pa_cons hb pa_nil (star_cons hpb _ _)) (star_cons hp _ _)) (by rw [star_cons hp, star_cons hpb]; rfl) (by rw [star_cons hpb]; rfl)) fun σ H R h => by
    refine (LG.bd (RR := rrD X.K CLF) h).imp fun x H1 ⟨μ1, S1, L, d, R1, RL1, ra, h1⟩ => ?_
    refine LA.lg (f := fb) (h1.bd.imp fun y H2 ⟨μ2, S2, d2, st2, R2, rb, h2⟩ => ?_) R1 RL1
    cases ra with
    | int i =>
      cases rb with
      | int j =>
        obtain ⟨hc, h3⟩ := LA.guard (m := Sim.ok (⟨rangeL i (j - i).toNat, none⟩ : Src)) h2
        rw [Bool.and_eq_true] at hc
        obtain ⟨s1, s2⟩ := small_of hc.1
        obtain ⟨s3, s4⟩ := small_of hc.2
        exact ⟨i, j, rfl, ⟨s1, s2, s3, s4⟩, h3.ok R2 (it_rg i (j - i).toNat)⟩
      | _ => (obtain ⟨r, S', e, _⟩ := h2; cases e)
    | _ => (obtain ⟨r, S', e, _⟩ := h2; cases d2 <;> cases e)
theorem sim_rg3 (hg : Gl X "range") (hm : X.mg "range" = none) (hp : plainArg a = true) (hpb : plainArg b = true) (hpc : plainArg c = true) (ha : PE X a (LE X.K G CL W fa)) (hb : PE X b (LE X.K G CL W fb)) (hc : PE X c (LE X.K G CL W fc)) :
    PI X tg (.Call (.Name "range" p) [a, b, c] [] pos) (LI X.K G CL W fun L => bd (fa L) fun x => bd (fb L) fun y => bd (fc L) fun z => rgS3 x y z) :=
  PI.imp (pi_range3 hg hm (pa_cons ha (pa_cons hb (pa_cons hc pa_nil (star_cons hpc _ _)) (star_cons hpb _ _)) (star_cons hp _ _)) (star_cons hp _ _) (star_any _ (by rw [List.all_cons, List.all_cons, hpb, hpc]; rfl))) fun σ H R h => by
    refine (LG.bd (RR := rrD X.K CLF) h).imp fun x H1 ⟨μ1, S1, L, d, R1, RL1, ra, h1⟩ => ?_
    refine LA.lg (f := fb) (h1.bd.imp fun y H2 ⟨μ2, S2, d2, st2, R2, rb, h2⟩ => ?_) R1 RL1
    refine LA.lg (f := fc) (h2.bd.imp fun z H3 ⟨μ3, S3, d3, st3, R3, rc, h3⟩ => ?_) R2 (RL1.step st2)
    cases ra with
    | int i =>
      cases rb with
      | int j =>
        cases rc with
        | int k =>
          obtain ⟨hc, h4⟩ := LA.guard (m := Sim.ok (⟨(List.range (i - j).toNat).map fun (k : Nat) => D.int (i - (k : Int)), none⟩ : Src)) h3
          rw [Bool.and_eq_true, Bool.and_eq_true, beq_iff_eq] at hc
          obtain ⟨s1, s2⟩ := small_of hc.1.2
          obtain ⟨s3, s4⟩ := small_of hc.2
          have ek := hc.1.1
          subst ek
          exact ⟨i, j, -1, (i - j).toNat, rfl, RgC.neg s1 s2 s3 s4, h4.ok R3 (it_down i (i - j).toNat)⟩
        | _ => (obtain ⟨r, S', e, _⟩ := h3; cases e)
      | _ => (obtain ⟨r, S', e, _⟩ := h3; cases d3 <;> cases e)
    | _ => (obtain ⟨r, S', e, _⟩ := h3; cases d2 <;> cases d3 <;> cases e)
end
end Sim
set_option Elab.async false
set_option linter.all false
set_option autoImplicit false
set_option maxRecDepth 100000
/-! Sim1k: comprehensions. -/
namespace Sim
open PySem PySem.Spec PyProof.Rows L2
/-- what a value's lying needs -/
structure Keep (μ : List Addr) (H : Hp) (μ' : List Addr) (H' : Hp) : Prop where
  mu : ∀ (r : Nat) (a : Addr), μ[r]? = some a → μ'[r]? = some a
  tups : ∀ b xs, H b = some (.tup xs) → H' b = some (.tup xs)
  frzs : ∀ b o xs, H b = some (.frz o (.lst xs)) → H' b = some (.frz o (.lst xs))
  exts : ∀ b φ, H b = some (.ext φ) → H' b = some (.ext φ)
section
variable {K : PySem.W.Frag} {CL : CLT} {μ μ' : List Addr} {H H' : Hp}
theorem Keep.sqR (s : Keep μ H μ' H') {a : Addr} {xs : List V} (h : SqR K H a xs) : SqR K H' a xs := by
  rcases h with ⟨o, h⟩ | h
  · exact .inl ⟨o, s.frzs _ _ _ h⟩
  · exact .inr h
mutual
theorem Rep.kp (s : Keep μ H μ' H') : ∀ {d : D} {v : V}, Rep K CL μ H d v → Rep K CL μ' H' d v
  | _, _, .non => .non
  | _, _, .bl b => .bl b
  | _, _, .int i => .int i
  | _, _, .str x => .str x
  | _, _, .tup h r => .tup (s.tups _ _ h) (Reps.kp s r)
  | _, _, .klst h r => .klst (s.sqR h) (Reps.kp s r)
  | _, _, .ref h => .ref (s.mu _ _ h)
  | _, _, .clo c h r => .clo c (s.exts _ _ h) (RepC.kp s r)
theorem Reps.kp (s : Keep μ H μ' H') : ∀ {d : List D} {v : List V}, Reps K CL μ H d v → Reps K CL μ' H' d v
  | _, _, .nil => .nil
  | _, _, .cons h r => .cons (Rep.kp s h) (Reps.kp s r)
theorem RepC.kp (s : Keep μ H μ' H') : ∀ {d : List (Option D)} {v : List (Option V)}, RepC K CL μ H d v → RepC K CL μ' H' d v
  | _, _, .nil => .nil
  | _, _, .none r => .none (RepC.kp s r)
  | _, _, .some h r => .some (Rep.kp s h) (RepC.kp s r)
end
theorem RepKV.kp (s : Keep μ H μ' H') {ds : List (D × D)} {kvs : List (Key × V)} (h : RepKV K CL μ H ds kvs) : RepKV K CL μ' H' ds kvs := by
  induction h with
  | nil => exact .nil
  | cons h1 h2 _ ih => exact .cons h1 (h2.kp s) ih
theorem RepKT.kp (s : Keep μ H μ' H') {ds : List (D × D)} {kvs : List (List Key × V)} (h : RepKT K CL μ H ds kvs) : RepKT K CL μ' H' ds kvs := by
  induction h with
  | nil => exact .nil
  | cons h1 h2 _ ih => exact .cons h1 (h2.kp s) ih
theorem RepO.kp (s : Keep μ H μ' H') {a : Addr} {mo : MO} (h : RepO K CL μ H a mo) (e : H' a = H a) : RepO K CL μ' H' a mo := by
  cases h with
  | lst h r => exact .lst (e.trans h) (r.kp s)
  | dK h r => exact .dK (e.trans h) (r.kp s)
  | dT hn h r => exact .dT hn (e.trans h) (r.kp s)
  | gone h x t => exact .gone (e.trans h) x t
/-- a list that is no handle's is changed -/
theorem Keep.off {D : Addr} {acc : List V} {o : HO} (h : H D = some (.lst acc)) : Keep μ H μ (upd H D o) := by
  have ne : ∀ b u, H b = some u → (∀ l, u ≠ .lst l) → b ≠ D := fun b u e q z => by rw [z, h] at e; cases e; exact q _ rfl
  exact ⟨fun _ _ h => h, fun b xs e => by rw [upd_ne (ne b _ e fun l z => by cases z)]; exact e, fun b o u e => by rw [upd_ne (ne b _ e fun l z => by cases z)]; exact e, fun b φ e => by rw [upd_ne (ne b _ e fun l z => by cases z)]; exact e⟩
/-- a new handle, its object was there -/
theorem Keep.adopt {D : Addr} : Keep μ H (μ ++ [D]) H :=
  ⟨fun r a h => by rw [List.getElem?_append_left (List.getElem?_eq_some_iff.mp h).1]; exact h, fun _ _ h => h, fun _ _ _ h => h, fun _ _ h => h⟩
variable {T : List (Addr × Str)} {S : Store}
theorem Rel.off {D : Addr} {acc ys : List V} (R : Rel K CL T μ S H) (hm : D ∉ μ) (h : H D = some (.lst acc)) : Rel K CL T μ S (upd H D (.lst ys)) := by
  refine ⟨R.len, R.nd, fun r mo e => ?_, Tabs.upd R.tabs fun b u e q z => ?_⟩
  · obtain ⟨a, h1, h2⟩ := R.obj r mo e
    exact ⟨a, h1, h2.kp (Keep.off h) (upd_ne fun z => hm (by rw [← z]; exact List.mem_of_getElem? h1))⟩
  · rw [z, h] at e
    cases e
    rcases q with ⟨_, q⟩ | ⟨_, q⟩ <;> cases q
theorem Rel.adopt {D : Addr} {ys : List V} {l : List Sim.D} (R : Rel K CL T μ S H) (hm : D ∉ μ) (h : H D = some (.lst ys)) (r : Reps K CL μ H l ys) : Rel K CL T (μ ++ [D]) (S ++ [.lst l]) H := by
  refine ⟨by rw [List.length_append, List.length_append, R.len]; rfl, ?_, fun q m hr => ?_, R.tabs⟩
  · rw [List.nodup_append]
    exact ⟨R.nd, (by simp), fun a ha b hb e => hm (by rw [← List.mem_singleton.mp hb, ← e]; exact ha)⟩
  · by_cases hlt : q < S.length
    · rw [List.getElem?_append_left hlt] at hr
      obtain ⟨a, h1, h2⟩ := R.obj q m hr
      exact ⟨a, Keep.adopt (H := H) |>.mu _ _ h1, h2.kp Keep.adopt rfl⟩
    · have e : q = S.length := by
        have := (List.getElem?_eq_some_iff.mp hr).1
        rw [List.length_append] at this
        simp only [List.length_singleton] at this
        omega
      subst e
      rw [List.getElem?_append_right (Nat.le_refl _)] at hr
      simp at hr
      subst hr
      exact ⟨D, by rw [← R.len, List.getElem?_append_right (Nat.le_refl _)]; simp, .lst h (r.kp Keep.adopt)⟩
theorem Step.notin (s : Step μ H μ' H') {D : Addr} {o : HO} (hm : D ∉ μ) (h : H D = some o) : D ∉ μ' := by
  obtain ⟨new, e, f⟩ := s.grow
  rw [e]
  intro z
  rcases List.mem_append.mp z with z | z
  · exact hm z
  · rw [f D z] at h; cases h
theorem Step.offset {D : Addr} {o : HO} (s : Step μ H μ' H') (n : H D = none) : Step μ H μ' (upd H' D o) := by
  have ne : ∀ b u, H b = some u → b ≠ D := fun b u h => ne_of_none h n
  refine ⟨s.grow, fun b h => ?_, fun b u h hm ht => by rw [upd_ne (ne _ _ h)]; exact s.other b u h hm ht, fun b xs h => by rw [upd_ne (ne _ _ h)]; exact s.tups _ _ h, fun b u v h => by rw [upd_ne (ne _ _ h)]; exact s.frzs _ _ _ h, fun b φ h => by rw [upd_ne (ne _ _ h)]; exact s.exts _ _ h⟩
  by_cases e : b = D
  · rw [e]; exact n
  · rw [upd_ne e] at h; exact s.dom b h
theorem Step.adopt {D : Addr} (s : Step μ H μ' H') (n : H D = none) : Step μ H (μ' ++ [D]) H' := by
  obtain ⟨new, e, f⟩ := s.grow
  refine ⟨⟨new ++ [D], by rw [e, List.append_assoc], fun b hb => ?_⟩, s.dom, s.other, s.tups, s.frzs, s.exts⟩
  rcases List.mem_append.mp hb with hb | hb
  · exact f b hb
  · rw [List.mem_singleton.mp hb]; exact n
end
theorem wipeL_get (vs : List Nat) (L : Loc) : (wipeL vs L).length = L.length := by
  induction vs with
  | nil => rfl
  | cons v vs ih => show ((wipeL vs L).set v none).length = _; rw [List.length_set]; exact ih
theorem RepL.wipe {K : PySem.W.Frag} {CL : CLT} {μ : List Addr} {H : Hp} {L : Loc} {σ : St} (h : RepL K CL μ H L σ) (vs : List Nat) : RepL K CL μ H (wipeL vs L) (L2.wipe σ vs) := by
  induction vs with
  | nil => exact h
  | cons v vs ih => exact ih.unset v
theorem bd_some {α β : Type} {m : M α} {f : α → M β} {S S' : Store} {b : β} (h : bd m f S = some (.val b, S')) : ∃ a S1, m S = some (.val a, S1) ∧ f a S1 = some (.val b, S') := by
  unfold bd at h
  cases q : m S with
  | none => rw [q] at h; cases h
  | some p =>
    obtain ⟨r, S1⟩ := p
    rw [q] at h
    cases r with
    | val a => exact ⟨a, S1, rfl, h⟩
    | exc x => cases h
theorem noX_some {α : Type} {m : M α} {S S' : Store} {r : Ex α} (h : noX m S = some (r, S')) : ∃ a, r = .val a ∧ m S = some (.val a, S') := by
  unfold noX at h
  cases q : m S with
  | none => rw [q] at h; cases h
  | some p =>
    obtain ⟨r1, S1⟩ := p
    rw [q] at h
    cases r1 with
    | val a => cases h; exact ⟨a, rfl, rfl⟩
    | exc x => cases h
/-- one turn of a comprehension -/
def turn1 (ftg : D → Loc → M Loc) (fifs : Loc → M Bool) (felt : Loc → M D) (d : D) (L : Loc) : M (Option D) :=
  bd (ftg d L) fun L2 => bd (fifs L2) fun b => if b = true then bd (felt L2) fun y => Sim.ok (some y) else Sim.ok none
section
variable {X : Cx} {G : Wd} {CL : CLT} {W W0 : WX} {elt tg iter : Expr} {ifs : List Expr} {scope : Scope} {own : List (Str × Nat)} {pos : Pos} {fit : Loc → M Src} {ftg : D → Loc → M Loc} {fifs : Loc → M Bool} {felt : Loc → M D}
theorem comp_core {J : L2.It} {src : Src} {S1 : Store} {μ1 : List Addr} {H1 : Hp} {L : Loc} {σ : St} {Q : VK} (R1 : RelG X.K G CLF μ1 S1 H1) (RL1 : RepL X.K CL μ1 H1 L σ) (ij : ItOk X.K G μ1 H1 src J)
    (h1 : LA X.K G CLF (rrD X.K CLF) W μ1 S1 (guard' (decide (src.items.length ≤ 1000000)) (bd (noX (cmpRun (turn1 ftg fifs felt) src (wipeL (own.map (·.2)) L) src.items)) fun ys => alloc (.lst ys))) σ H1 Q) :
    ∀ D, H1 D = none → ∃ W' : Nat → Nat → Hp → Prop, (∃ m, W' 0 m (upd H1 D (.lst []))) ∧ ∀ i m H, W' i m H →
      (J.stop i H ∧ Q (.ref D) H) ∨ (J.go i H ∧ ∃ Nx : Hp → Prop, (∀ H', Nx H' → ∃ m', m' < m ∧ W' (i + 1) m' H') ∧ ∀ x H', J.yld i H x H' → gT X.K G CL (own.map (·.2)) ftg x (wipe σ (own.map (·.2))) H' fun σ2 H2 => wipe σ2 (own.map (·.2)) = wipe σ (own.map (·.2)) ∧ LT' X.K G CL W0 fifs σ2 H2 fun b H3 =>
        if b = true then LE X.K G CL W0 felt σ2 H3 fun y H4 => ∃ acc, H4 D = some (.lst acc) ∧ acc.length < sizeLine ∧ Nx (upd H4 D (.lst (acc ++ [y]))) else Nx H3) := fun D hD => by
  obtain ⟨r, Sf', e, hfin⟩ := (LA.guard (m := bd (noX (cmpRun (turn1 ftg fifs felt) src (wipeL (own.map (·.2)) L) src.items)) fun ys => alloc (.lst ys)) h1).2
  have hlen := of_decide_eq_true (LA.guard (m := bd (noX (cmpRun (turn1 ftg fifs felt) src (wipeL (own.map (·.2)) L) src.items)) fun ys => alloc (.lst ys)) h1).1
  generalize hvs : own.map (·.2) = vs at *
  obtain ⟨total, Sf, hrun, rfl, rfl⟩ : ∃ total Sf, cmpRun (turn1 ftg fifs felt) src (wipeL vs L) src.items S1 = some (.val total, Sf) ∧ r = .val (.ref Sf.length) ∧ Sf' = Sf ++ [.lst total] := by
    unfold Sim.bd at e
    cases q : noX (cmpRun (turn1 ftg fifs felt) src (wipeL vs L) src.items) S1 with
    | none => rw [q] at e; cases e
    | some p =>
      obtain ⟨r1, S2⟩ := p
      obtain ⟨a, rfl, q2⟩ := noX_some q
      rw [q] at e
      unfold alloc at e
      cases e
      exact ⟨a, S2, q2, rfl, rfl⟩
  have hfin : ∀ μ' H' v, Step μ1 H1 μ' H' → RelG X.K G CLF μ' (Sf ++ [.lst total]) H' → Rep X.K CLF μ' H' (.ref Sf.length) v → Q v H' := hfin
  have rlw := RL1.wipe vs
  generalize hLw : wipeL vs L = Lw at *
  have nD : D ∉ μ1 := fun z => by
    obtain ⟨o, ho, _⟩ := R1.mem z
    rw [hD] at ho; cases ho
  have R0 : RelG X.K G CLF μ1 S1 (upd H1 D (.lst [])) := R1.new hD
  refine ⟨fun i m H => m = src.items.length - i ∧ i ≤ src.items.length ∧ ∃ μi Si acc ds ys, Step μ1 H1 μi H ∧ RelG X.K G CLF μi Si H ∧ D ∉ μi ∧ H D = some (.lst acc) ∧ Reps X.K CLF μi H ds acc ∧ ds.length ≤ i ∧
      cmpRun (turn1 ftg fifs felt) src Lw (src.items.drop i) Si = some (.val ys, Sf) ∧ ds ++ ys = total,
    ⟨src.items.length, rfl, Nat.zero_le _, μ1, S1, [], [], total, (Step.refl _ _).offset hD, R0, nD, upd_same, .nil, Nat.le_refl _, hrun, rfl⟩, ?_⟩
  rintro i m Hi ⟨rfl, hle, μi, Si, acc, ds, ys, st, Ri, hDi, hacc, hrs, hdl, hr, htot⟩
  by_cases hlt : i < src.items.length
  · -- a turn
    have hd : src.items[i]? = some src.items[i] := List.getElem?_eq_getElem hlt
    generalize src.items[i] = d at hd
    have hdrop : src.items.drop i = d :: src.items.drop (i + 1) := by
      rw [List.drop_eq_getElem_cons hlt]
      congr 1
      rw [List.getElem?_eq_getElem hlt] at hd
      exact Option.some.inj hd
    rw [hdrop] at hr
    unfold cmpRun at hr
    by_cases hst : still src Si = true
    · rw [if_pos hst] at hr
      obtain ⟨oy, Sj, e1, e2⟩ := bd_some hr
      obtain ⟨ys', Sk, e3, e4⟩ := bd_some e2
      have e5 : pushO oy ys' = ys ∧ Sk = Sf := by
        unfold Sim.ok at e4
        cases e4
        exact ⟨rfl, rfl⟩
      obtain ⟨e5, rfl⟩ := e5
      obtain ⟨go, yl⟩ := (ij μi Si Hi st Ri hst).1 i d hd
      refine .inr ⟨go, fun H' => ∃ μj acc' ds', Step μ1 H1 μj H' ∧ RelG X.K G CLF μj Sj H' ∧ D ∉ μj ∧ H' D = some (.lst acc') ∧ Reps X.K CLF μj H' ds' acc' ∧ ds'.length ≤ i + 1 ∧ ds' ++ ys' = total,
        fun H' ⟨μj, acc', ds', a1, a2, a3, a4, a5, a6, a7⟩ => ⟨src.items.length - (i + 1), by omega, rfl, hlt, μj, Sj, acc', ds', ys', a1, a2, a3, a4, a5, a6, e3, a7⟩, fun x H' hy => ?_⟩
      obtain ⟨st1, R', rx⟩ := yl x H' hy
      have keyD : ∀ {μ' : List Addr} {H'' : Hp}, Step μi H' μ' H'' → D ∉ μ' ∧ H'' D = some (.lst acc) ∧ Reps X.K CLF μ' H'' ds acc ∧ Step μ1 H1 μ' H'' := fun {μ' H''} s2 => by
        have s3 := st1.trans s2
        exact ⟨s3.notin hDi hacc, s3.other D _ hacc hDi (fun ps z => by cases z), hrs.step s3, st.trans s3⟩
      -- the whole turn, by values
      have hv : LV X.K G CLF (ν := Option V) (fun μ H o v => match o, v with | some a, some x => Rep X.K CLF μ H a x | none, none => True | _, _ => False) μi Si (turn1 ftg fifs felt d Lw) H' fun ov H'' =>
          match ov with
          | some y => ∃ acc, H'' D = some (.lst acc) ∧ acc.length < sizeLine ∧ ∃ μj acc' ds', Step μ1 H1 μj (upd H'' D (.lst (acc ++ [y]))) ∧ RelG X.K G CLF μj Sj (upd H'' D (.lst (acc ++ [y]))) ∧ D ∉ μj ∧ (upd H'' D (.lst (acc ++ [y]))) D = some (.lst acc') ∧ Reps X.K CLF μj (upd H'' D (.lst (acc ++ [y]))) ds' acc' ∧ ds'.length ≤ i + 1 ∧ ds' ++ ys' = total
          | none => ∃ μj acc' ds', Step μ1 H1 μj H'' ∧ RelG X.K G CLF μj Sj H'' ∧ D ∉ μj ∧ H'' D = some (.lst acc') ∧ Reps X.K CLF μj H'' ds' acc' ∧ ds'.length ≤ i + 1 ∧ ds' ++ ys' = total := by
        refine ⟨oy, Sj, e1, fun μ' H'' v s2 R2 rv => ?_⟩
        obtain ⟨k1, k2, k3, k4⟩ := keyD s2
        cases oy with
        | some y =>
          cases v with
          | none => exact rv.elim
          | some z =>
            have rv : Rep X.K CLF μ' H'' y z := rv
            refine ⟨acc, k2, ?_, μ', acc ++ [z], ds ++ [y], k4.offset hD, R2.off k1 k2, k1, upd_same, ?_, ?_, ?_⟩
            · rw [← k3.length, ← lim_eq]
              unfold LIM
              omega
            · exact (k3.append (.cons rv .nil)).kp (Keep.off k2)
            · rw [List.length_append]
              simp only [List.length_singleton]
              omega
            · rw [List.append_assoc, ← htot, ← e5]
              rfl
        | none =>
          cases v with
          | some z => exact rv.elim
          | none => exact ⟨μ', acc, ds, k4, R2, k1, k2, k3, by omega, by rw [← htot, ← e5]; rfl⟩
      refine ⟨μi, Lw, Si, d, R', (rlw.step st).step st1, rx, LV.imp (LV.bd (RR := rrL X.K CL vs (wipe σ vs)) (m := ftg d Lw) (f := fun L2 => Sim.bd (fifs L2) fun b => if b = true then Sim.bd (felt L2) fun y => Sim.ok (some y) else Sim.ok none) hv) fun σ2 H2 ⟨μ2, S2, L2', s2, R2, ⟨RL2, o2⟩, h2⟩ => ?_⟩
      refine ⟨o2.wipe.trans (wipe_off vs σ), μ2, L2', S2, R2, RL2, LV.la (LV.imp (LV.bd (RR := rrB) (m := fifs L2') (f := fun b => if b = true then Sim.bd (felt L2') fun y => Sim.ok (some y) else Sim.ok none) h2) fun b H3 ⟨μ3, S3, b', s3, R3, eb, h3⟩ => ?_)⟩
      have eb : b' = b := eb
      subst eb
      cases b' with
      | true =>
        rw [if_pos rfl]
        refine ⟨μ3, L2', S3, R3, RL2.step s3, LV.la (LV.imp (LV.bd (RR := rrD X.K CLF) (m := felt L2') (f := fun y => Sim.ok (some y)) h3) fun y H4 ⟨μ4, S4, y', s4, R4, ry, h4⟩ => ?_)⟩
        exact h4.here (v := some y) rfl R4 ry
      | false =>
        rw [if_neg Bool.false_ne_true]
        exact LV.here (v := none) h3 rfl R3 trivial
    · rw [if_neg hst] at hr
      cases hr
  · -- the end
    have hi : i = src.items.length := by omega
    subst hi
    rw [List.drop_length] at hr
    unfold cmpRun at hr
    by_cases hst : still src Si = true
    · rw [if_pos hst] at hr
      cases hr
      rw [List.append_nil] at htot
      subst htot
      refine .inl ⟨(ij μi _ Hi st Ri hst).2, hfin (μi ++ [D]) Hi (.ref D) (st.adopt hD) (Ri.adopt hDi hacc hrs) (.ref ?_)⟩
      rw [← Ri.len, List.getElem?_append_right (Nat.le_refl _)]
      simp
    · rw [if_neg hst] at hr
      cases hr
theorem sim_comp (hc : X.calm = true) (hN : X.N.Nodup) (hi : PI X tg iter (LI X.K G CL W fit)) (ok : BlkOk X.N X.env.scope scope own)
    (hg : ∀ (s : Shared) (H : Hp) (C : Addr) (cl : List (Str × Addr)) (fp : List Addr), PG (X.blk s H scope (compEnvC scope cl C X.env) fp) tg (gT X.K G CL (own.map (·.2)) ftg))
    (ht : ∀ (s : Shared) (H : Hp) (C : Addr) (cl : List (Str × Addr)) (fp : List Addr), PTs (X.blk s H scope (compEnvC scope cl C X.env) fp) ifs (LT' X.K G CL W0 fifs))
    (he : ∀ (s : Shared) (H : Hp) (C : Addr) (cl : List (Str × Addr)) (fp : List Addr), PE (X.blk s H scope (compEnvC scope cl C X.env) fp) elt (LE X.K G CL W0 felt)) (hs : ∀ x, foldedSetIterable iter X.env x = pure x) :
    ∀ σ H Q, LE X.K G CL W (fun L => bd (fit L) fun src => guard' (decide (src.items.length ≤ 1000000)) (bd (noX (cmpRun (turn1 ftg fifs felt) src (wipeL (own.map (·.2)) L) src.items)) fun ys => alloc (.lst ys))) σ H Q →
      tLc (LI X.K G CL W fit) (gT X.K G CL (own.map (·.2)) ftg) (LT' X.K G CL W0 fifs) (LE X.K G CL W0 felt) (own.map (·.2)) σ H Q := fun σ H Q h => by
  exact (LG.bd (RR := rrS X.K G) h).imp fun J H1 ⟨μ1, S1, L, src, R1, RL1, ij, h1⟩ => comp_core R1 RL1 ij h1
end
end Sim
set_option Elab.async false
set_option linter.all false
set_option autoImplicit false
set_option maxRecDepth 100000
/-! Sim1l: statements. -/
namespace Sim
open PySem PySem.Spec PyProof.Rows L2
section
variable (K : PySem.W.Frag) (G : Wd) (CL : CLT) (W : WX)
/-- a run's result, from the state (μ, S, H) -/
def LSA (μ : List Addr) (H : Hp) (r : R) (D : Ends) : Prop := ∃ o L' S', r = some (o, L', S') ∧ match o with
  | .nx => ∀ μ' H' σ', Step μ H μ' H' → RelG K G CLF μ' S' H' → RepL K CL μ' H' L' σ' → D.nx σ' H'
  | .bk => ∀ μ' H' σ', Step μ H μ' H' → RelG K G CLF μ' S' H' → RepL K CL μ' H' L' σ' → D.bk σ' H'
  | .ct => ∀ μ' H' σ', Step μ H μ' H' → RelG K G CLF μ' S' H' → RepL K CL μ' H' L' σ' → D.ct σ' H'
  | .ret d => ∀ μ' H' v, Step μ H μ' H' → RelG K G CLF μ' S' H' → Rep K CLF μ' H' d v → D.rt v H'
  | .exc x => ∀ μ' H' dx σ', Step μ H μ' H' → RelG K G CLF μ' S' H' → RepL K CL μ' H' L' σ' → RepX K CLF μ' H' x dx → W (.ref (G.cls x.cls)) (some dx) σ' H'
def LS (f : Loc → Store → R) : TS := fun D σ H => ∃ μ L S, RelG K G CLF μ S H ∧ RepL K CL μ H L σ ∧ LSA K G CL W μ H (f L S) D
end
section
variable {K : PySem.W.Frag} {G : Wd} {CL : CLT} {W : WX} {μ μ1 : List Addr} {S : Store} {H H1 : Hp} {σ : St} {L : Loc} {D D' : Ends} {r : R}
theorem LSA.step (h : LSA K G CL W μ H r D) (s : Step μ H μ1 H1) : LSA K G CL W μ1 H1 r D := by
  obtain ⟨o, L', S', e, h⟩ := h
  refine ⟨o, L', S', e, ?_⟩
  cases o with
  | nx => exact fun μ' H' σ' s1 => h μ' H' σ' (s.trans s1)
  | bk => exact fun μ' H' σ' s1 => h μ' H' σ' (s.trans s1)
  | ct => exact fun μ' H' σ' s1 => h μ' H' σ' (s.trans s1)
  | ret d => exact fun μ' H' v s1 => h μ' H' v (s.trans s1)
  | exc x => exact fun μ' H' dx σ' s1 => h μ' H' dx σ' (s.trans s1)
theorem LSA.no (h : LSA K G CL W μ H none D) : False := by
  obtain ⟨o, L', S', e, h⟩ := h
  cases e
theorem LSA.nx {L' : Loc} {S' : Store} (h : LSA K G CL W μ H (some (.nx, L', S')) D) (R : RelG K G CLF μ S' H) (RL : RepL K CL μ H L' σ) : D.nx σ H := by
  obtain ⟨o, L1, S1, e, h⟩ := h
  cases e
  exact h μ H σ (Step.refl _ _) R RL
theorem LSA.ret {L' : Loc} {S' : Store} {d : Sim.D} {v : V} (h : LSA K G CL W μ H (some (.ret d, L', S')) D) (R : RelG K G CLF μ S' H) (r : Rep K CLF μ H d v) : D.rt v H := by
  obtain ⟨o, L1, S1, e, h⟩ := h
  cases e
  exact h μ H v (Step.refl _ _) R r
/-- an expression first -/
theorem LSA.ex {α ν : Type} {RR : RRT α ν} {m : M α} {k : α → Store → R} (h : LSA K G CL W μ H (Sim.ex m L S k) D) (RL : RepL K CL μ H L σ) :
    LA K G CLF RR W μ S m σ H fun v H1 => ∃ μ1 S1 a, Step μ H μ1 H1 ∧ RelG K G CLF μ1 S1 H1 ∧ RR μ1 H1 a v ∧ LSA K G CL W μ1 H1 (k a S1) D := by
  unfold Sim.ex at h
  cases q : m S with
  | none => rw [q] at h; exact h.no.elim
  | some p =>
    obtain ⟨r, S1⟩ := p
    rw [q] at h
    cases r with
    | val a => exact ⟨.val a, S1, q, fun μ1 H1 v s R1 rr => ⟨μ1, S1, a, s, R1, rr, h.step s⟩⟩
    | exc x =>
      refine ⟨.exc x, S1, q, fun μ1 H1 dx s R1 rx => ?_⟩
      obtain ⟨o, L', S', e, h⟩ := h
      cases e
      exact h μ1 H1 dx σ s R1 (RL.step s) rx
theorem LS.ex {α ν : Type} {RR : RRT α ν} {m : Loc → M α} {k : Loc → α → Store → R} (h : LS K G CL W (fun L S => Sim.ex (m L) L S (k L)) D σ H) :
    LG K G CL RR W m σ H fun v H1 => ∃ μ1 S1 L a, RelG K G CLF μ1 S1 H1 ∧ RepL K CL μ1 H1 L σ ∧ RR μ1 H1 a v ∧ LSA K G CL W μ1 H1 (k L a S1) D := by
  obtain ⟨μ, L, S, R, RL, h⟩ := h
  exact ⟨μ, L, S, R, RL, (LSA.ex h RL).imp fun v H1 ⟨μ1, S1, a, s, R1, rr, h1⟩ => ⟨μ1, S1, L, a, R1, RL.step s, rr, h1⟩⟩
/-- other ends -/
theorem LSA.ends (h : LSA K G CL W μ H r D) (hn : ∀ σ H, D.nx σ H → D'.nx σ H) (hb : ∀ σ H, D.bk σ H → D'.bk σ H) (hc : ∀ σ H, D.ct σ H → D'.ct σ H) (hr : ∀ v H, D.rt v H → D'.rt v H) : LSA K G CL W μ H r D' := by
  obtain ⟨o, L', S', e, h⟩ := h
  refine ⟨o, L', S', e, ?_⟩
  cases o with
  | nx => exact fun μ' H' σ' s R rl => hn _ _ (h μ' H' σ' s R rl)
  | bk => exact fun μ' H' σ' s R rl => hb _ _ (h μ' H' σ' s R rl)
  | ct => exact fun μ' H' σ' s R rl => hc _ _ (h μ' H' σ' s R rl)
  | ret d => exact fun μ' H' v s R rl => hr _ _ (h μ' H' v s R rl)
  | exc x => exact h
end
section
variable {X : Cx} {G : Wd} {CL : CLT} {W : WX} {e tg iter c : Expr} {fe : Loc → M D} {fc : Loc → M Bool} {fit : Loc → M Src} {ftg : D → Loc → M Loc} {vs : List Nat} {pos : Pos} {st : Stmt} {sts p q : List Stmt} {f g : Loc → Store → R}
theorem sim_ssnil : PSs X [] (LS X.K G CL W fun L S => some (.nx, L, S)) :=
  PSs.imp pss_nil fun D σ H ⟨μ, L, S, R, RL, h⟩ => h.nx R RL
theorem sim_sscons (h1 : PS X st (LS X.K G CL W f)) (h2 : PSs X sts (LS X.K G CL W g)) : PSs X (st :: sts) (LS X.K G CL W fun L S => match f L S with
    | some (.nx, L1, S1) => g L1 S1
    | x => x) :=
  PSs.imp (pss_cons h1 h2) fun D σ H ⟨μ, L, S, R, RL, h⟩ => by
    refine ⟨μ, L, S, R, RL, ?_⟩
    dsimp only at h
    cases q : f L S with
    | none => rw [q] at h; exact h.no.elim
    | some p =>
      obtain ⟨o, L1, S1⟩ := p
      rw [q] at h
      cases o with
      | nx => exact ⟨.nx, L1, S1, rfl, fun μ' H' σ' s R1 rl => ⟨μ', L1, S1, R1, rl, LSA.step h s⟩⟩
      | _ =>
        obtain ⟨o2, L2', S2, e2, h2⟩ := h
        cases e2
        exact ⟨_, _, _, rfl, h2⟩
theorem sim_ret (he : PE X e (LE X.K G CL W fe)) : PS X (.Return (some e) pos) (LS X.K G CL W fun L S => ex (fe L) L S fun d S1 => some (.ret d, L, S1)) :=
  PS.imp (ps_ret he) fun D σ H h => (LS.ex (RR := rrD X.K CLF) h).imp fun v H1 ⟨μ1, S1, L, a, R1, RL1, ra, h1⟩ => h1.ret R1 ra
theorem sim_ret0 : PS X (.Return none pos) (LS X.K G CL W fun L S => some (.ret .non, L, S)) :=
  PS.imp ps_retN fun D σ H ⟨μ, L, S, R, RL, h⟩ => h.ret R .non
theorem sim_pass : PS X (.Pass pos) (LS X.K G CL W fun L S => some (.nx, L, S)) :=
  PS.imp ps_pass fun D σ H ⟨μ, L, S, R, RL, h⟩ => h.nx R RL
theorem sim_brk : PS X (.Break pos) (LS X.K G CL W fun L S => some (.bk, L, S)) :=
  PS.imp ps_break fun D σ H ⟨μ, L, S, R, RL, h⟩ => by
    obtain ⟨o, L', S', e, h⟩ := h
    cases e
    exact h μ H σ (Step.refl _ _) R RL
theorem sim_cont : PS X (.Continue pos) (LS X.K G CL W fun L S => some (.ct, L, S)) :=
  PS.imp ps_continue fun D σ H ⟨μ, L, S, R, RL, h⟩ => by
    obtain ⟨o, L', S', e, h⟩ := h
    cases e
    exact h μ H σ (Step.refl _ _) R RL
def noComp : Expr → Bool
  | .ListComp .. | .SetComp .. | .DictComp .. => false
  | _ => true
theorem swaps_none (h : noComp e = true) (t : Option Expr) (n : Nat) (env : Env) : swapsWith e t n env = pure false := by
  cases e <;> first | rfl | cases h
theorem sim_expr (hn : noComp e = true) (he : PE X e (LE X.K G CL W fe)) : PS X (.Expr e pos) (LS X.K G CL W fun L S => ex (fe L) L S fun _ S1 => some (.nx, L, S1)) :=
  PS.imp (ps_expr he (swaps_none hn _ _ _)) fun D σ H h => (LS.ex (RR := rrD X.K CLF) h).imp fun v H1 ⟨μ1, S1, L, a, R1, RL1, ra, h1⟩ => h1.nx R1 RL1
theorem sim_if (hc : PT X c (LT' X.K G CL W fc)) (ha : PSs X p (LS X.K G CL W f)) (hb : PSs X q (LS X.K G CL W g)) : PS X (.If c p q pos) (LS X.K G CL W fun L S => ex (fc L) L S fun t S1 => if t = true then f L S1 else g L S1) :=
  PS.imp (ps_if hc ha hb) fun D σ H h => by
    refine (LS.ex (RR := rrB) h).imp fun t H1 ⟨μ1, S1, L, d, R1, RL1, e, h1⟩ => ?_
    have e : d = t := e
    subst e
    cases d with
    | true => exact ⟨μ1, L, S1, R1, RL1, h1⟩
    | false => exact ⟨μ1, L, S1, R1, RL1, h1⟩
/-- a target's store does not raise -/
def TgOk (ftg : D → Loc → M Loc) : Prop := ∀ d L S r S', ftg d L S = some (r, S') → ∃ L', r = .val L'
theorem LSA.tgt {μ : List Addr} {S : Store} {H : Hp} {D : Ends} {L : Loc} {d : Sim.D} {v : V} {k : Loc → Store → R} {σ : St} (ho : TgOk ftg) (h : LSA X.K G CL W μ H (Sim.ex (ftg d L) L S k) D) (R : RelG X.K G CLF μ S H) (RL : RepL X.K CL μ H L σ) (r : Rep X.K CLF μ H d v)
    {Q : St → Hp → Prop} (hq : ∀ μ1 S1 L1 H1 σ1, RelG X.K G CLF μ1 S1 H1 → RepL X.K CL μ1 H1 L1 σ1 → Off vs σ σ1 → LSA X.K G CL W μ1 H1 (k L1 S1) D → Q σ1 H1) : gT X.K G CL vs ftg v σ H Q := by
  have h2 := LSA.ex (RR := rrL X.K CL vs σ) h RL
  exact ⟨μ, L, S, d, R, RL, r, LV.imp (h2.lv fun r S' e => ho d L S r S' e) fun σ1 H1 ⟨μ1, S1, L1, s1, R1, ⟨RL1, o1⟩, h3⟩ => hq μ1 S1 L1 H1 σ1 R1 RL1 o1 h3⟩
theorem asg_ends (ho : TgOk ftg) {D : Ends} {σ : St} {H : Hp} {t : TE} (ht : ∀ Q, LE X.K G CL W fe σ H Q → t σ H Q) (h : LS X.K G CL W (fun L S => ex (fe L) L S fun d S1 => ex (ftg d L) L S1 fun L1 S2 => some (.nx, L1, S2)) D σ H) :
    tAsg t (gT X.K G CL vs ftg) D σ H :=
  ht _ ((LS.ex (RR := rrD X.K CLF) h).imp fun v H1 ⟨μ1, S1, L, a, R1, RL1, ra, h1⟩ => LSA.tgt ho h1 R1 RL1 ra fun μ2 S2 L2' H2 σ2 R2 RL2 _ h2 => h2.nx R2 RL2)
theorem sim_asg (ho : TgOk ftg) (hp : plainArg tg = true) (he : PE X e (LE X.K G CL W fe)) (hg : PG X tg (gT X.K G CL vs ftg)) (hs : swapsWithSole [tg] e pos.line X.env = pure false) (hw : swappedStores [tg] e X.env = pure none) :
    PS X (.Assign [tg] e pos) (LS X.K G CL W fun L S => ex (fe L) L S fun d S1 => ex (ftg d L) L S1 fun L1 S2 => some (.nx, L1, S2)) :=
  PS.imp (ps_asg he hg hs hw (by rw [assignEach_cons hp]; rfl)) fun D σ H h => asg_ends ho (fun _ q => q) h
theorem for_core {J : L2.It} {src : Src} {S1 : Store} {μ1 : List Addr} {H1 : Hp} {L : Loc} {σ : St} {D : Ends} (ho : TgOk ftg) (R1 : RelG X.K G CLF μ1 S1 H1) (RL1 : RepL X.K CL μ1 H1 L σ) (ij : ItOk X.K G μ1 H1 src J)
    (h1 : LSA X.K G CL W μ1 H1 (forRun (fun d L1 S2 => ex (ftg d L1) L1 S2 fun L2 S3 => f L2 S3) src src.items L S1) D) :
    ∃ W' : Nat → Nat → St → Hp → Prop, (∃ m, W' 0 m σ H1) ∧ ∀ i m σ H, W' i m σ H →
      (J.stop i H ∧ D.nx σ H) ∨ (J.go i H ∧ ∃ N : St → Hp → Prop, (∀ σ' H', N σ' H' → ∃ m', m' < m ∧ W' (i + 1) m' σ' H') ∧ ∀ x H', J.yld i H x H' → gT X.K G CL vs ftg x σ H' fun σ2 H2 => LS X.K G CL W f { D with nx := N, ct := N, bk := D.nx } σ2 H2) := by
  generalize hF : (fun d L1 S2 => Sim.ex (ftg d L1) L1 S2 fun L2 S3 => f L2 S3) = F at h1
  refine ⟨fun i m σ H => m = src.items.length - i ∧ i ≤ src.items.length ∧ ∃ μi Si Li, Step μ1 H1 μi H ∧ RelG X.K G CLF μi Si H ∧ RepL X.K CL μi H Li σ ∧ LSA X.K G CL W μi H (forRun F src (src.items.drop i) Li Si) D,
    ⟨src.items.length, rfl, Nat.zero_le _, μ1, S1, L, Step.refl _ _, R1, RL1, h1⟩, ?_⟩
  rintro i m σi Hi ⟨rfl, hle, μi, Si, Li, st, Ri, RLi, hr⟩
  by_cases hlt : i < src.items.length
  · have hd : src.items[i]? = some src.items[i] := List.getElem?_eq_getElem hlt
    generalize src.items[i] = d at hd
    have hdrop : src.items.drop i = d :: src.items.drop (i + 1) := by
      rw [List.drop_eq_getElem_cons hlt]
      congr 1
      rw [List.getElem?_eq_getElem hlt] at hd
      exact Option.some.inj hd
    rw [hdrop] at hr
    unfold forRun at hr
    by_cases hst : still src Si = true
    · rw [if_pos hst] at hr
      obtain ⟨go, yl⟩ := (ij μi Si Hi st Ri hst).1 i d hd
      refine .inr ⟨go, fun σ' H' => ∃ μj Sj Lj, Step μ1 H1 μj H' ∧ RelG X.K G CLF μj Sj H' ∧ RepL X.K CL μj H' Lj σ' ∧ LSA X.K G CL W μj H' (forRun F src (src.items.drop (i + 1)) Lj Sj) D,
        fun σ' H' ⟨μj, Sj, Lj, a1, a2, a3, a4⟩ => ⟨src.items.length - (i + 1), by omega, rfl, hlt, μj, Sj, Lj, a1, a2, a3, a4⟩, fun x H' hy => ?_⟩
      obtain ⟨st1, R', rx⟩ := yl x H' hy
      have st' := st.trans st1
      -- the turn as a run of its own
      have turn : LSA X.K G CL W μi H' (F d Li Si) { D with
          nx := fun σ' H' => ∃ μj Sj Lj, Step μ1 H1 μj H' ∧ RelG X.K G CLF μj Sj H' ∧ RepL X.K CL μj H' Lj σ' ∧ LSA X.K G CL W μj H' (forRun F src (src.items.drop (i + 1)) Lj Sj) D,
          ct := fun σ' H' => ∃ μj Sj Lj, Step μ1 H1 μj H' ∧ RelG X.K G CLF μj Sj H' ∧ RepL X.K CL μj H' Lj σ' ∧ LSA X.K G CL W μj H' (forRun F src (src.items.drop (i + 1)) Lj Sj) D,
          bk := D.nx } := by
        have hr := LSA.step hr st1
        cases q : F d Li Si with
        | none => rw [q] at hr; exact hr.no.elim
        | some r =>
          obtain ⟨o, L1, S2⟩ := r
          rw [q] at hr
          cases o with
          | nx => exact ⟨.nx, L1, S2, rfl, fun μ' H'' σ' s R2 rl => ⟨μ', S2, L1, st'.trans s, R2, rl, LSA.step hr s⟩⟩
          | ct => exact ⟨.ct, L1, S2, rfl, fun μ' H'' σ' s R2 rl => ⟨μ', S2, L1, st'.trans s, R2, rl, LSA.step hr s⟩⟩
          | bk =>
            obtain ⟨o2, L3, S3, e3, h3⟩ := hr
            cases e3
            exact ⟨.bk, L1, S2, rfl, h3⟩
          | ret v =>
            obtain ⟨o2, L3, S3, e3, h3⟩ := hr
            cases e3
            exact ⟨_, _, _, rfl, h3⟩
          | exc z =>
            obtain ⟨o2, L3, S3, e3, h3⟩ := hr
            cases e3
            exact ⟨_, _, _, rfl, h3⟩
      subst hF
      exact LSA.tgt (k := fun L2 S3 => f L2 S3) ho turn R' (RLi.step st1) rx fun μ2 S2 L2' H2 σ2 R2 RL2 _ h2 => ⟨μ2, L2', S2, R2, RL2, h2⟩
    · rw [if_neg hst] at hr
      exact hr.no.elim
  · have hi : i = src.items.length := by omega
    subst hi
    rw [List.drop_length] at hr
    unfold forRun at hr
    by_cases hst : still src Si = true
    · rw [if_pos hst] at hr
      exact .inl ⟨(ij μi Si Hi st Ri hst).2, hr.nx Ri RLi⟩
    · rw [if_neg hst] at hr
      exact hr.no.elim
theorem sim_for (hp : PassesOwn (model X.prog X.w) X.A X.env X.xe) (hc : X.calm = true) (ho : TgOk ftg) (hi : PI X tg iter (LI X.K G CL W fit)) (hg : PG X tg (gT X.K G CL vs ftg)) (hb : PSs X p (LS X.K G CL W f)) (hs : ∀ x, foldedSetIterable iter X.env x = pure x) :
    PS X (.For tg iter p [] pos) (LS X.K G CL W fun L S => ex (fit L) L S fun src S1 => forRun (fun d L1 S2 => ex (ftg d L1) L1 S2 fun L2 S3 => f L2 S3) src src.items L S1) :=
  PS.imp (ps_for hp hc hi hg hb hs) fun D σ H h => (LS.ex (RR := rrS X.K G) h).imp fun J H1 ⟨μ1, S1, L, src, R1, RL1, ij, h1⟩ => for_core ho R1 RL1 ij h1
theorem sim_while {n : Nat} (hp : PassesOwn (model X.prog X.w) X.A X.env X.xe) (hc : PT X c (LT' X.K G CL W fc)) (hb : PSs X p (LS X.K G CL W f)) : PS X (.While c p [] pos) (LS X.K G CL W fun L S => whlRun fc f n L S) :=
  PS.imp (ps_while hp hc hb) fun D σ H ⟨μ, L, S, R, RL, h⟩ => by
    refine ⟨fun m σ H => ∃ μi Si Li, RelG X.K G CLF μi Si H ∧ RepL X.K CL μi H Li σ ∧ LSA X.K G CL W μi H (whlRun fc f m Li Si) D, ⟨n, μ, S, L, R, RL, h⟩, ?_⟩
    rintro m σi Hi ⟨μi, Si, Li, Ri, RLi, hr⟩
    cases m with
    | zero => exact hr.no.elim
    | succ m =>
      unfold whlRun at hr
      refine LA.lg (f := fc) ((LSA.ex (RR := rrB) hr RLi).imp fun b H2 ⟨μ2, S2, b', s2, R2, eb, h2⟩ => ?_) Ri RLi
      have eb : b' = b := eb
      subst eb
      cases b' with
      | false => exact h2.nx R2 (RLi.step s2)
      | true =>
        rw [if_pos rfl] at h2 ⊢
        refine ⟨fun σ' H' => ∃ μj Sj Lj, RelG X.K G CLF μj Sj H' ∧ RepL X.K CL μj H' Lj σ' ∧ LSA X.K G CL W μj H' (whlRun fc f m Lj Sj) D, fun σ' H' q => ⟨m, Nat.lt_succ_self _, q⟩, μ2, Li, S2, R2, RLi.step s2, ?_⟩
        cases q : f Li S2 with
        | none => rw [q] at h2; exact h2.no.elim
        | some r =>
          obtain ⟨o, L1, S3⟩ := r
          rw [q] at h2
          cases o with
          | nx => exact ⟨.nx, L1, S3, rfl, fun μ' H'' σ' s R3 rl => ⟨μ', S3, L1, R3, rl, LSA.step h2 s⟩⟩
          | ct => exact ⟨.ct, L1, S3, rfl, fun μ' H'' σ' s R3 rl => ⟨μ', S3, L1, R3, rl, LSA.step h2 s⟩⟩
          | bk =>
            obtain ⟨o2, L3, S3, e3, h3⟩ := h2
            cases e3
            exact ⟨.bk, _, _, rfl, h3⟩
          | ret v =>
            obtain ⟨o2, L3, S3, e3, h3⟩ := h2
            cases e3
            exact ⟨_, _, _, rfl, h3⟩
          | exc z =>
            obtain ⟨o2, L3, S3, e3, h3⟩ := h2
            cases e3
            exact ⟨_, _, _, rfl, h3⟩
/-- several names stored at once -/
def putsL : List Nat → List D → Loc → M Loc
  | [], [], L => Sim.ok L
  | i :: is, d :: ds, L => if i < L.length then putsL is ds (L.set i (some d)) else stk
  | _, _, _ => stk
def parL (is : List Nat) (d : D) (L : Loc) : M Loc := match d with
  | .tup l => putsL is l L
  | _ => stk
theorem putsL_some {K : PySem.W.Frag} {CL : CLT} {μ : List Addr} {H : Hp} : ∀ {is : List Nat} {ds : List D} {L : Loc} {σ : St} {xs : List V} {S S' : Store} {r : Ex Loc}, putsL is ds L S = some (r, S') → RepL K CL μ H L σ → Reps K CLF μ H ds xs → ∃ L', r = .val L' ∧ S' = S ∧ RepL K CL μ H L' ((is.zip xs).foldl (fun s p => s.set p.1 (some p.2)) σ)
  | [], [], L, σ, _, S, S', r, h, RL, .nil => by cases h; exact ⟨L, rfl, rfl, RL⟩
  | i :: is, d :: ds, L, σ, x :: xs, S, S', r, h, RL, .cons rd rs => by
    unfold putsL at h
    by_cases hi : i < L.length
    · rw [if_pos hi] at h
      exact putsL_some (is := is) h (RL.set (.val rd)) rs
    · rw [if_neg hi] at h
      cases h
  | [], _ :: _, _, _, _, _, _, _, h, _, _ => by cases h
  | _ :: _, [], _, _, _, _, _, _, h, _, _ => by cases h
theorem par_ends {es : List Expr} {is : List Nat} {fs : Loc → M (List D)} {D : Ends} {σ : St} {H : Hp} (hl : ∀ L S ds S', fs L S = some (.val ds, S') → ds.length = is.length)
    (h : LS X.K G CL W (fun L S => ex (bd (fs L) fun ds => Sim.ok (.tup ds)) L S fun d S1 => ex (parL is d L) L S1 fun L1 S2 => some (.nx, L1, S2)) D σ H) :
    LAs X.K G CL W fs σ H fun vs H1 => vs.length = is.length ∧ D.nx ((is.zip vs).foldl (fun s p => s.set p.1 (some p.2)) σ) H1 := by
  obtain ⟨μ, L, S, R, RL, h⟩ := h
  have h2 : LSA X.K G CL W μ H (Sim.ex (fs L) L S fun ds S1 => Sim.ex (putsL is ds L) L S1 fun L1 S2 => some (.nx, L1, S2)) D := by
    unfold Sim.ex Sim.bd at h
    dsimp only at h
    unfold Sim.ex
    cases q : fs L S with
    | none => rw [q] at h; exact h.no.elim
    | some p =>
      obtain ⟨r, S1⟩ := p
      rw [q] at h
      cases r <;> exact h
  refine ⟨μ, L, S, R, RL, ?_⟩
  have hl := hl L S
  obtain ⟨r, S', e, h3⟩ := LSA.ex (RR := rrA X.K CLF) h2 RL
  refine ⟨r, S', e, ?_⟩
  cases r with
  | exc x => exact h3
  | val ds =>
    intro μ1 H1 v s1 R1 rr
    have hn := hl ds S' e
    obtain ⟨o, L', S'', e2, h4⟩ : LSA X.K G CL W μ1 H1 (Sim.ex (putsL is ds L) L S' fun L1 S2 => some (.nx, L1, S2)) D := by
      have := h2
      unfold Sim.ex at this
      rw [e] at this
      exact LSA.step this s1
    unfold Sim.ex at e2
    cases q : putsL is ds L S' with
    | none => rw [q] at e2; cases e2
    | some p =>
      obtain ⟨r1, S2⟩ := p
      obtain ⟨L1, rfl, rfl, RL2⟩ := putsL_some q (RL.step s1) rr
      rw [q] at e2
      cases e2
      exact ⟨by rw [← rr.length]; exact hn, h4 μ1 H1 _ (Step.refl _ _) R1 RL2⟩
/-- a, b = x, y of two local names -/
theorem sim_par {i j : Nat} {x y : Str} {a b : Expr} {fs : Loc → M (List D)} {px py pt pt2 : Pos} {kt k2 : Nat} (hc : X.calm = true) (hN : X.N.Nodup) (hi : X.N[i]? = some x) (hj : X.N[j]? = some y) (hij : i ≠ j) (hx : X.env.scope.names.lookup x = some .local) (hy : X.env.scope.names.lookup y = some .local)
    (ha : PA X [a, b] (LAs X.K G CL W fs)) (hw : swappedStores [.Tuple [.Name x px, .Name y py] kt pt] (.Tuple [a, b] k2 pt2) X.env = pure (some [x, y])) (hl : ∀ L S ds S', fs L S = some (.val ds, S') → ds.length = 2) :
    PS X (.Assign [.Tuple [.Name x px, .Name y py] kt pt] (.Tuple [a, b] k2 pt2) pos) (LS X.K G CL W fun L S => ex (bd (fs L) fun ds => Sim.ok (.tup ds)) L S fun d S1 => ex (parL [i, j] d L) L S1 fun L1 S2 => some (.nx, L1, S2)) :=
  PS.imp (ps_par hc hN hi hj hij hx hy ha hw (by rfl)) fun D σ H h => (par_ends (es := []) hl h).imp fun vs H1 ⟨hn, h1⟩ => by
    match vs, hn, h1 with
    | [v, w], _, h1 => exact ⟨v, w, rfl, h1⟩
theorem sim_par3 {i j l : Nat} {x y z : Str} {a b c : Expr} {fs : Loc → M (List D)} {px py pz pt pt2 : Pos} {kt k2 : Nat} (hc : X.calm = true) (hN : X.N.Nodup) (hi : X.N[i]? = some x) (hj : X.N[j]? = some y) (hl3 : X.N[l]? = some z) (hij : i ≠ j) (hil : i ≠ l) (hjl : j ≠ l)
    (hx : X.env.scope.names.lookup x = some .local) (hy : X.env.scope.names.lookup y = some .local) (hz : X.env.scope.names.lookup z = some .local)
    (ha : PA X [a, b, c] (LAs X.K G CL W fs)) (hw : swappedStores [.Tuple [.Name x px, .Name y py, .Name z pz] kt pt] (.Tuple [a, b, c] k2 pt2) X.env = pure (some [x, y, z])) (hl : ∀ L S ds S', fs L S = some (.val ds, S') → ds.length = 3) :
    PS X (.Assign [.Tuple [.Name x px, .Name y py, .Name z pz] kt pt] (.Tuple [a, b, c] k2 pt2) pos) (LS X.K G CL W fun L S => ex (bd (fs L) fun ds => Sim.ok (.tup ds)) L S fun d S1 => ex (parL [i, j, l] d L) L S1 fun L1 S2 => some (.nx, L1, S2)) :=
  PS.imp (ps_par3 hc hN hi hj hl3 hij hil hjl hx hy hz ha hw (by rfl)) fun D σ H h => (par_ends (es := []) hl h).imp fun vs H1 ⟨hn, h1⟩ => by
    match vs, hn, h1 with
    | [u, v, w], _, h1 => exact ⟨u, v, w, rfl, h1⟩
end
end Sim
set_option Elab.async false
set_option linter.all false
set_option autoImplicit false
set_option maxRecDepth 100000
/-! Sim2g: walks over the values and the pairs of a locked dict with tuple keys. -/
namespace Sim
open PySem PySem.Spec PyProof.Rows L2
/-- the pairs of a locked dict, whatever its keys are -/
def ItvT (d : Addr) (o : Obj) (kvs : List (List Key × V)) : L2.It :=
  ⟨fun i H => H d = some (.frz o (.dT kvs)) ∧ i < kvs.length, fun i H x H' => H' = H ∧ ∃ k, kvs[i]? = some (k, x), fun i H => H d = some (.frz o (.dT kvs)) ∧ kvs.length ≤ i⟩
def ItpT (d : Addr) (o : Obj) (kvs : List (List Key × V)) : L2.It :=
  ⟨fun i H => H d = some (.frz o (.dT kvs)) ∧ i < kvs.length,
   fun i H x H' => ∃ T q k v, kvs[i]? = some (k, v) ∧ H q = some (.tup (k.map kV)) ∧ x = .ref T ∧ H T = none ∧ H' = upd H T (.tup [.ref q, v]),
   fun i H => H d = some (.frz o (.dT kvs)) ∧ kvs.length ≤ i⟩
section
variable {X : Cx} {pins : List (Addr × Obj)} {σ : St} {H : Hp} {s : Shared} {d : Addr} {o : Obj}
theorem frzT_all {kvs : List (List Key × V)} (I : L2.Inv X pins σ H s) (h : H d = some (.frz o (.dT kvs))) :
    (d == sysModules) = false ∧ s.heap.get? d = some o ∧ o.ExactDict ∧ ∃ (es : Array DictEntry) (ep : Nat), o.data = .dict es ep ∧ es.size = kvs.length ∧
      ∀ (i : Nat) (k : List Key) (v : V), kvs[i]? = some (k, v) → ∃ (en : DictEntry) (q : Addr), es[i]? = some en ∧ en.key = .ref q ∧ H q = some (.tup (k.map kV)) ∧ RelV v en.val := by
  obtain ⟨hd, z, hs, xs, pr, o', es, ep, ho, hx, hdt, he, _⟩ := I.hok d _ h
  rw [hd] at ho
  cases ho
  have he : es.toList = xs.map fun x => entryOfKey (tupleKind (mixKind X.prog X.w)) x := he
  refine ⟨hs, hd, hx, es, ep, hdt, ?_, fun i k v e => ?_⟩
  · have l1 : es.toList.length = xs.length := by rw [he, List.length_map]
    rw [Array.length_toList] at l1
    have l2 : kvs.length = xs.length := Paired.length pr
    omega
  · obtain ⟨b, hb, e1, e2, e3⟩ := L2.paired_get pr e
    have q : es.toList[i]? = some (entryOfKey (tupleKind (mixKind X.prog X.w)) b) := by rw [he, List.getElem?_map, hb]; rfl
    rw [Array.getElem?_toList] at q
    exact ⟨_, b.2.1, q, rfl, e2, e3⟩
end
section
variable {P : Program} {w : World} {K : PySem.W.Frag} {tg : Expr} {d : Addr} {o : Obj} {es : Array DictEntry} {ep : Nat}
theorem turn_valsT {kvs : List (List Key × V)} (it : Addr) (hod : o.data = .dict es ep) (hsz : es.size = kvs.length) : Turn P w K tg (ItvT d o kvs) [it] it (fun i h => h.IsValIter it d i es.size ep) where
  mem := by simp
  obj := fun i h st b hb => by
    have e : b = it := by simpa using hb
    subst e
    obtain ⟨oi, e, c, dd⟩ := st
    exact ⟨oi, e, fun v z => by rw [dd] at z; cases z⟩
  keep := fun i h h' st k => by
    obtain ⟨oi, e, c⟩ := st
    exact ⟨oi, k it (by simp) oi e, c⟩
  item := by
    intro X hP hw hK hc i pins s σ H E I hf st hg
    subst hP hw hK
    obtain ⟨hd, hi⟩ := hg
    obtain ⟨f0, f1, f2, f3, f4, f5⟩ := hf it (by simp)
    obtain ⟨hs, hgd, hx, es', ep', hdt, hsz', ent⟩ := frzT_all I hd
    obtain ⟨rfl, rfl⟩ := dict_ep hod hdt
    obtain ⟨⟨k, v⟩, hkv⟩ : ∃ p, kvs[i]? = some p := ⟨kvs[i], List.getElem?_eq_getElem hi⟩
    obtain ⟨en, q, hen, hkey, hq, rv⟩ := ent i k v hkv
    obtain ⟨hlt, hen⟩ := Array.getElem?_eq_some_iff.mp hen
    subst hen
    refine wpAny_pyNext_values_item_raw st ⟨o, hgd, hx, hod⟩ hlt fun h' st' sb => ?_
    have I1 : L2.Inv X pins σ H { s with heap := h' } := I.turned (t' := s.toks) (fun b ob hb e => (sb.2 b hb).trans e) f0 f1 f3 f4 f5
    obtain ⟨oi, e, c, dd⟩ := id st'
    exact ⟨_, rfl, go_of (s := { s with heap := h' }) e c dd (by decide) ⟨v, H, I1, rv, ⟨rfl, k, hkv⟩, st', fun b hb => (hf b hb).1⟩⟩
  done := by
    intro X hP hw hK hc i pins s σ H E I hf st hg
    subst hP hw hK
    obtain ⟨hd, hi⟩ := hg
    obtain ⟨f0, f1, f2, f3, f4, f5⟩ := hf it (by simp)
    obtain ⟨hs, hgd, hx, es', ep', hdt, hsz', ent⟩ := frzT_all I hd
    obtain ⟨rfl, rfl⟩ := dict_ep hod hdt
    exact wpAny_pyNext_values_end_raw (I.ok.hd hc) st ⟨o, hgd, hx, hod⟩ (by omega) fun h' eb => ⟨rfl, I.turned (t' := s.toks) (fun b ob hb e => eb b ob hb e) f0 f1 f3 f4 f5⟩
  self := fun A i s Q E st h => wpAny_pyIter_valiter st h
theorem turn_itemsT {kvs : List (List Key × V)} {elts : List Expr} {kk : Nat} {tpos : Pos} (it : Addr) (hod : o.data = .dict es ep) (hsz : es.size = kvs.length) :
    Turn P w K (.Tuple elts kk tpos) (ItpT d o kvs) [it] it (fun i h => ∃ ok ov, IsItemIter h it d i es.size ep ok ov) where
  mem := by simp
  obj := fun i h st b hb => by
    have e : b = it := by simpa using hb
    subst e
    obtain ⟨ok, ov, e⟩ := st
    exact ⟨_, e, fun v z => nomatch z⟩
  keep := fun i h h' st k => let ⟨ok, ov, e⟩ := st; ⟨ok, ov, k it (by simp) _ e⟩
  item := by
    intro X hP hw hK hc i pins s σ H E I hf st hg
    subst hP hw hK
    obtain ⟨hd, hi⟩ := hg
    obtain ⟨hs, hgd, hx, es', ep', hdt, hsz', ent⟩ := frzT_all I hd
    obtain ⟨rfl, rfl⟩ := dict_ep hod hdt
    obtain ⟨⟨k, v⟩, hkv⟩ : ∃ p, kvs[i]? = some p := ⟨kvs[i], List.getElem?_eq_getElem hi⟩
    obtain ⟨en, q, hen, hkey, hq, rv⟩ := ent i k v hkv
    obtain ⟨hlt', hen⟩ := Array.getElem?_eq_some_iff.mp hen
    subst hen
    obtain ⟨ok, ov, he⟩ := st
    have hlt : it < s.heap.objs.size := Heap.lt_size he
    refine wpAny_pyNext_items_item_raw he ⟨o, hgd, hx, hod⟩ hlt' fun h' ho hT hz hk => ?_
    refine ⟨_, rfl, wpAny_letOwnedTupleGo_items (s := { s with heap := h' }) ho fun h'' he' sb => ?_⟩
    have hT2 : h''.get? s.heap.objs.size = some { cls := .type "tuple", data := .seq #[es'[i].key, es'[i].val] } := (sb.2 _ (Nat.ne_of_gt hlt)).trans hT
    have new : ObjOk X.prog X.w (upd H s.heap.objs.size (.tup [.ref q, v])) h'' s.heap.objs.size (.tup [.ref q, v]) :=
      ⟨by show 2 ≤ sizeLine; decide, [es'[i].key, es'[i].val], .cons hkey (.cons rv .nil), ⟨_, hT2, rfl, _, rfl⟩⟩
    have I1 : L2.Inv X pins σ (upd H s.heap.objs.size (.tup [.ref q, v])) { s with heap := h'' } :=
      I.turnedNew (t' := s.toks) (ch := [it]) (fun b ob hb e => (sb.2 b (by simpa using hb)).trans (hk b ob (by simpa using hb) e)) hf (Nat.le_refl _) new
    refine ⟨.ref s.heap.objs.size, _, I1, rfl, ⟨_, q, k, v, hkv, hq, rfl, I.hok.fresh (Nat.le_refl _), rfl⟩, ⟨_, _, he'⟩, fun b hb => ?_⟩
    have e : b = it := by simpa using hb
    rw [e, upd_ne (Nat.ne_of_lt hlt)]
    exact (hf it (by simp)).1
  done := by
    intro X hP hw hK hc i pins s σ H E I hf st hg
    subst hP hw hK
    obtain ⟨hd, hi⟩ := hg
    obtain ⟨f0, f1, f2, f3, f4, f5⟩ := hf it (by simp)
    obtain ⟨hs, hgd, hx, es', ep', hdt, hsz', ent⟩ := frzT_all I hd
    obtain ⟨rfl, rfl⟩ := dict_ep hod hdt
    obtain ⟨ok, ov, he⟩ := st
    exact wpAny_pyNext_items_end_raw (I.ok.hd hc) he ⟨o, hgd, hx, hod⟩ (by omega) fun h' eb => ⟨rfl, I.turned (t' := s.toks) (fun b ob hb e => eb b ob hb e) f0 f1 f3 f4 f5⟩
  self := fun A i s Q E st h => let ⟨_, _, e⟩ := st; PySem.W.kcp_self e h
end
def iValsT (td : TE) : TI := fun σ H R => td σ H fun x H1 => ∃ d o kvs, x = .ref d ∧ H1 d = some (.frz o (.dT kvs)) ∧ R (ItvT d o kvs) H1
def iItemsT (td : TE) : TI := fun σ H R => td σ H fun x H1 => ∃ d o kvs, x = .ref d ∧ H1 d = some (.frz o (.dT kvs)) ∧ R (ItpT d o kvs) H1
section
variable {X : Cx} {tg e : Expr} {td : TE} {apos cpos : Pos}
theorem pi_valuesT (he : PE X e td) (hbase : attributeBase e "values" X.env (eval e X.env) = eval e X.env) (hline : (apos.endLine == cpos.line) = true) : PI X tg (.Call (.Attribute e "values" apos) [] [] cpos) (iValsT td) := by
  refine ⟨fun pins s σ H R I h => ?_⟩
  refine wpAny_Call_method (T := "dict") (id := "dict.values") hbase rfl hline F.plainAttrs_dict F.slot_dict_values F.type_dict_values (thn (he.run pins s σ H _ I h) fun u s1 ⟨x, H1, I1, rx, d, o, kvs, ex, hd, q⟩ => ?_)
  subst ex
  obtain rfl : u = Value.ref d := rx
  obtain ⟨hs, hgd, hx, es, ep, hdt, hsz, ent⟩ := frzT_all I1 hd
  refine ⟨⟨o, hgd, hx.1⟩, fun b q => ?_, ?_⟩
  · cases q; exact ⟨o, hgd, hx.2.1⟩
  have I2 : L2.Inv X pins σ H1 { s1 with heap := s1.heap.push { cls := .type "dict_values", data := .fields #[.ref d] } } := I1.kept (t' := s1.toks) fun b ob q => Heap.get?_push_of_some _ q
  have fin : wpAny (model X.prog X.w) X.A (pyIter (.ref s1.heap.objs.size)) (PIE X pins σ tg R) X.xe { s1 with heap := s1.heap.push { cls := .type "dict_values", data := .fields #[.ref d] } } := by
    refine wpAny_pyIter_values_raw (d := d) (es := es) (ep := ep) ⟨_, Heap.get?_push_size _ rfl, rfl, rfl⟩ ⟨o, Heap.get?_push_of_some _ hgd, hx, hdt⟩ (pi_one (tk := s1.toks) I2 _ (turn_valsT _ hdt hsz) ⟨_, Heap.get?_push_size _ rfl, rfl, ?_⟩ q)
    rfl
  show wpAny _ _ (callWith cpos (.builtin "dict.values") [.ref d] [] []) _ X.xe s1
  exact method_meetsIn F.slot_dict_values F.entry_dict_values rfl (PySem.evalArgs_none ⟨rfl, ⟨o, hgd, hx.1⟩, F.args_dict_values_1 _, _, meets_dict_values_raw d hs, ⟨es, ep, o, hgd, hx, hdt⟩, fin⟩)
theorem pi_itemsT {elts : List Expr} {kk : Nat} {tpos : Pos} (he : PE X e td) (hbase : attributeBase e "items" X.env (eval e X.env) = eval e X.env) (hline : (apos.endLine == cpos.line) = true) :
    PI X (.Tuple elts kk tpos) (.Call (.Attribute e "items" apos) [] [] cpos) (iItemsT td) := by
  refine ⟨fun pins s σ H R I h => ?_⟩
  refine wpAny_Call_method (T := "dict") (id := "dict.items") hbase rfl hline F.plainAttrs_dict F.slot_dict_items F.type_dict_items (thn (he.run pins s σ H _ I h) fun u s1 ⟨x, H1, I1, rx, d, o, kvs, ex, hd, q⟩ => ?_)
  subst ex
  obtain rfl : u = Value.ref d := rx
  obtain ⟨hs, hgd, hx, es, ep, hdt, hsz, ent⟩ := frzT_all I1 hd
  refine ⟨⟨o, hgd, hx.1⟩, fun b q => ?_, ?_⟩
  · cases q; exact ⟨o, hgd, hx.2.1⟩
  have I2 : L2.Inv X pins σ H1 { s1 with heap := s1.heap.push { cls := .type "dict_items", data := .fields #[.ref d] } } := I1.kept (t' := s1.toks) fun b ob q => Heap.get?_push_of_some _ q
  have fin : wpAny (model X.prog X.w) X.A (pyIter (.ref s1.heap.objs.size)) (PIE X pins σ (.Tuple elts kk tpos) R) X.xe { s1 with heap := s1.heap.push { cls := .type "dict_items", data := .fields #[.ref d] } } := by
    refine wpAny_pyIter_items_raw (d := d) (es := es) (ep := ep) ⟨_, Heap.get?_push_size _ rfl, rfl, rfl⟩ ⟨o, Heap.get?_push_of_some _ hgd, hx, hdt⟩ (pi_one (tk := s1.toks) I2 _ (turn_itemsT _ hdt hsz) ⟨.none, .none, ?_⟩ q)
    exact Heap.get?_push_size _ rfl
  show wpAny _ _ (callWith cpos (.builtin "dict.items") [.ref d] [] []) _ X.xe s1
  exact method_meetsIn F.slot_dict_items F.entry_dict_items rfl (PySem.evalArgs_none ⟨rfl, ⟨o, hgd, hx.1⟩, F.args_dict_items_1 _, _, meets_dict_items_raw d hs, ⟨es, ep, o, hgd, hx, hdt⟩, fin⟩)
theorem PI.or {iter : Expr} {w1 w2 : TI} (a : PI X tg iter w1) (b : PI X tg iter w2) : PI X tg iter (fun σ H R => w1 σ H R ∨ w2 σ H R) :=
  ⟨fun pins s σ H R I h => h.elim (a.run pins s σ H R I) (b.run pins s σ H R I)⟩
end
end Sim
set_option Elab.async false
set_option linter.all false
set_option autoImplicit false
set_option maxRecDepth 100000
/-! Sim2h: a dict locked while its values or its pairs are walked. -/
namespace Sim
open PySem PySem.Spec PyProof.Rows L2
section
variable {K : PySem.W.Frag} {CL : CLT} {μ μ' : List Addr} {H H' : Hp} {a : Addr} {u o : HO} {od : Obj} {T : List (Addr × Str)} {S : Store}
/-- what stands at a dict's address -/
def DRep (K : PySem.W.Frag) (CL : CLT) (μ : List Addr) (H : Hp) (ds : List (D × D)) (u : HO) : Prop :=
  (∃ kvs, u = .dK kvs ∧ RepKV K CL μ H ds kvs) ∨ ∃ kvs, u = .dT kvs ∧ ds ≠ [] ∧ RepKT K CL μ H ds kvs
theorem DRep.is {ds : List (D × D)} (h : DRep K CL μ H ds u) : Mut (some u) ∧ (∀ φ, u ≠ .ext φ) ∧ (∀ ps, u ≠ .tbl ps) ∧ ∀ xs, u ≠ .lst xs := by
  rcases h with ⟨kvs, rfl, _⟩ | ⟨kvs, rfl, _⟩ <;> exact ⟨trivial, fun _ z => (by cases z), fun _ z => (by cases z), fun _ z => (by cases z)⟩
theorem DRep.kp {ds : List (D × D)} (h : DRep K CL μ H ds u) (s : Keep μ H μ' H') : DRep K CL μ' H' ds u := by
  rcases h with ⟨kvs, e, r⟩ | ⟨kvs, e, n, r⟩
  · exact .inl ⟨kvs, e, r.kp s⟩
  · exact .inr ⟨kvs, e, n, r.kp s⟩
theorem DRep.step {ds : List (D × D)} (h : DRep K CL μ H ds u) (s : Step μ H μ' H') : DRep K CL μ' H' ds u := by
  rcases h with ⟨kvs, e, r⟩ | ⟨kvs, e, n, r⟩
  · exact .inl ⟨kvs, e, r.step s⟩
  · exact .inr ⟨kvs, e, n, r.step s⟩
theorem DRep.repO {ds : List (D × D)} (h : DRep K CL μ H ds u) (e : H a = some u) : RepO K CL μ H a (.dct ds false) := by
  rcases h with ⟨kvs, rfl, r⟩ | ⟨kvs, rfl, n, r⟩
  · exact .dK e r
  · exact .dT n e r
theorem RepO.dRep {ds : List (D × D)} {b : Bool} (h : RepO K CL μ H a (.dct ds b)) : ∃ u, H a = some u ∧ DRep K CL μ H ds u := by
  cases h with
  | dK e r => exact ⟨_, e, .inl ⟨_, rfl, r⟩⟩
  | dT n e r => exact ⟨_, e, .inr ⟨_, rfl, n, r⟩⟩
theorem Keep.mut (h : H a = some u) (m : Mut (some u)) (nx : ∀ φ, u ≠ .ext φ) : Keep μ H μ (upd H a o) := by
  have ne : ∀ b w, H b = some w → (¬ Mut (some w) ∨ ∃ φ, w = .ext φ) → b ≠ a := fun b w e q z => by
    rw [z, h] at e; cases e
    rcases q with q | ⟨φ, q⟩
    · exact q m
    · exact nx φ q
  exact ⟨fun _ _ h => h, fun b xs e => by rw [upd_ne (ne b _ e (.inl id))]; exact e, fun b o xs e => by rw [upd_ne (ne b _ e (.inl id))]; exact e,
    fun b φ e => by rw [upd_ne (ne b _ e (.inr ⟨φ, rfl⟩))]; exact e⟩
theorem Keep.unlock (e : H a = some (.frz od u)) (hl : ∀ xs, u ≠ .lst xs) : Keep μ H μ (upd H a u) := by
  have ne : ∀ b w, H b = some w → (∀ o v, w ≠ .frz o v) ∨ (∃ o xs, w = .frz o (.lst xs)) → b ≠ a := fun b w e2 q z => by
    rw [z, e] at e2; cases e2
    rcases q with q | ⟨o, xs, q⟩
    · exact q _ _ rfl
    · cases q; exact hl _ rfl
  exact ⟨fun _ _ h => h, fun b xs e => by rw [upd_ne (ne b _ e (.inl fun _ _ z => by cases z))]; exact e, fun b o xs e => by rw [upd_ne (ne b _ e (.inr ⟨_, _, rfl⟩))]; exact e,
    fun b φ e => by rw [upd_ne (ne b _ e (.inl fun _ _ z => by cases z))]; exact e⟩
theorem Rel.lock (R : Rel K CL T μ S H) {r : Nat} (hm : μ[r]? = some a) (hu : H a = some u) (mu : Mut (some u)) (nx : ∀ φ, u ≠ .ext φ) (nt : ∀ ps, u ≠ .tbl ps) (ox : ∀ φ, o ≠ .ext φ) (ot : ∀ ps, o ≠ .tbl ps) :
    Rel K CL T μ (S.set r .gone) (upd H a o) := by
  refine ⟨by rw [List.length_set]; exact R.len, R.nd, fun q m hq => ?_, Tabs.upd R.tabs fun b v hb hv e => ?_⟩
  · by_cases e : q = r
    · subst e
      have hlt : q < S.length := by have := (List.getElem?_eq_some_iff.mp hq).1; simpa using this
      rw [List.getElem?_set_self hlt] at hq
      cases hq
      exact ⟨a, hm, .gone upd_same ox ot⟩
    · rw [List.getElem?_set_ne (Ne.symm e)] at hq
      obtain ⟨b, h1, h2⟩ := R.obj q m hq
      refine ⟨b, h1, h2.kp (Keep.mut hu mu nx) (upd_ne fun z => e ?_)⟩
      subst z
      exact nd_ix R.nd h1 hm
  · subst e
    rw [hu] at hb; cases hb
    rcases hv with ⟨ps, rfl⟩ | ⟨φ, rfl⟩
    · exact nt ps rfl
    · exact nx φ rfl
theorem Rel.unlock (R : Rel K CL T μ S H) {r : Nat} {mo : MO} (hm : μ[r]? = some a) (e : H a = some (.frz od u)) (hl : ∀ xs, u ≠ .lst xs) (ro : RepO K CL μ (upd H a u) a mo) : Rel K CL T μ (S.set r mo) (upd H a u) := by
  refine ⟨by rw [List.length_set]; exact R.len, R.nd, fun q m hq => ?_, Tabs.upd R.tabs fun b v hb hv z => ?_⟩
  · by_cases z : q = r
    · subst z
      have hlt : q < S.length := by have := (List.getElem?_eq_some_iff.mp hq).1; simpa using this
      rw [List.getElem?_set_self hlt] at hq
      cases hq
      exact ⟨a, hm, ro⟩
    · rw [List.getElem?_set_ne (Ne.symm z)] at hq
      obtain ⟨b, h1, h2⟩ := R.obj q m hq
      refine ⟨b, h1, h2.kp (Keep.unlock e hl) (upd_ne fun y => z ?_)⟩
      subst y
      exact nd_ix R.nd h1 hm
  · subst z
    rw [e] at hb; cases hb
    rcases hv with ⟨ps, hv⟩ | ⟨φ, hv⟩ <;> cases hv
theorem Step.unlock (s : Step μ (upd H a (.frz od u)) μ' H') (hm : a ∈ μ) (hu : H a = some u) (mu : Mut (some u)) (nx : ∀ φ, u ≠ .ext φ) : Step μ H μ' (upd H' a u) := by
  have nn : ∀ b, upd H a (.frz od u) b = none → H b = none := fun b h => by
    by_cases e : b = a
    · rw [e, upd_same] at h; cases h
    · rw [upd_ne e] at h; exact h
  have ne : ∀ b w, H b = some w → (¬ Mut (some w) ∨ ∃ φ, w = .ext φ) → b ≠ a := fun b w e q z => by
    rw [z, hu] at e; cases e
    rcases q with q | ⟨φ, q⟩
    · exact q mu
    · exact nx φ q
  obtain ⟨new, e, f⟩ := s.grow
  refine ⟨⟨new, e, fun b hb => nn b (f b hb)⟩, fun b h => ?_, fun b w h hb ht => ?_, fun b xs h => ?_, fun b w v h => ?_, fun b φ h => ?_⟩
  · by_cases z : b = a
    · rw [z, upd_same] at h; cases h
    · rw [upd_ne z] at h; exact nn b (s.dom b h)
  · have z : b ≠ a := fun z => hb (by rw [z]; exact hm)
    rw [upd_ne z]
    exact s.other b w (by rw [upd_ne z]; exact h) hb ht
  · have z := ne b _ h (.inl id)
    rw [upd_ne z]; exact s.tups b xs (by rw [upd_ne z]; exact h)
  · have z := ne b _ h (.inl id)
    rw [upd_ne z]; exact s.frzs b w v (by rw [upd_ne z]; exact h)
  · have z := ne b _ h (.inr ⟨φ, rfl⟩)
    rw [upd_ne z]; exact s.exts b φ (by rw [upd_ne z]; exact h)
theorem RepA.kp (s : Keep μ H μ' H') {d : D} {v : V} (r : RepA K CL μ H d v) : RepA K CL μ' H' d v := by
  cases r with
  | val r => exact .val (r.kp s)
  | clo h1 h2 h3 => exact .clo h1 (s.exts _ _ h2) (h3.kp s)
theorem RepL.kp (s : Keep μ H μ' H') {L : Loc} {σ : St} (h : RepL K CL μ H L σ) : RepL K CL μ' H' L σ :=
  ⟨h.len, fun i d e => let ⟨v, h1, h2⟩ := h.at_ i d e; ⟨v, h1, h2.kp s⟩⟩
end
/-- the walk over a dict's values or pairs -/
def iDict (k : Bool) (td : TE) : TI := fun σ H R => if k = true then (iItems td σ H R ∨ iItemsT td σ H R) else (iVals td σ H R ∨ iValsT td σ H R)
def dWord (k : Bool) : Str := if k = true then "items" else "values"
theorem pi_dict {X : Cx} {tg e : Expr} {td : TE} {apos cpos : Pos} {k : Bool} (ht : k = true → ∃ el kk tp, tg = .Tuple el kk tp) (he : PE X e td) (hbase : attributeBase e (dWord k) X.env (eval e X.env) = eval e X.env)
    (hline : (apos.endLine == cpos.line) = true) : PI X tg (.Call (.Attribute e (dWord k) apos) [] [] cpos) (iDict k td) := by
  cases k with
  | false => exact PI.imp (PI.or (pi_values he hbase hline) (pi_valuesT he hbase hline)) fun σ H R h => h
  | true =>
    obtain ⟨el, kk, tp, rfl⟩ := ht rfl
    exact PI.imp (PI.or (pi_items he hbase hline) (pi_itemsT he hbase hline)) fun σ H R h => h
theorem repKV_get {K : PySem.W.Frag} {CL : CLT} {μ : List Addr} {H : Hp} {ds : List (D × D)} {kvs : List (Key × V)} (h : RepKV K CL μ H ds kvs) : ∀ {i : Nat} {p : D × D}, ds[i]? = some p → ∃ k v, kvs[i]? = some (k, v) ∧ keyD p.1 = some k ∧ Rep K CL μ H p.2 v := by
  induction h with
  | nil => intro i p e; simp at e
  | @cons d x k v ds kvs h1 h2 _ ih =>
    intro i p e
    cases i with
    | zero => simp at e; subst e; exact ⟨k, v, rfl, h1, h2⟩
    | succ j => simp at e ⊢; exact ih e
theorem repKT_get {K : PySem.W.Frag} {CL : CLT} {μ : List Addr} {H : Hp} {ds : List (D × D)} {kvs : List (List Key × V)} (h : RepKT K CL μ H ds kvs) : ∀ {i : Nat} {p : D × D}, ds[i]? = some p → ∃ k v, kvs[i]? = some (k, v) ∧ keyTD p.1 = some k ∧ Rep K CL μ H p.2 v := by
  induction h with
  | nil => intro i p e; simp at e
  | @cons d x k v ds kvs h1 h2 _ ih =>
    intro i p e
    cases i with
    | zero => simp at e; subst e; exact ⟨k, v, rfl, h1, h2⟩
    | succ j => simp at e ⊢; exact ih e
theorem keyD_rep {K : PySem.W.Frag} {CL : CLT} {μ : List Addr} {H : Hp} {d : D} {k : Key} (h : keyD d = some k) : Rep K CL μ H d (kV k) := by
  cases d <;> cases h <;> constructor
theorem keysD_rep {K : PySem.W.Frag} {CL : CLT} {μ : List Addr} {H : Hp} : ∀ {l : List D} {ks : List Key}, keysD l = some ks → Reps K CL μ H l (ks.map kV)
  | [], _, h => by cases h; exact .nil
  | d :: r, ks, h => by
    unfold keysD at h
    cases e1 : keyD d with
    | none => rw [e1] at h; cases h
    | some k =>
      cases e2 : keysD r with
      | none => rw [e1, e2] at h; cases h
      | some ks' =>
        rw [e1, e2] at h
        cases h
        exact .cons (keyD_rep e1) (keysD_rep e2)
theorem keyTD_rep {K : PySem.W.Frag} {CL : CLT} {μ : List Addr} {H : Hp} {d : D} {k : List Key} {q : Addr} (h : keyTD d = some k) (hq : H q = some (.tup (k.map kV))) : Rep K CL μ H d (.ref q) := by
  cases d with
  | tup l => exact .tup hq (keysD_rep h)
  | _ => cases h
theorem dItems_get {k : Bool} {ds : List (D × D)} {i : Nat} {d : D} (h : (dItems k ds)[i]? = some d) : ∃ p, ds[i]? = some p ∧ d = if k = true then .tup [p.1, p.2] else p.2 := by
  unfold dItems at h
  split at h <;> rename_i hk <;> (rw [List.getElem?_map] at h; cases e : ds[i]? with | none => rw [e] at h; cases h | some p => (rw [e] at h; cases h; exact ⟨p, rfl, by simp [hk]⟩))
theorem dItems_len {k : Bool} {ds : List (D × D)} : (dItems k ds).length = ds.length := by unfold dItems; split <;> simp
theorem it_dv {K : PySem.W.Frag} {G : Wd} {μ : List Addr} {H : Hp} {a : Addr} {od : Obj} {ds : List (D × D)} {kvs : List (Key × V)} (e : H a = some (.frz od (.dK kvs))) (r : RepKV K CLF μ H ds kvs) :
    ItOk K G μ H ⟨dItems false ds, none⟩ (Itd a od kvs) := by
  intro μ1 S1 H1 st R1 _
  have e1 := st.frzs _ _ _ e
  have r1 := r.step st
  have hl := r1.length
  refine ⟨fun i d hd => ?_, e1, by show kvs.length ≤ (dItems false ds).length; rw [dItems_len]; omega⟩
  obtain ⟨p, hp, rfl⟩ := dItems_get (k := false) hd
  obtain ⟨k, v, h1, h2, h3⟩ := repKV_get r1 hp
  refine ⟨⟨e1, (List.getElem?_eq_some_iff.mp h1).1⟩, fun x H2 ⟨z, k2, h4⟩ => ?_⟩
  subst z
  rw [h1] at h4
  cases h4
  exact ⟨Step.refl _ _, R1, h3⟩
theorem it_di {K : PySem.W.Frag} {G : Wd} {μ : List Addr} {H : Hp} {a : Addr} {od : Obj} {ds : List (D × D)} {kvs : List (Key × V)} (e : H a = some (.frz od (.dK kvs))) (r : RepKV K CLF μ H ds kvs) :
    ItOk K G μ H ⟨dItems true ds, none⟩ (Iti a od kvs) := by
  intro μ1 S1 H1 st R1 _
  have e1 := st.frzs _ _ _ e
  have r1 := r.step st
  have hl := r1.length
  refine ⟨fun i d hd => ?_, e1, by show kvs.length ≤ (dItems true ds).length; rw [dItems_len]; omega⟩
  obtain ⟨p, hp, rfl⟩ := dItems_get (k := true) hd
  obtain ⟨k, v, h1, h2, h3⟩ := repKV_get r1 hp
  refine ⟨⟨e1, (List.getElem?_eq_some_iff.mp h1).1⟩, fun x H2 ⟨T, k2, v2, h4, hx, n, hH⟩ => ?_⟩
  subst hx hH
  rw [h1] at h4
  cases h4
  have st2 : Step μ1 H1 μ1 (upd H1 T (.tup [kV k, v])) := Step.new n
  exact ⟨st2, R1.new n, .tup upd_same (.cons (keyD_rep h2) (.cons (h3.step st2) .nil))⟩
theorem it_tv {K : PySem.W.Frag} {G : Wd} {μ : List Addr} {H : Hp} {a : Addr} {od : Obj} {ds : List (D × D)} {kvs : List (List Key × V)} (e : H a = some (.frz od (.dT kvs))) (r : RepKT K CLF μ H ds kvs) :
    ItOk K G μ H ⟨dItems false ds, none⟩ (ItvT a od kvs) := by
  intro μ1 S1 H1 st R1 _
  have e1 := st.frzs _ _ _ e
  have r1 := r.step st
  have hl := r1.length
  refine ⟨fun i d hd => ?_, e1, by show kvs.length ≤ (dItems false ds).length; rw [dItems_len]; omega⟩
  obtain ⟨p, hp, rfl⟩ := dItems_get (k := false) hd
  obtain ⟨k, v, h1, h2, h3⟩ := repKT_get r1 hp
  refine ⟨⟨e1, (List.getElem?_eq_some_iff.mp h1).1⟩, fun x H2 ⟨z, k2, h4⟩ => ?_⟩
  subst z
  rw [h1] at h4
  cases h4
  exact ⟨Step.refl _ _, R1, h3⟩
theorem it_ti {K : PySem.W.Frag} {G : Wd} {μ : List Addr} {H : Hp} {a : Addr} {od : Obj} {ds : List (D × D)} {kvs : List (List Key × V)} (e : H a = some (.frz od (.dT kvs))) (r : RepKT K CLF μ H ds kvs) :
    ItOk K G μ H ⟨dItems true ds, none⟩ (ItpT a od kvs) := by
  intro μ1 S1 H1 st R1 _
  have e1 := st.frzs _ _ _ e
  have r1 := r.step st
  have hl := r1.length
  refine ⟨fun i d hd => ?_, e1, by show kvs.length ≤ (dItems true ds).length; rw [dItems_len]; omega⟩
  obtain ⟨p, hp, rfl⟩ := dItems_get (k := true) hd
  obtain ⟨k, v, h1, h2, h3⟩ := repKT_get r1 hp
  refine ⟨⟨e1, (List.getElem?_eq_some_iff.mp h1).1⟩, fun x H2 ⟨T, q, k2, v2, h4, hq, hx, n, hH⟩ => ?_⟩
  subst hx hH
  rw [h1] at h4
  cases h4
  have st2 : Step μ1 H1 μ1 (upd H1 T (.tup [.ref q, v])) := Step.new n
  exact ⟨st2, R1.new n, .tup upd_same (.cons (keyTD_rep h2 (st2.tups _ _ hq)) (.cons (h3.step st2) .nil))⟩
section
variable {X : Cx} {G : Wd} {CL : CLT} {W : WX} {tg e : Expr} {vs : List Nat} {ftg : D → Loc → M Loc} {f : Loc → Store → R} {pos apos cpos : Pos} {p : List Stmt} {i : Nat} {k : Bool}
/-- the name's reading, its value known -/
theorem name_reads {μ : List Addr} {S : Store} {H : Hp} {L : Loc} {σ : St} {r : Nat} {a : Addr} {Q : VK} (R : RelG X.K G CLF μ S H) (RL : RepL X.K CL μ H L σ) (hi : getV L i = some (.ref r)) (hm : μ[r]? = some a)
    (hQ : ∀ μ' H', Step μ H μ' H' → RelG X.K G CLF μ' S H' → Q (.ref a) H') : LE X.K G CL W (fun L => ofO (getV L i)) σ H Q := by
  refine ⟨μ, L, S, R, RL, .val (.ref r), S, by show Option.map _ (getV L i) = _; rw [hi]; rfl, fun μ' H' v s R' rv => ?_⟩
  cases rv with
  | ref h =>
    rw [s.mu hm] at h
    cases h
    exact hQ μ' H' s R'
theorem sim_forD (hp : PassesOwn (model X.prog X.w) X.A X.env X.xe) (hc : X.calm = true) (ho : TgOk ftg) (ht : k = true → ∃ el kk tp, tg = .Tuple el kk tp) (he : PE X e (LE X.K G CL W fun L => ofO (getV L i))) (hg : PG X tg (gT X.K G CL vs ftg)) (hb : PSs X p (LS X.K G CL W f))
    (hbase : attributeBase e (dWord k) X.env (eval e X.env) = eval e X.env) (hline : (apos.endLine == cpos.line) = true) (hs : ∀ x, foldedSetIterable (.Call (.Attribute e (dWord k) apos) [] [] cpos) X.env x = pure x) :
    PS X (.For tg (.Call (.Attribute e (dWord k) apos) [] [] cpos) p [] pos) (LS X.K G CL W fun L S => awayF (getV L i) S fun kvs S1 => forRun (fun d L1 S2 => ex (ftg d L1) L1 S2 fun L2 S3 => f L2 S3) ⟨dItems k kvs, none⟩ (dItems k kvs) L S1) :=
  PS.imp (ps_lock (ps_for hp hc (pi_dict ht he hbase hline) hg hb hs)) fun D σ H ⟨μ, L, S, R, RL, h⟩ => by
    dsimp only at h
    unfold awayF at h
    cases e1 : getV L i with
    | none => rw [e1] at h; exact h.no.elim
    | some d =>
      rw [e1] at h
      cases d with
      | ref r =>
        dsimp only at h
        cases e2 : S[r]? with
        | none => rw [e2] at h; exact h.no.elim
        | some mo =>
          rw [e2] at h
          cases mo with
          | dct kvs b =>
            cases b with
            | true => exact h.no.elim
            | false =>
              dsimp only at h
              obtain ⟨a, hm, ro⟩ := R.obj r _ e2
              obtain ⟨u, hu, dr⟩ := ro.dRep
              obtain ⟨mu, nx, nt, nl⟩ := dr.is
              refine ⟨a, u, hu, mu, fun od => ?_⟩
              have hma := List.mem_of_getElem? hm
              have kl : Keep μ H μ (upd H a (.frz od u)) := Keep.mut hu mu nx
              have Rl : RelG X.K G CLF μ (S.set r .gone) (upd H a (.frz od u)) := R.lock hm hu mu nx nt (fun _ z => by cases z) (fun _ z => by cases z)
              have drl := dr.kp kl
              have sl : Step μ H μ (upd H a (.frz od u)) := Step.put hma hu mu nx
              have rd : ∀ (Q : VK), (∀ μ' H', Step μ (upd H a (.frz od u)) μ' H' → RelG X.K G CLF μ' (S.set r .gone) H' → Q (.ref a) H') → LE X.K G CL W (fun L => ofO (getV L i)) σ (upd H a (.frz od u)) Q :=
                fun Q hQ => name_reads Rl (RL.kp kl) e1 hm hQ
              -- the run in the locked store
              have run : ∀ (D' : Ends), (∀ σ' H', H' a = some (.frz od u) ∧ D.nx σ' (upd H' a u) → D'.nx σ' H') → (∀ v H', H' a = some (.frz od u) ∧ D.rt v (upd H' a u) → D'.rt v H') →
                  (∀ σ' H', H' a = some (.frz od u) ∧ D.bk σ' (upd H' a u) → D'.bk σ' H') → (∀ σ' H', H' a = some (.frz od u) ∧ D.ct σ' (upd H' a u) → D'.ct σ' H') →
                  ∀ μ' H', Step μ (upd H a (.frz od u)) μ' H' → LSA X.K G CL W μ' H' (forRun (fun d L1 S2 => ex (ftg d L1) L1 S2 fun L2 S3 => f L2 S3) ⟨dItems k kvs, none⟩ (dItems k kvs) L (S.set r .gone)) D' := by
                intro D' hn hr hbk hct μ' H' s1
                unfold awayR at h
                dsimp only at h
                generalize forRun (fun d L1 S2 => ex (ftg d L1) L1 S2 fun L2 S3 => f L2 S3) ⟨dItems k kvs, none⟩ (dItems k kvs) L (S.set r .gone) = res at h
                cases res with
                | none => exact h.no.elim
                | some q =>
                  obtain ⟨o, L1, S1⟩ := q
                  have back : ∀ μ2 H2, Step μ' H' μ2 H2 → RelG X.K G CLF μ2 S1 H2 → H2 a = some (.frz od u) ∧ Step μ H μ2 (upd H2 a u) ∧ RelG X.K G CLF μ2 (S1.set r (.dct kvs false)) (upd H2 a u) ∧ Keep μ2 H2 μ2 (upd H2 a u) := by
                    intro μ2 H2 s2 R2
                    have s3 := s1.trans s2
                    have e3 : H2 a = some (.frz od u) := s3.frzs _ _ _ upd_same
                    have kb : Keep μ2 H2 μ2 (upd H2 a u) := Keep.unlock e3 nl
                    exact ⟨e3, Step.unlock s3 hma hu mu nx, R2.unlock (s3.mu hm) e3 nl (((drl.step s3).kp kb).repO upd_same), kb⟩
                  cases o with
                  | nx =>
                    obtain ⟨o2, L2, S2, e4, h⟩ := h
                    cases e4
                    exact ⟨.nx, L1, S1, rfl, fun μ2 H2 σ2 s2 R2 rl => hn _ _ (let ⟨z1, z2, z3, z4⟩ := back μ2 H2 s2 R2; ⟨z1, h μ2 _ σ2 z2 z3 (rl.kp z4)⟩)⟩
                  | bk =>
                    obtain ⟨o2, L2, S2, e4, h⟩ := h
                    cases e4
                    exact ⟨.bk, L1, S1, rfl, fun μ2 H2 σ2 s2 R2 rl => hbk _ _ (let ⟨z1, z2, z3, z4⟩ := back μ2 H2 s2 R2; ⟨z1, h μ2 _ σ2 z2 z3 (rl.kp z4)⟩)⟩
                  | ct =>
                    obtain ⟨o2, L2, S2, e4, h⟩ := h
                    cases e4
                    exact ⟨.ct, L1, S1, rfl, fun μ2 H2 σ2 s2 R2 rl => hct _ _ (let ⟨z1, z2, z3, z4⟩ := back μ2 H2 s2 R2; ⟨z1, h μ2 _ σ2 z2 z3 (rl.kp z4)⟩)⟩
                  | ret d =>
                    obtain ⟨o2, L2, S2, e4, h⟩ := h
                    cases e4
                    exact ⟨.ret d, L1, S1, rfl, fun μ2 H2 v s2 R2 rv => hr _ _ (let ⟨z1, z2, z3, z4⟩ := back μ2 H2 s2 R2; ⟨z1, h μ2 _ v z2 z3 (rv.kp z4)⟩)⟩
                  | exc x =>
                    obtain ⟨o2, L2, S2, e4, h⟩ := h
                    cases e4
                    exact ⟨.exc x, L1, S1, rfl, fun μ2 H2 dx σ2 s2 R2 rl rx => h μ2 H2 dx σ2 (sl.trans (s1.trans s2)) R2 rl rx⟩
              unfold tFor iDict
              cases k with
              | true =>
                rw [if_pos rfl]
                rcases drl with ⟨kv2, rfl, rkv⟩ | ⟨kv2, rfl, hne, rkv⟩
                · exact .inl (rd _ fun μ' H' s R' => ⟨a, od, kv2, rfl, s.frzs _ _ _ upd_same, for_core (vs := vs) ho R' ((RL.kp kl).step s) (it_di (s.frzs _ _ _ upd_same) (rkv.step s)) (run _ (fun _ _ q => q) (fun _ _ q => q) (fun _ _ q => q) (fun _ _ q => q) μ' H' s)⟩)
                · exact .inr (rd _ fun μ' H' s R' => ⟨a, od, kv2, rfl, s.frzs _ _ _ upd_same, for_core (vs := vs) ho R' ((RL.kp kl).step s) (it_ti (s.frzs _ _ _ upd_same) (rkv.step s)) (run _ (fun _ _ q => q) (fun _ _ q => q) (fun _ _ q => q) (fun _ _ q => q) μ' H' s)⟩)
              | false =>
                rw [if_neg Bool.false_ne_true]
                rcases drl with ⟨kv2, rfl, rkv⟩ | ⟨kv2, rfl, hne, rkv⟩
                · exact .inl (rd _ fun μ' H' s R' => ⟨a, od, kv2, rfl, s.frzs _ _ _ upd_same, for_core (vs := vs) ho R' ((RL.kp kl).step s) (it_dv (s.frzs _ _ _ upd_same) (rkv.step s)) (run _ (fun _ _ q => q) (fun _ _ q => q) (fun _ _ q => q) (fun _ _ q => q) μ' H' s)⟩)
                · exact .inr (rd _ fun μ' H' s R' => ⟨a, od, kv2, rfl, s.frzs _ _ _ upd_same, for_core (vs := vs) ho R' ((RL.kp kl).step s) (it_tv (s.frzs _ _ _ upd_same) (rkv.step s)) (run _ (fun _ _ q => q) (fun _ _ q => q) (fun _ _ q => q) (fun _ _ q => q) μ' H' s)⟩)
          | _ => exact h.no.elim
      | _ => exact h.no.elim
end
end Sim
set_option Elab.async false
set_option linter.all false
set_option autoImplicit false
set_option maxRecDepth 100000
/-! Sim2i: displays of dicts; comprehensions over locked dicts. -/
namespace Sim
open PySem PySem.Spec PyProof.Rows L2
section
variable {X : Cx} {pins : List (Addr × Obj)} {σ : St} {H : Hp} {s : Shared} {a b : Addr} {A : Around} {E : Value → Shared → Prop}
theorem set_K {kvs : List (Key × V)} {k : Key} {v : V} {u r : Value} {Q : Unit → Shared → Prop} (I : L2.Inv X pins σ H s) (e : H a = some (.dK kvs)) (l : kvs.length < sizeLine) (ry : L2.RelV (kV k) u) (rv : L2.RelV v r)
    (h : ∀ s', L2.Inv X pins σ (upd H a (.dK (putK kvs k v))) s' → Q () s') : wpAny (model X.prog X.w) A (dictSet a u r) Q E s := by
  obtain ⟨z, hd, vs, rel, dd⟩ := dk_of I.hok e
  have hz : vs.length ≤ sizeLine := by rw [← rel.length]; exact z
  have hl : (putK kvs k v).length ≤ sizeLine := by have := length_putK kvs k v; omega
  refine wpAny_dictSet_pairs (hsz := hz) (kV_is ry) dd fun h' dd' hs => h _ ?_
  have he : ∃ q, h'.get? a = some q := let ⟨q, _, _, hq, _⟩ := dd'; ⟨q, hq⟩
  exact d_write I (by rw [e]; exact True.intro) hs he (dk_new hl hd (rel.put k rv) dd')
theorem set_T {kvs : List (List Key × V)} {k : List Key} {v : V} {r : Value} {Q : Unit → Shared → Prop} (hu : A.units + 1 < cLine) (I : L2.Inv X pins σ H s) (e : H a = some (.dT kvs)) (l : kvs.length < sizeLine) (eb : H b = some (.tup (k.map kV))) (rv : L2.RelV v r)
    (h : ∀ s', L2.Inv X pins σ (upd H a (.dT (putK kvs k v))) s' → Q () s') : wpAny (model X.prog X.w) A (dictSet a (.ref b) r) Q E s := by
  obtain ⟨z, hd, xs, rel, dd⟩ := dt_of I.hok e
  have hz : xs.length ≤ sizeLine := by rw [← Paired.length rel]; exact z
  have hl : (putK kvs k v).length ≤ sizeLine := by have := length_putK kvs k v; omega
  refine wpAny_dictSet_heap (hsz := hz) (by show A.units < cLine; omega) (key_of I.hok eb) dd fun h' dd' hs => h _ ?_
  obtain ⟨q, es, ep, hq, h2, h3, h4, _, h5⟩ := dd'
  refine d_write I (by rw [e]; exact True.intro) hs ⟨q, hq⟩ ⟨hl, hd, _, (rel.put k eb rv).keeps fun c ys ec => ?_, q, es, ep, hq, h2, h3, h4, h5⟩
  rw [upd_ne (ne_of ec e (fun z => nomatch z))]
  exact ec
theorem upd_twice {x : Addr} {o u : HO} : upd (upd H x o) x u = upd H x u := by
  funext b
  by_cases e : b = x
  · rw [e, upd_same, upd_same]
  · rw [upd_ne e, upd_ne e, upd_ne e]
/-- pairs put into a dict with plain keys -/
theorem all_K : ∀ {ps : List (Key × V)} {vs : List (Value × Value)} {kvs : List (Key × V)} {H : Hp} {s : Shared} {Q : PUnit → Shared → Prop}, L2.Inv X pins σ H s → H a = some (.dK kvs) → kvs.length + ps.length ≤ 1000 →
    VV (ps.map fun p => (kV p.1, p.2)) vs → (∀ s', L2.Inv X pins σ (upd H a (.dK (ps.foldl (fun acc p => putK acc p.1 p.2) kvs))) s' → Q PUnit.unit s') → wpAny (model X.prog X.w) A (storeAll a vs) Q E s
  | [], vs, kvs, H, s, Q, I, e, _, r, h => by
    rw [List.map_nil] at r
    cases r
    unfold storeAll
    rw [List.forIn_nil]
    refine wpAny_pure (h s ?_)
    rw [List.foldl_nil, show upd H a (.dK kvs) = H from by
      funext b
      by_cases z : b = a
      · rw [z, upd_same, e]
      · rw [upd_ne z]]
    exact I
  | p :: ps, vs, kvs, H, s, Q, I, e, hl, r, h => by
    rw [List.map_cons] at r
    cases r with
    | @cons x y xs ys q t =>
      rw [List.length_cons] at hl
      unfold storeAll
      rw [List.forIn_cons]
      refine wpAny_bind (wpAny_bind (set_K I e (by rw [sizeLine_eq]; omega) q.1 q.2 fun s1 I1 => wpAny_pure ?_))
      refine all_K (ps := ps) (kvs := putK kvs p.1 p.2) I1 upd_same (by have := length_putK kvs p.1 p.2; omega) t fun s2 I2 => h s2 ?_
      rw [upd_twice] at I2
      exact I2
/-- .. with tuples as keys -/
def KT2 (H : Hp) : List (List Key × V) → List (V × V) → Prop := Paired fun p q => ∃ b, q.1 = .ref b ∧ H b = some (.tup (p.1.map kV)) ∧ q.2 = p.2
theorem all_T (hu : A.units + 1 < cLine) : ∀ {ps : List (List Key × V)} {qs : List (V × V)} {vs : List (Value × Value)} {kvs : List (List Key × V)} {H : Hp} {s : Shared} {Q : PUnit → Shared → Prop}, L2.Inv X pins σ H s → H a = some (.dT kvs) → kvs.length + ps.length ≤ 1000 →
    KT2 H ps qs → VV qs vs → (∀ s', L2.Inv X pins σ (upd H a (.dT (ps.foldl (fun acc p => putK acc p.1 p.2) kvs))) s' → Q PUnit.unit s') → wpAny (model X.prog X.w) A (storeAll a vs) Q E s
  | [], qs, vs, kvs, H, s, Q, I, e, _, t, r, h => by
    cases t
    cases r
    unfold storeAll
    rw [List.forIn_nil]
    refine wpAny_pure (h s ?_)
    rw [List.foldl_nil, show upd H a (.dT kvs) = H from by
      funext b
      by_cases z : b = a
      · rw [z, upd_same, e]
      · rw [upd_ne z]]
    exact I
  | p :: ps, qs, vs, kvs, H, s, Q, I, e, hl, t, r, h => by
    cases t with
    | @cons _ q _ qs hq t =>
      cases r with
      | @cons _ y _ ys r1 r2 =>
        obtain ⟨c, e1, e2, e3⟩ := hq
        obtain ⟨q1, q2⟩ := q
        obtain ⟨y1, y2⟩ := y
        dsimp only at e1 e3
        subst e1 e3
        rw [List.length_cons] at hl
        unfold storeAll
        rw [List.forIn_cons]
        cases (show y1 = Value.ref c from r1.1)
        refine wpAny_bind (wpAny_bind (set_T hu I e (by rw [sizeLine_eq]; omega) e2 r1.2 fun s1 I1 => wpAny_pure ?_))
        refine all_T hu (ps := ps) (kvs := putK kvs p.1 p.2) I1 upd_same (by have := length_putK kvs p.1 p.2; omega) ?_ r2 fun s2 I2 => h s2 ?_
        · refine Paired.mapP t (fun x z ⟨b, f1, f2, f3⟩ => ⟨b, f1, ?_, f3⟩)
          rw [upd_ne (ne_of f2 e (fun z => nomatch z))]
          exact f2
        · rw [upd_twice] at I2
          exact I2
end
/-- a display with plain keys, or with tuples as keys -/
def tDispE (trs : List (TE × TE)) : TE := fun σ H Q => ∀ p, H p = none → tPairs trs σ (upd H p (.dK [])) fun ps H2 => H2 p = some (.dK []) ∧
  ((∃ kvs : List (Key × V), ps = kvs.map (fun kv => (kV kv.1, kv.2)) ∧ kvs.length ≤ 15 ∧ Q (.ref p) (upd H2 p (.dK (kvs.foldl (fun acc q => putK acc q.1 q.2) [])))) ∨
   ∃ kvs : List (List Key × V), KT2 H2 kvs ps ∧ kvs.length ≤ 15 ∧ Q (.ref p) (upd H2 p (.dT (kvs.foldl (fun acc q => putK acc q.1 q.2) []))))
theorem pe_dispE {X : Cx} {pos : Pos} {keys : List (Option Expr)} {values : List Expr} {trs : List (TE × TE)} (hu : X.A.units + 1 < cLine) (h : PPs X pos keys values trs) (hall : keys.all (·.isSome) = true) (hl : keys.length = values.length) (h0 : keys ≠ [])
    (h15 : keys.length ≤ 15) : PE X (.Dict keys values pos) (tDispE trs) := by
  refine ⟨fun pins s σ H Q I q => ?_⟩
  have hn := I.hok.fresh (Nat.le_refl s.heap.objs.size)
  have I1 := I.laid (a := s.heap.objs.size) (o := .dK []) (h' := s.heap.push { cls := .type "dict", data := .dict #[] }) (t' := s.toks) (fun _ _ q => Heap.get?_push_of_some _ q) (Nat.le_refl _) (dk_empty s.heap I.big)
  refine wpAny_Dict_any hall hl h0 h15 (thn (h.run pins _ σ _ _ I1 (q _ hn)) fun ws s2 ⟨ps, H2, I2, rel, e, hq⟩ => ?_)
  rcases hq with ⟨kvs, rfl, hl2, q2⟩ | ⟨kvs, ht, hl2, q2⟩
  · exact all_K I2 e (by simp; omega) rel fun s3 I3 => ⟨.ref s.heap.objs.size, _, I3, rfl, q2⟩
  · have I3 := inv_toT I2 e
    refine all_T hu (ps := kvs) (kvs := []) I3 upd_same (by simp; omega) (Paired.mapP ht (fun x z ⟨b, f1, f2, f3⟩ => ⟨b, f1, ?_, f3⟩)) rel fun s3 I4 => ⟨.ref s.heap.objs.size, _, I4, rfl, ?_⟩
    · rw [upd_ne (ne_of f2 e (fun z => nomatch z))]; exact f2
    · rw [upd_twice]; exact q2
/-- two by two -/
def pairUp : List V → List (V × V)
  | x :: y :: r => (x, y) :: pairUp r
  | _ => []
section
variable {K : PySem.W.Frag} {G : Wd} {CL : CLT} {W : WX} {α ν : Type} {RR : RRT α ν} {μ μ1 : List Addr} {S : Store} {H H1 : Hp} {σ : St} {m : M α} {Q : ν → Hp → Prop}
theorem LA.stp (h : LA K G CL RR W μ S m σ H Q) (s : Step μ H μ1 H1) : LA K G CL RR W μ1 S m σ H1 Q := by
  obtain ⟨r, S', e, h⟩ := h
  refine ⟨r, S', e, ?_⟩
  cases r with
  | val a => exact fun μ' H' v s1 => h μ' H' v (s.trans s1)
  | exc x => exact fun μ' H' dx s1 => h μ' H' dx (s.trans s1)
end
section
variable {K : PySem.W.Frag} {CL : CLT} {μ : List Addr} {H : Hp} {T : List (Addr × Str)} {S : Store} {D : Addr} {u o : HO}
theorem Rel.offO (R : Rel K CL T μ S H) (hm : D ∉ μ) (h : H D = some u) (mu : Mut (some u)) (nx : ∀ φ, u ≠ .ext φ) (nt : ∀ ps, u ≠ .tbl ps) : Rel K CL T μ S (upd H D o) := by
  refine ⟨R.len, R.nd, fun r mo e => ?_, Tabs.upd R.tabs fun b v e q z => ?_⟩
  · obtain ⟨a, h1, h2⟩ := R.obj r mo e
    exact ⟨a, h1, h2.kp (Keep.mut h mu nx) (upd_ne fun z => hm (by rw [← z]; exact List.mem_of_getElem? h1))⟩
  · rw [z, h] at e
    cases e
    rcases q with ⟨_, q⟩ | ⟨_, q⟩
    · exact nt _ q
    · exact nx _ q
theorem Rel.adoptO {mo : MO} (R : Rel K CL T μ S H) (hm : D ∉ μ) (ro : RepO K CL (μ ++ [D]) H D mo) : Rel K CL T (μ ++ [D]) (S ++ [mo]) H := by
  refine ⟨by rw [List.length_append, List.length_append, R.len]; rfl, ?_, fun q m hr => ?_, R.tabs⟩
  · rw [List.nodup_append]
    exact ⟨R.nd, (by simp), fun a ha b hb e => hm (by rw [← List.mem_singleton.mp hb, ← e]; exact ha)⟩
  · by_cases hlt : q < S.length
    · rw [List.getElem?_append_left hlt] at hr
      obtain ⟨a, h1, h2⟩ := R.obj q m hr
      exact ⟨a, Keep.adopt (H := H) |>.mu _ _ h1, h2.kp Keep.adopt rfl⟩
    · have e : q = S.length := by
        have := (List.getElem?_eq_some_iff.mp hr).1
        rw [List.length_append] at this
        simp only [List.length_singleton] at this
        omega
      subst e
      rw [List.getElem?_append_right (Nat.le_refl _)] at hr
      simp at hr
      subst hr
      exact ⟨D, by rw [← R.len, List.getElem?_append_right (Nat.le_refl _)]; simp, ro⟩
end
/-- pairs of flat values: keys plain, or tuples -/
theorem pairs_K {K : PySem.W.Frag} {μ : List Addr} {H : Hp} : ∀ {ds : List D} {vs : List V} {ps : List (D × D)}, Reps K CLF μ H ds vs → pairsL ds = some ps → (ps.all fun p => keyOk p.1) = true →
    ∃ kvs : List (Key × V), pairUp vs = kvs.map (fun kv => (kV kv.1, kv.2)) ∧ RepKV K CLF μ H ps kvs
  | [], _, _, .nil, h, _ => by cases h; exact ⟨[], rfl, .nil⟩
  | [_], _, _, _, h, _ => by cases h
  | k :: x :: r, _, ps, .cons rk (.cons rx rr), h, ha => by
    unfold pairsL at h
    cases e : pairsL r with
    | none => rw [e] at h; cases h
    | some qs =>
      rw [e] at h
      cases h
      rw [List.all_cons, Bool.and_eq_true] at ha
      obtain ⟨kvs, h1, h2⟩ := pairs_K rr e ha.2
      obtain ⟨q, hq⟩ := keyD_of ha.1
      obtain rfl := keyD_V rk hq
      exact ⟨(q, _) :: kvs, by rw [List.map_cons, ← h1]; rfl, .cons hq rx h2⟩
theorem pairs_T {K : PySem.W.Frag} {μ : List Addr} {H : Hp} : ∀ {ds : List D} {vs : List V} {ps : List (D × D)}, Reps K CLF μ H ds vs → pairsL ds = some ps → (ps.all fun p => keyT p.1) = true →
    ∃ kvs : List (List Key × V), KT2 H kvs (pairUp vs) ∧ RepKT K CLF μ H ps kvs
  | [], _, _, .nil, h, _ => by cases h; exact ⟨[], .nil, .nil⟩
  | [_], _, _, _, h, _ => by cases h
  | k :: x :: r, _, ps, .cons (v := v1) rk (.cons (v := v2) rx rr), h, ha => by
    unfold pairsL at h
    cases e : pairsL r with
    | none => rw [e] at h; cases h
    | some qs =>
      rw [e] at h
      cases h
      rw [List.all_cons, Bool.and_eq_true] at ha
      obtain ⟨kvs, h1, h2⟩ := pairs_T rr e ha.2
      obtain ⟨l, q, rfl, hq, hq2⟩ := keyTD_of ha.1
      cases rk with
      | @tup _ b xs hb hr =>
        obtain rfl := keysD_V hr hq2
        exact ⟨(q, v2) :: kvs, .cons ⟨b, rfl, hb, rfl⟩ h1, .cons hq rx h2⟩
theorem repKV_len {K : PySem.W.Frag} {CL : CLT} {μ : List Addr} {H : Hp} {ds : List (D × D)} {kvs : List (Key × V)} (h : RepKV K CL μ H ds kvs) : ds.length = kvs.length := h.length
theorem nodup_putK {κ : Type} [DecidableEq κ] : ∀ {kvs : List (κ × V)} (k : κ) (v : V), (kvs.map (·.1)).Nodup → ((putK kvs k v).map (·.1)).Nodup := by
  intro kvs k v nd
  by_cases h : valV kvs k = none
  · rw [putK_new v h, List.map_append, List.nodup_append]
    refine ⟨nd, by simp, fun a ha b hb e => ?_⟩
    have hb : b = k := by simpa using hb
    rw [e, hb] at ha
    obtain ⟨p, hp, hk⟩ := List.mem_map.1 ha
    have : (kvs.any fun kv => decide (kv.1 = k)) = true := List.any_eq_true.2 ⟨p, hp, by simp [hk]⟩
    rw [valV_any, h] at this
    cases this
  · have ha : (kvs.any fun kv => decide (kv.1 = k)) = true := by
      rw [valV_any]
      cases e : valV kvs k with
      | none => exact absurd e h
      | some _ => rfl
    unfold putK
    rw [if_pos ha, List.map_map]
    have : ((fun (kv : κ × V) => kv.1) ∘ fun kv => if kv.1 = k then (kv.1, v) else kv) = fun kv => kv.1 := by
      funext kv
      simp only [Function.comp]
      split <;> rfl
    rw [this]
    exact nd
theorem fold_K {K : PySem.W.Frag} {μ : List Addr} {H : Hp} : ∀ {ps : List (D × D)} {qs : List (Key × V)}, RepKV K CLF μ H ps qs → ∀ {ds : List (D × D)} {kvs : List (Key × V)}, RepKV K CLF μ H ds kvs → (kvs.map (·.1)).Nodup →
    RepKV K CLF μ H (ps.foldl (fun kvs p => dPut p.1 p.2 kvs) ds) (qs.foldl (fun acc q => putK acc q.1 q.2) kvs)
  | [], [], .nil, _, _, r, _ => r
  | _ :: _, _ :: _, .cons hk hx h, _, _, r, nd => fold_K h (dPut_K hk hx r nd) (nodup_putK _ _ nd)
theorem fold_T {K : PySem.W.Frag} {μ : List Addr} {H : Hp} : ∀ {ps : List (D × D)} {qs : List (List Key × V)}, RepKT K CLF μ H ps qs → ∀ {ds : List (D × D)} {kvs : List (List Key × V)}, RepKT K CLF μ H ds kvs → (kvs.map (·.1)).Nodup →
    RepKT K CLF μ H (ps.foldl (fun kvs p => dPut p.1 p.2 kvs) ds) (qs.foldl (fun acc q => putK acc q.1 q.2) kvs)
  | [], [], .nil, _, _, r, _ => r
  | _ :: _, _ :: _, .cons hk hx h, _, _, r, nd => fold_T h (dPut_T hk hx r nd) (nodup_putK _ _ nd)
theorem fold_ne : ∀ (ps : List (D × D)) (ds : List (D × D)), ds ≠ [] ∨ ps ≠ [] → ps.foldl (fun kvs p => dPut p.1 p.2 kvs) ds ≠ []
  | [], ds, h => by rcases h with h | h; exact h; exact absurd rfl h
  | p :: ps, ds, _ => fold_ne ps _ (.inl (dPut_ne _ _ _))
section
variable {X : Cx} {G : Wd} {CL : CLT} {W : WX} {pos : Pos}
/-- the pairs of a display, read by their flat values -/
structure PrS (X : Cx) (G : Wd) (CL : CLT) (W : WX) (pos : Pos) (keys : List (Option Expr)) (values : List Expr) (fs : Loc → M (List D)) : Prop where
  at_ : ∃ trs, PPs X pos keys values trs ∧ ∀ σ H Q, LAs X.K G CL W fs σ H (fun vs H' => Q (pairUp vs) H') → tPairs trs σ H Q
theorem prs_nil : PrS X G CL W pos [] [] (fun _ => Sim.ok []) :=
  ⟨[], pps_nil, fun σ H Q ⟨μ, L, S, R, RL, h⟩ => h.ok R .nil⟩
theorem prs_cons {k v : Expr} {ks : List (Option Expr)} {vs : List Expr} {fk fv : Loc → M D} {fs : Loc → M (List D)} (hk : PE X k (LE X.K G CL W fk)) (hv : PE X v (LE X.K G CL W fv)) (hr : PrS X G CL W pos ks vs fs) :
    PrS X G CL W pos (some k :: ks) (v :: vs) (fun L => bd (fk L) fun d => bd (bd (fv L) fun e => bd (fs L) fun ds => Sim.ok (e :: ds)) fun ds => Sim.ok (d :: ds)) := by
  obtain ⟨trs, h1, h2⟩ := hr.at_
  refine ⟨(LE X.K G CL W fk, LE X.K G CL W fv) :: trs, pps_cons hk hv h1, fun σ H Q h => ?_⟩
  refine (LG.bd (RR := rrD X.K CLF) h).imp fun x H1 ⟨μ1, S1, L, d, R1, RL1, ra, h1⟩ => ?_
  have h1 := h1.bd (RR := rrA X.K CLF)
  refine LA.lg (f := fv) ((LA.bd (RR := rrD X.K CLF) h1).imp fun y H2 ⟨μ2, S2, e, s2, R2, rb, h3⟩ => ?_) R1 RL1
  refine h2 σ H2 _ (LA.lg (f := fs) ((LA.bd (RR := rrA X.K CLF) h3).imp fun zs H3 ⟨μ3, S3, ds, s3, R3, rc, h4⟩ => ?_) R2 (RL1.step s2))
  obtain ⟨μ4, S4, ds4, s4, R4, rd, h5⟩ := h4.ok (v := y :: zs) R3 (.cons (rb.step s3) rc)
  exact h5.ok (v := x :: y :: zs) R4 (.cons (ra.step s4) rd)
theorem sim_dct {keys : List (Option Expr)} {values : List Expr} {fs : Loc → M (List D)} (hu : X.A.units + 1 < cLine) (h : PrS X G CL W pos keys values fs) (hall : keys.all (·.isSome) = true) (hl : keys.length = values.length) (h0 : keys ≠ []) (h15 : keys.length ≤ 15) :
    PE X (.Dict keys values pos) (LE X.K G CL W fun L => bd (fs L) dMake) := by
  obtain ⟨trs, h1, h2⟩ := h.at_
  refine PE.imp (pe_dispE hu h1 hall hl h0 h15) fun σ H Q ⟨μ, L, S, R, RL, q⟩ => ?_
  intro p hp
  have st0 : Step μ H μ (upd H p (.dK [])) := Step.new hp
  have np : p ∉ μ := fun z => by
    obtain ⟨o, ho, _⟩ := R.mem z
    rw [hp] at ho; cases ho
  refine h2 σ _ _ ⟨μ, L, S, R.new hp, RL.step st0, ?_⟩
  obtain ⟨r2, S3, e2, q2⟩ := q
  dsimp only at e2
  unfold Sim.bd at e2
  cases e1 : fs L S with
  | none => rw [e1] at e2; cases e2
  | some r =>
  obtain ⟨r, S2⟩ := r
  rw [e1] at e2
  refine ⟨r, S2, e1, ?_⟩
  cases r with
  | exc x =>
    cases e2
    exact fun μ' H' dx s1 => q2 μ' H' dx (st0.trans s1)
  | val ds2 =>
    intro μ2 H1 vs s1 R2 rb
    have np2 : p ∉ μ2 := s1.notin np upd_same
    have ep : H1 p = some (.dK []) := s1.other p _ upd_same np (fun ps z => by cases z)
    refine ⟨ep, ?_⟩
    dsimp only at e2
    unfold dMake at e2
    cases eps : pairsL ds2 with
    | none => rw [eps] at e2; cases e2
    | some ps =>
      rw [eps] at e2
      dsimp only at e2
      split at e2
      · rename_i hc
        rw [Bool.and_eq_true, Bool.and_eq_true, Bool.or_eq_true, decide_eq_true_eq] at hc
        obtain ⟨⟨hk, hne⟩, hle⟩ := hc
        have hne : ps ≠ [] := fun z => by rw [z] at hne; cases hne
        unfold alloc at e2
        cases e2
        have km : ∀ {o : HO}, Keep μ2 H1 μ2 (upd H1 p o) := Keep.mut ep trivial (fun _ z => by cases z)
        have fin : ∀ (o : HO), (∀ φ, o ≠ .ext φ) → RepO X.K CLF (μ2 ++ [p]) (upd H1 p o) p (.dct (ps.foldl (fun kvs p => dPut p.1 p.2 kvs) []) false) → Q (.ref p) (upd H1 p o) := by
          intro o ox ro
          have R3 : RelG X.K G CLF μ2 S2 (upd H1 p o) := R2.offO np2 ep trivial (fun _ z => by cases z) (fun _ z => by cases z)
          have R4 := R3.adoptO np2 ro
          have s5 : Step μ H μ2 H1 := st0.trans s1
          have s6 : Step μ H (μ2 ++ [p]) (upd H1 p o) := (s5.offset hp).adopt hp
          refine q2 (μ2 ++ [p]) _ (.ref p) s6 R4 (.ref ?_)
          rw [← R2.len, List.getElem?_append_right (Nat.le_refl _)]
          simp
        rcases hk with hk | hk
        · obtain ⟨kvs, h3, h4⟩ := pairs_K rb eps hk
          refine .inl ⟨kvs, h3, by rw [← h4.length]; exact hle, fin _ (fun _ z => by cases z) (.dK upd_same ?_)⟩
          exact (fold_K (h4.kp km) .nil (by simp)).kp Keep.adopt
        · obtain ⟨kvs, h3, h4⟩ := pairs_T rb eps hk
          refine .inr ⟨kvs, h3, by rw [← h4.length]; exact hle, fin _ (fun _ z => by cases z) (.dT (fold_ne ps [] (.inr hne)) upd_same ?_)⟩
          exact (fold_T (h4.kp km) .nil (by simp)).kp Keep.adopt
      · cases e2
end
section
variable {X : Cx} {G : Wd} {CL : CLT} {W W0 : WX} {elt tg e : Expr} {ifs : List Expr} {scope : Scope} {own : List (Str × Nat)} {pos apos cpos : Pos} {ftg : D → Loc → M Loc} {fifs : Loc → M Bool} {felt : Loc → M D} {i : Nat} {k : Bool}
theorem sim_compD (hc : X.calm = true) (hN : X.N.Nodup) (ht : k = true → ∃ el kk tp, tg = .Tuple el kk tp) (he : PE X e (LE X.K G CL W fun L => ofO (getV L i))) (ok : BlkOk X.N X.env.scope scope own)
    (hg : ∀ (s : Shared) (H : Hp) (C : Addr) (cl : List (Str × Addr)) (fp : List Addr), PG (X.blk s H scope (compEnvC scope cl C X.env) fp) tg (gT X.K G CL (own.map (·.2)) ftg))
    (htt : ∀ (s : Shared) (H : Hp) (C : Addr) (cl : List (Str × Addr)) (fp : List Addr), PTs (X.blk s H scope (compEnvC scope cl C X.env) fp) ifs (LT' X.K G CL W0 fifs))
    (hee : ∀ (s : Shared) (H : Hp) (C : Addr) (cl : List (Str × Addr)) (fp : List Addr), PE (X.blk s H scope (compEnvC scope cl C X.env) fp) elt (LE X.K G CL W0 felt))
    (hbase : attributeBase e (dWord k) X.env (eval e X.env) = eval e X.env) (hline : (apos.endLine == cpos.line) = true) (hs : ∀ x, foldedSetIterable (.Call (.Attribute e (dWord k) apos) [] [] cpos) X.env x = pure x) :
    PE X (.ListComp elt [⟨tg, .Call (.Attribute e (dWord k) apos) [] [] cpos, ifs, 0⟩] scope pos) (LE X.K G CL W fun L => awayD (getV L i) fun kvs => guard' (decide ((dItems k kvs).length ≤ 1000000)) (bd (noX (cmpRun (turn1 ftg fifs felt) ⟨dItems k kvs, none⟩ (wipeL (own.map (·.2)) L) (dItems k kvs))) fun ys => alloc (.lst ys))) :=
  PE.imp (pe_lock (pe_lc hc hN (pi_dict ht he hbase hline) ok hg htt hee hs)) fun σ H Q ⟨μ, L, S, R, RL, h⟩ => by
    dsimp only at h
    obtain ⟨res, Sf, hr, hq⟩ := h
    unfold awayD at hr
    cases e1 : getV L i with
    | none => rw [e1] at hr; cases hr
    | some d =>
      rw [e1] at hr
      cases d with
      | ref r =>
        dsimp only at hr
        cases e2 : S[r]? with
        | none => rw [e2] at hr; cases hr
        | some mo =>
          rw [e2] at hr
          cases mo with
          | dct kvs b =>
            cases b with
            | true => cases hr
            | false =>
              dsimp only at hr
              obtain ⟨a, hm, ro⟩ := R.obj r _ e2
              obtain ⟨u, hu, dr⟩ := ro.dRep
              obtain ⟨mu, nx, nt, nl⟩ := dr.is
              refine ⟨a, u, hu, mu, fun od => ?_⟩
              have hma := List.mem_of_getElem? hm
              have kl : Keep μ H μ (upd H a (.frz od u)) := Keep.mut hu mu nx
              have Rl : RelG X.K G CLF μ (S.set r .gone) (upd H a (.frz od u)) := R.lock hm hu mu nx nt (fun _ z => by cases z) (fun _ z => by cases z)
              have drl := dr.kp kl
              have sl : Step μ H μ (upd H a (.frz od u)) := Step.put hma hu mu nx
              have rd : ∀ (Q : VK), (∀ μ' H', Step μ (upd H a (.frz od u)) μ' H' → RelG X.K G CLF μ' (S.set r .gone) H' → Q (.ref a) H') → LE X.K G CL W (fun L => ofO (getV L i)) σ (upd H a (.frz od u)) Q :=
                fun Q hQ => name_reads Rl (RL.kp kl) e1 hm hQ
              have run : ∀ μ' H', Step μ (upd H a (.frz od u)) μ' H' → LA X.K G CLF (rrD X.K CLF) W μ' (S.set r .gone) (guard' (decide ((dItems k kvs).length ≤ 1000000)) (bd (noX (cmpRun (turn1 ftg fifs felt) ⟨dItems k kvs, none⟩ (wipeL (own.map (·.2)) L) (dItems k kvs))) fun ys => alloc (.lst ys))) σ H' fun v H2 => H2 a = some (.frz od u) ∧ Q v (upd H2 a u) := by
                intro μ' H' s1
                unfold away at hr
                generalize guard' (decide ((dItems k kvs).length ≤ 1000000)) (bd (noX (cmpRun (turn1 ftg fifs felt) ⟨dItems k kvs, none⟩ (wipeL (own.map (·.2)) L) (dItems k kvs))) fun ys => alloc (.lst ys)) = m at hr
                unfold LA
                cases e3 : m (S.set r .gone) with
                | none => rw [e3] at hr; cases hr
                | some q =>
                  obtain ⟨r1, S1⟩ := q
                  rw [e3] at hr
                  cases r1 with
                  | val d =>
                    cases hr
                    refine ⟨.val d, S1, rfl, fun μ2 H2 v s2 R2 rv => ?_⟩
                    have s3 := s1.trans s2
                    have e4 : H2 a = some (.frz od u) := s3.frzs _ _ _ upd_same
                    have kb : Keep μ2 H2 μ2 (upd H2 a u) := Keep.unlock e4 nl
                    exact ⟨e4, hq μ2 _ v (Step.unlock s3 hma hu mu nx) (R2.unlock (s3.mu hm) e4 nl (((drl.step s3).kp kb).repO upd_same)) (Rep.kp kb rv)⟩
                  | exc x =>
                    cases hr
                    exact ⟨.exc x, _, rfl, fun μ2 H2 dx s2 R2 rx => hq μ2 H2 dx (sl.trans (s1.trans s2)) R2 rx⟩
              unfold tLc iDict
              cases k with
              | true =>
                rw [if_pos rfl]
                rcases drl with ⟨kv2, rfl, rkv⟩ | ⟨kv2, rfl, hne, rkv⟩
                · exact .inl (rd _ fun μ' H' s R' => ⟨a, od, kv2, rfl, s.frzs _ _ _ upd_same, comp_core (src := ⟨dItems true kvs, none⟩) R' ((RL.kp kl).step s) (it_di (s.frzs _ _ _ upd_same) (rkv.step s)) (run μ' H' s)⟩)
                · exact .inr (rd _ fun μ' H' s R' => ⟨a, od, kv2, rfl, s.frzs _ _ _ upd_same, comp_core (src := ⟨dItems true kvs, none⟩) R' ((RL.kp kl).step s) (it_ti (s.frzs _ _ _ upd_same) (rkv.step s)) (run μ' H' s)⟩)
              | false =>
                rw [if_neg Bool.false_ne_true]
                rcases drl with ⟨kv2, rfl, rkv⟩ | ⟨kv2, rfl, hne, rkv⟩
                · exact .inl (rd _ fun μ' H' s R' => ⟨a, od, kv2, rfl, s.frzs _ _ _ upd_same, comp_core (src := ⟨dItems false kvs, none⟩) R' ((RL.kp kl).step s) (it_dv (s.frzs _ _ _ upd_same) (rkv.step s)) (run μ' H' s)⟩)
                · exact .inr (rd _ fun μ' H' s R' => ⟨a, od, kv2, rfl, s.frzs _ _ _ upd_same, comp_core (src := ⟨dItems false kvs, none⟩) R' ((RL.kp kl).step s) (it_tv (s.frzs _ _ _ upd_same) (rkv.step s)) (run μ' H' s)⟩)
          | _ => cases hr
      | _ => cases hr
end
end Sim
set_option Elab.async false
set_option linter.all false
set_option autoImplicit false
set_option maxRecDepth 100000
/-! Sim1m: the check of a tree against the text's syntax. -/
namespace Sim
open PySem PySem.Spec PyProof.Rows L2
/-- what a check knows -/
structure GL where
  funs : List (Nat × Str)
  cfuns : List (Nat × Str)
  clss : List (Str × Nat)
  globs : List (Str × D)
  blts : List Str
structure CC where
  N : List Str
  sc : Scope
  fnc : List Str
  clo : Bool
  blk : Bool
  gl : GL
  chkL : Nat → Arguments → Expr → Scope → Bool
def okN (x : Str) : Bool := !(x == ("__debug__" : Str)) && !(x == ("__classdict__" : Str)) && !(x == ("__name__" : Str))
def visB (sc : Scope) (x : Str) : Bool := match sc.names.lookup x with
  | some .local | some .cell | some .free => true
  | _ => false
def glB (sc : Scope) (x : Str) : Bool := match sc.names.lookup x with
  | some .globalImplicit => true
  | _ => false
def bltB (c : CC) (x : Str) : Bool := glB c.sc x && okN x && c.gl.blts.contains x
def locB (c : CC) (x : Str) : Bool := match c.sc.names.lookup x with
  | some .local => true
  | some .cell => c.fnc.contains x
  | _ => false
def notSlice : Expr → Bool
  | .Slice .. => false
  | _ => true
/-- the source's name and the id of a built-in; is it a type -/
def biS : Bi → Option (String × Bool)
  | .len => some ("len", false) | .int => some ("int", true) | .abs => some ("abs", false) | .max2 => some ("max", false) | .min2 => some ("min", false)
  | .sum => some ("sum", false) | .tuple => some ("tuple", true) | .list => some ("list", true) | .sorted => some ("sorted", false) | .any1 => some ("any", false) | .all1 => some ("all", false) | _ => none
def meS : Me → Option String
  | .append => some "append" | .extend => some "extend" | .insert => some "insert" | .join => some "join" | .get2 => some "get" | _ => none
/-- the names of a comprehension's block -/
def blkB (N : List Str) (sc scope : Scope) (own : List (Str × Nat)) : Bool :=
  decide (scope.kind = .function) && scope.names.all (fun y => decide (scope.names.lookup y.1 = some y.2)) && own.all (fun p => decide (N[p.2]? = some p.1)) &&
  scope.names.all (fun y => match y.2 with
    | .free => (match sc.names.lookup y.1 with | some .cell | some .free => true | _ => false)
    | .local | .cell => (own.map (·.1)).contains y.1 || !N.contains y.1
    | _ => true)
def ownN (N : List Str) (own : List Nat) : List (Str × Nat) := own.filterMap fun i => (N[i]?).map fun x => (x, i)
def inBlk (c : CC) (scope : Scope) : CC := { c with sc := relS scope c.sc, fnc := (scope.names.filter fun y => decide (scope.names.lookup y.1 = some .cell)).map (·.1), blk := true }
def isTup : Expr → Bool
  | .Tuple .. => true
  | _ => false
def notSet : Expr → Bool
  | .Set .. => false
  | _ => true
mutual
def chkE : Bool → CC → E → Expr → Bool
  | _, c, .var i, a => match a with
    | .Name x _ => decide (c.N[i]? = some x) && visB c.sc x && okN x
    | _ => false
  | _, _, .int i, a => match a with
    | .Constant (.int j) _ _ => decide (i = j)
    | _ => false
  | _, _, .bl b, a => match a with
    | .Constant (.bool j) _ _ => b == j
    | _ => false
  | _, _, .non, a => match a with
    | .Constant .none _ _ => true
    | _ => false
  | _, _, .str x, a => match a with
    | .Constant (.str j) _ _ => decide (x = j)
    | _ => false
  | _, c, .glob x v, a => match a with
    | .Name y _ => decide (x = y) && glB c.sc y && okN y && (match c.gl.globs.lookup y with | some d => beqD d v | none => false)
    | _ => false
  | _, c, .tup es, a => match a with
    | .Tuple l _ _ => decide (l.length < 1000) && chkEs c es l
    | _ => false
  | _, c, .lst es, a => match a with
    | .List l _ => decide (l.length < 1000) && chkEs c es l
    | _ => false
  | _, c, .dct0, a => match a with
    | .Dict [] [] _ => true
    | _ => false
  | _, c, .un op x, a => match a with
    | .UnaryOp .USub e _ => decide (op = .neg) && chkE false c x e
    | _ => false
  | _, c, .bin op x y, a => match a with
    | .BinOp l o r _ => decide (bopOf op = some o) && chkE false c x l && chkE false c y r
    | _ => false
  | _, c, .cmp op x y, a => match a with
    | .Compare l [o] [r] _ => decide (o = copOf op) && !behindInMarks o r && chkE false c x l && chkE false c y r
    | _ => false
  | t, c, .cmp2 o1 o2 x y z, a => match a with
    | .Compare l [p1, p2] [m, r] _ => decide (p1 = copOf o1) && decide (p2 = copOf o2) && !lastMarks [p1, p2] [m, r] && chkE false c x l && chkE false c y m && chkE false c z r
    | _ => false
  | t, c, .and es, a => match a with
    | .BoolOp .And l _ => chkB t c es l
    | _ => false
  | t, c, .or es, a => match a with
    | .BoolOp .Or l _ => chkB t c es l
    | _ => false
  | t, c, .not x, a => match a with
    | .UnaryOp .Not e _ => chkE t c x e
    | _ => false
  | t, c, .ite x y z, a => match a with
    | .IfExp k l r _ => !t && chkE true c x k && chkE false c y l && chkE false c z r
    | _ => false
  | _, c, .call f (.lam i r), a => match a with
    | .Call (.Name x _) (.Lambda ps body lsc _ :: l) [] _ => !c.blk && decide (c.gl.cfuns.lookup f = some x) && glB c.sc x && okN x && c.chkL i ps body lsc && l.all plainArg && chkEs c r l
    | _ => false
  | _, c, .call f (.pass i r), a => match a with
    | .Call (.Name x _) (.Name y _ :: l) [] _ => !c.blk && c.clo && decide (c.gl.cfuns.lookup f = some x) && glB c.sc x && okN x && decide (c.N[i]? = some y) && visB c.sc y && okN y && l.all plainArg && chkEs c r l
    | _ => false
  | _, c, .call f es, a => match a with
    | .Call (.Name x _) l [] _ => decide (c.gl.funs.lookup f = some x) && glB c.sc x && okN x && l.all plainArg && chkEs c es l
    | _ => false
  | _, c, .bi f es, a => match a with
    | .Call (.Name x _) (e :: l) [] _ => (match biS f with | some (n, _) => decide (x = (n : Str)) | none => false) && bltB c x && (e :: l).all plainArg && chkEs c es (e :: l)
    | _ => false
  | _, c, .isi x t, a => match a with
    | .Call (.Name f _) [e, .Name y _] [] _ => decide (f = ("isinstance" : Str)) && decide (y = (tyN t : Str)) && bltB c f && bltB c y && plainArg e && chkE false c x e
    | _ => false
  | _, c, .meth m o es, a => match a with
    | .Call (.Attribute oe n apos) (e :: l) [] pos => (match meS m with | some k => decide (n = (k : Str)) | none => false) && plainOwner oe && (apos.endLine == pos.line) && decide ((e :: l).length < 30) && (e :: l).all plainArg && chkE false c o oe && chkEs c es (e :: l)
    | _ => false
  | _, c, .sub x i, a => match a with
    | .Subscript e s _ => notSlice s && chkE false c x e && chkE false c i s
    | _ => false
  | _, c, .rev x, a => match a with
    | .Subscript e (.Slice none none (some (.UnaryOp .USub (.Constant (.int 1) _ _) _)) _) _ => chkE false c x e
    | _ => false
  | _, c, .slU x h, a => match a with
    | .Subscript e (.Slice none (some u) none _) _ => chkE false c x e && chkE false c h u
    | _ => false
  | _, c, .slL x h, a => match a with
    | .Subscript e (.Slice (some u) none none _) _ => chkE false c x e && chkE false c h u
    | _ => false
  | _, c, .slB x lo h, a => match a with
    | .Subscript e (.Slice (some v) (some u) none _) _ => chkE false c x e && chkE false c lo v && chkE false c h u
    | _ => false
  | _, c, .lrg1 x, a => match a with
    | .Call (.Name f _) [.Call (.Name g _) [e] [] _] [] _ => decide (f = ("list" : Str)) && decide (g = ("range" : Str)) && bltB c f && bltB c g && plainArg e && chkE false c x e
    | _ => false
  | _, c, .lrg2 x y, a => match a with
    | .Call (.Name f _) [.Call (.Name g _) [e, u] [] _] [] _ => decide (f = ("list" : Str)) && decide (g = ("range" : Str)) && bltB c f && bltB c g && plainArg e && plainArg u && chkE false c x e && chkE false c y u
    | _ => false
  | _, c, .trg1 x, a => match a with
    | .Call (.Name f _) [.Call (.Name g _) [e] [] _] [] _ => decide (f = ("tuple" : Str)) && decide (g = ("range" : Str)) && bltB c f && bltB c g && plainArg e && chkE false c x e
    | _ => false
  | _, c, .trg2 x y, a => match a with
    | .Call (.Name f _) [.Call (.Name g _) [e, u] [] _] [] _ => decide (f = ("tuple" : Str)) && decide (g = ("range" : Str)) && bltB c f && bltB c g && plainArg e && plainArg u && chkE false c x e && chkE false c y u
    | _ => false
  | _, c, .comp own elt tg it ifs, a => match a with
    | .ListComp e [⟨t, i, l, 0⟩] scope _ => !c.clo && decide ((ownN c.N own).map (·.2) = own) && blkB c.N c.sc scope (ownN c.N own) && notSet i && chkIt c it t i && chkTg (inBlk c scope) own tg t && chkIf (inBlk c scope) ifs l && chkE false (inBlk c scope) elt e
    | _ => false
  | _, c, .compD own elt tg k j ifs, a => match a with
    | .ListComp e [⟨t, .Call (.Attribute (.Name x _) nm apos) [] [] cpos, l, 0⟩] scope _ => !c.clo && decide ((ownN c.N own).map (·.2) = own) && blkB c.N c.sc scope (ownN c.N own) && (decide (c.N[j]? = some x) && visB c.sc x && okN x) && (decide (nm = dWord k) && (apos.endLine == cpos.line) && (!k || isTup t)) && chkTg (inBlk c scope) own tg t && chkIf (inBlk c scope) ifs l && chkE false (inBlk c scope) elt e
    | _ => false
  | _, c, .dct es, a => match a with
    | .Dict ks vs _ => !ks.isEmpty && decide (ks.length ≤ 15) && chkPs c es ks vs
    | _ => false
def chkPs : CC → Es → List (Option Expr) → List Expr → Bool
  | _, .nil, ks, vs => ks.isEmpty && vs.isEmpty
  | c, .cons k (.cons v r), ks, vs => match ks, vs with
    | some a :: ks, b :: vs => chkE false c k a && chkE false c v b && chkPs c r ks vs
    | _, _ => false
  | _, _, _, _ => false
def chkEs : CC → Es → List Expr → Bool
  | _, .nil, l => match l with
    | [] => true
    | _ :: _ => false
  | c, .cons e r, l => match l with
    | a :: l => plainArg a && chkE false c e a && chkEs c r l
    | [] => false
  | _, .lam _ _, _ => false
  | _, .pass _ _, _ => false
def chkB : Bool → CC → Es → List Expr → Bool
  | _, _, .nil, _ => false
  | t, c, .cons e .nil, l => match l with
    | [a] => chkE t c e a
    | _ => false
  | t, c, .cons e r, l => match l with
    | a :: b :: l => chkE t c e a && chkB t c r (b :: l)
    | _ => false
  | _, _, .lam _ _, _ => false
  | _, _, .pass _ _, _ => false
def chkIf : CC → Es → List Expr → Bool
  | _, .nil, l => match l with
    | [] => true
    | _ :: _ => false
  | c, .cons e .nil, l => match l with
    | [a] => chkE true c e a
    | _ => false
  | _, _, _ => false
def chkIt : CC → It → Expr → Expr → Bool
  | c, .seq e, _, i => chkE false c e i
  | c, .rg1 x, _, i => match i with
    | .Call (.Name g _) [e] [] _ => decide (g = ("range" : Str)) && bltB c g && plainArg e && chkE false c x e
    | _ => false
  | c, .rg2 x y, _, i => match i with
    | .Call (.Name g _) [e, u] [] _ => decide (g = ("range" : Str)) && bltB c g && plainArg e && plainArg u && chkE false c x e && chkE false c y u
    | _ => false
  | c, .rg3 x y z, _, i => match i with
    | .Call (.Name g _) [e, u, v] [] _ => decide (g = ("range" : Str)) && bltB c g && plainArg e && plainArg u && plainArg v && chkE false c x e && chkE false c y u && chkE false c z v
    | _ => false
  | c, .enum x, t, i => match t, i with
    | .Tuple _ _ _, .Call (.Name g _) [e] [] _ => decide (g = ("enumerate" : Str)) && bltB c g && plainArg e && chkE false c x e
    | _, _ => false
  | _, .items _, _, _ => false
  | _, .values _, _, _ => false
def chkTg : CC → List Nat → Tg → Expr → Bool
  | c, vs, .name i, a => match a with
    | .Name x _ => vs.contains i && decide (c.N[i]? = some x) && locB c x
    | _ => false
  | c, vs, .tup ts, a => match a with
    | .Tuple l _ _ => l.all plainArg && chkTgs c vs ts l
    | _ => false
  | c, _, .sub o i, a => match a with
    | .Subscript e s _ => notSlice s && chkE false c o e && chkE false c i s
    | _ => false
def chkTgs : CC → List Nat → Tgs → List Expr → Bool
  | _, _, .nil, l => match l with
    | [] => true
    | _ :: _ => false
  | c, vs, .cons t r, l => match l with
    | a :: l => plainArg a && chkTg c vs t a && chkTgs c vs r l
    | [] => false
end
end Sim
set_option Elab.async false
set_option linter.all false
set_option autoImplicit false
set_option maxRecDepth 100000
/-! Sim1n: the check of expressions is sound. -/
namespace Sim
open PySem PySem.Spec PyProof.Rows L2
/-- what a def promises: what the interpreter's call gives -/
def SpC (K : PySem.W.Frag) (G : Wd) (n : Nat) (m : List D → M D) : Sp := fun vs H Q E => vs.length = n ∧ ∃ μ S ds, RelG K G CLF μ S H ∧ Reps K CLF μ H ds vs ∧ LA K G CLF (rrD K CLF) (fun cls d _ H' => E cls d H') μ S (m ds) [] H Q
/-- the program's facts -/
structure PgF (P : Program) (w : World) (K : PySem.W.Frag) (mg : Str → Option Value) (base : Heap) (G : Wd) (c : GL) (O : Orc) (k : Nat) : Prop where
  blt : ∀ x, c.blts.contains x = true → mg x = none
  glob : ∀ x d, c.globs.lookup x = some d → ∃ u v, mg x = some u ∧ RelV v u ∧ ∀ μ H, Rep K CLF μ H d v
  fns : ∀ g x, c.funs.lookup g = some x → ∃ f fd ps, mg x = some (.ref f) ∧ PySem.W.keepIn K (.ref f) = true ∧ Binds K fd ps [] ∧ (∀ ds S r, O.call g ds S = some r → ds.length = ps.length) ∧ FnOk P w K mg base (L2N.CX P w) k f fd ps (SpC K G ps.length (O.call g))
section
variable (G : Wd) (O : Orc)
/-- x(lambda: .., ..) -/
def LamRule (c : CC) (X : Cx) (W : WX) (CL : CLT) : Prop := ∀ (f i : Nat) (x : Str) (ps : Arguments) (body : Expr) (lsc : Scope) (lp p pos : Pos) (l : List Expr) (fs : Loc → M (List D)), c.gl.cfuns.lookup f = some x → Gl X x → okN x = true → c.chkL i ps body lsc = true → l.all plainArg = true →
  PA X l (LAs X.K G CL W fs) → PE X (.Call (.Name x p) (.Lambda ps body lsc lp :: l) [] pos) (LE X.K G CL W fun L => bd (bd (fs L) fun ds => Sim.ok (.clo O.me i (restrict (O.caps i) L) :: ds)) fun ds => O.call f ds)
/-- x(y, ..), y a closure -/
def PassRule (c : CC) (X : Cx) (W : WX) (CL : CLT) : Prop := ∀ (f i : Nat) (x y : Str) (p py pos : Pos) (l : List Expr) (fs : Loc → M (List D)), c.gl.cfuns.lookup f = some x → Gl X x → okN x = true → X.N[i]? = some y → Vis X.env.scope y → okN y = true → l.all plainArg = true →
  PA X l (LAs X.K G CL W fs) → PE X (.Call (.Name x p) (.Name y py :: l) [] pos) (LE X.K G CL W fun L => bd (bd (ofO (getC L i)) fun d => bd (fs L) fun ds => Sim.ok (d :: ds)) fun ds => O.call f ds)
end
/-- what a context must be -/
structure CtxOk (P : Program) (w : World) (K : PySem.W.Frag) (mg : Str → Option Value) (base : Heap) (G : Wd) (O : Orc) (k : Nat) (c : CC) (X : Cx) (W : WX) (CL : CLT) : Prop where
  prog : X.prog = P
  w : X.w = w
  K : X.K = K
  mg : X.mg = mg
  base : X.base = base
  N : X.N = c.N
  nd : X.N.Nodup
  sc : X.env.scope = c.sc
  calm : X.calm = true
  room : Room k X.A
  fn : ∀ x, c.fnc.contains x = true → X.fn x = true
  takes : L2N.Takes X W
  lam : c.blk = false → LamRule G O c X W CL
  pass : c.blk = false → PassRule G O c X W CL
/-- an expression, as a value or as a test -/
def PEt (t : Bool) (X : Cx) (e : Expr) (G : Wd) (CL : CLT) (W : WX) (f : Loc → M D) : Prop := if t = true then PT X e (LT' X.K G CL W fun L => bd (f L) tru) else PE X e (LE X.K G CL W f)
def plainT : Expr → Bool
  | .UnaryOp .Not _ _ | .BoolOp _ _ _ | .IfExp _ _ _ _ | .Compare _ _ _ _ => false
  | _ => true
theorem plain_test {a : Expr} (h : plainT a = true) (env : Env) : ∀ whole, isTrue a env whole = (do let v ← whole; standAt a.pos; holding [v] (truthy v)) := by
  cases a with
  | UnaryOp op e p => cases op <;> first | exact fun _ => rfl | cases h
  | _ => first | exact fun _ => rfl | cases h
theorem PEt.of {t : Bool} {X : Cx} {e : Expr} {G : Wd} {CL : CLT} {W : WX} {f : Loc → M D} (hp : plainT e = true) (h : PE X e (LE X.K G CL W f)) : PEt t X e G CL W f := by
  unfold PEt
  cases t with
  | false => exact h
  | true => exact sim_truth (plain_test hp _) h
theorem PEt.val {X : Cx} {e : Expr} {G : Wd} {CL : CLT} {W : WX} {f : Loc → M D} (h : PEt false X e G CL W f) : PE X e (LE X.K G CL W f) := h
theorem PEt.tst {X : Cx} {e : Expr} {G : Wd} {CL : CLT} {W : WX} {f : Loc → M D} (h : PEt true X e G CL W f) : PT X e (LT' X.K G CL W fun L => bd (f L) tru) := h
/-! ### facts of the checks -/
theorem okN_dbg {x : Str} (h : okN x = true) : (x == ("__debug__" : Str)) = false ∧ (x == ("__classdict__" : Str)) = false ∧ x ≠ "__name__" := by
  unfold okN at h
  simp only [Bool.and_eq_true, Bool.not_eq_true'] at h
  exact ⟨h.1.1, h.1.2, fun z => by rw [z] at h; simp at h⟩
theorem visB_vis {sc : Scope} {x : Str} (h : visB sc x = true) : Vis sc x := by
  unfold visB at h
  split at h
  · exact .inl ‹_›
  · exact .inr (.inl ‹_›)
  · exact .inr (.inr ‹_›)
  · cases h
theorem glB_gl {X : Cx} {sc : Scope} {x : Str} (e : X.env.scope = sc) (h : glB sc x = true) : Gl X x := by
  unfold glB at h
  split at h
  · show X.env.scope.names.lookup x = _
    rw [e]
    assumption
  · cases h
theorem plainIx_of {b : Expr} (h : notSlice b = true) : PlainIx b := by
  intro o i
  cases b <;> first | rfl | cases h
theorem sub_assign {o i : Expr} {pos : Pos} {env : Env} (h : notSlice i = true) : ∀ v, assign (.Subscript o i pos) env v = (do
      let ov ← holding [v] (eval o env)
      let iv ← holding [v, ov] (eval i env)
      standAt pos
      holding [v, ov, iv] (setItem ov iv v)
      release [v, ov, iv] []) := by
  intro v
  cases i <;> first | rfl | cases h
theorem notSet_fold {e : Expr} (h : notSet e = true) (env : Env) : ∀ x, foldedSetIterable e env x = pure x := by
  intro x
  cases e <;> first | rfl | cases h
theorem blkB_ok {N : List Str} {sc scope : Scope} {own : List (Str × Nat)} (h : blkB N sc scope own = true) : BlkOk N sc scope own := by
  unfold blkB at h
  simp only [Bool.and_eq_true, decide_eq_true_eq, List.all_eq_true] at h
  obtain ⟨⟨⟨h1, h2⟩, h3⟩, h4⟩ := h
  refine ⟨h1, h2, h3, fun y hy e => ?_, fun y hy e => ?_⟩
  · have := h4 y hy
    rw [e] at this
    dsimp only at this
    split at this
    · exact .inl ‹_›
    · exact .inr ‹_›
    · cases this
  · have := h4 y hy
    have q : ((own.map (·.1)).contains y.1 || !N.contains y.1) = true := by
      rcases e with e | e <;> (rw [e] at this; exact this)
    rw [Bool.or_eq_true] at q
    rcases q with q | q
    · exact .inl (List.contains_iff_mem.mp q)
    · refine .inr fun z => ?_
      rw [List.contains_iff_mem.mpr z] at q
      cases q
theorem takesF {X : Cx} : L2N.Takes X (fun _ _ _ _ => False) := fun _ _ x => by
  obtain ⟨_, _, _, _, _, _, _, _, _, _, _, _, _, _, _, _, z⟩ := x
  exact z.elim
section
variable {P : Program} {w : World} {K : PySem.W.Frag} {mg : Str → Option Value} {base : Heap} {G : Wd} {O : Orc} {k : Nat} {c : CC} {X : Cx} {W : WX} {CL : CLT}
/-- in a comprehension's block -/
theorem CtxOk.inBlk (C : CtxOk P w K mg base G O k c X W CL) (scope : Scope) (s : Shared) (H : Hp) (A : Addr) (cl : List (Str × Addr)) (fp : List Addr) : CtxOk P w K mg base G O k (inBlk c scope) (X.blk s H scope (compEnvC scope cl A X.env) fp) (fun _ _ _ _ => False) CL := by
  refine ⟨C.prog, C.w, C.K, C.mg, C.base, C.N, C.nd, ?_, C.calm, C.room, fun x hx => ?_, takesF, fun z => (by cases z), fun z => (by cases z)⟩
  · show relabel scope X.env = relS scope c.sc
    rw [← C.sc]
    rfl
  · have hx : ((scope.names.filter fun y => decide (scope.names.lookup y.1 = some .cell)).map (·.1)).contains x = true := hx
    obtain ⟨y, hy, rfl⟩ := List.mem_map.mp (List.contains_iff_mem.mp hx)
    have := of_decide_eq_true (List.mem_filter.mp hy).2
    show (scope.names.lookup y.1 == some .cell) = true
    rw [this]
    rfl
theorem PgF.inBlk (F : PgF P w K mg base G c.gl O k) (scope : Scope) : PgF P w K mg base G (inBlk c scope).gl O k := ⟨F.blt, F.glob, F.fns⟩
theorem CtxOk.bl (C : CtxOk P w K mg base G O k c X W CL) (F : PgF P w K mg base G c.gl O k) {x : Str} (h : bltB c x = true) : Gl X x ∧ X.mg x = none ∧ (x == ("__debug__" : Str)) = false ∧ x ≠ "__name__" := by
  unfold bltB at h
  rw [Bool.and_eq_true, Bool.and_eq_true] at h
  obtain ⟨⟨h1, h2⟩, h3⟩ := h
  obtain ⟨d1, d2, d3⟩ := okN_dbg h2
  exact ⟨glB_gl C.sc h1, by rw [C.mg]; exact F.blt x h3, d1, d3⟩
/-- a def called -/
theorem call_rule (C : CtxOk P w K mg base G O k c X W CL) (F : PgF P w K mg base G c.gl O k) {f : Nat} {x : Str} {l : List Expr} {fs : Loc → M (List D)} {p pos : Pos} (hf : c.gl.funs.lookup f = some x) (hg : Gl X x) (hn : (x == ("__debug__" : Str)) = false) (hp : l.all plainArg = true)
    (ha : PA X l (LAs X.K G CL W fs)) (h0 : l = [] → fs = fun _ => Sim.ok []) : PE X (.Call (.Name x p) l [] pos) (LE X.K G CL W fun L => bd (fs L) fun ds => O.call f ds) := by
  obtain ⟨a, fd, ps, h1, h2, h3, hlen, h4⟩ := F.fns f x hf
  obtain ⟨rfl, rfl, rfl, rfl, rfl⟩ : X.prog = P ∧ X.w = w ∧ X.K = K ∧ X.mg = mg ∧ X.base = base := ⟨C.prog, C.w, C.K, C.mg, C.base⟩
  refine ⟨fun pins s σ H Q I h => ?_⟩
  have h : LAs X.K G CL W fs σ H fun vs H1 => SpC X.K G ps.length (O.call f) vs H1 Q (WE W σ) := (LG.as h).imp fun vs H1 ⟨μ1, S1, ds, R1, rs, h1⟩ => by
    obtain ⟨r, S', e, h1⟩ := h1
    refine ⟨by rw [← rs.length]; exact hlen ds S1 _ e, μ1, S1, ds, R1, rs, r, S', e, ?_⟩
    cases r with
    | val d => exact h1
    | exc x => exact h1
  refine wpAny_Call_Name_kw (ld_glob I hg h1 ?_ hn)
  have run : ∀ {us : List Value} {s1 : Shared} {vs : List V} {H1 : Hp}, Inv X pins σ H1 s1 → Vals vs us → SpC X.K G ps.length (O.call f) vs H1 Q (WE W σ) → wpAny (model X.prog X.w) X.A (call (.ref a) us) (EP X pins σ Q) X.xe s1 := fun {us s1 vs H1} I1 r q =>
    run_fnS (E := WE W) h4 C.room h3 (L2N.passAt C.takes σ) I1 r q
  cases l with
  | nil =>
    have e0 := h0 rfl
    subst e0
    obtain ⟨μ, L, S, R, RL, hh⟩ := h
    exact PySem.W.callWith_K0 I.kIn h2 (run (us := []) I .nil (hh.ok R .nil))
  | cons e es =>
    rw [List.all_cons, Bool.and_eq_true] at hp
    exact PySem.W.callWith_K (h₀ := X.base) I.ok.mod.kin h2 (thn (ha.run pos pins s σ H _ I h) fun us s1 ⟨vs, H1, I1, r, q⟩ => ⟨I1.kIn, run I1 r q⟩) (star_cons hp.1 _ _) (star_any pos hp.2)
/-! ### lengths; stores do not raise -/
theorem evEs_len {O : Orc} : ∀ (es : Es) {c : CC} {l : List Expr}, chkEs c es l = true → ∀ {L : Loc} {S S' : Store} {ds : List D}, evEs O es L S = some (.val ds, S') → ds.length = l.length
  | .nil, c, l, h, L, S, S', ds, e => by
    unfold chkEs at h
    split at h
    · cases e; rfl
    · cases h
  | .cons x r, c, l, h, L, S, S', ds, e => by
    unfold chkEs at h
    split at h
    · rw [Bool.and_eq_true] at h
      have e : bd (evE O x L) (fun d => bd (evEs O r L) fun ds => Sim.ok (d :: ds)) S = some (.val ds, S') := e
      obtain ⟨d, S1, _, e1⟩ := bd_some e
      obtain ⟨ds', S2, e2, e3⟩ := bd_some e1
      cases e3
      rw [List.length_cons, List.length_cons, evEs_len r h.2 e2]
    · cases h
  | .lam _ _, c, l, h, L, S, S', ds, e => by cases h
  | .pass _ _, c, l, h, L, S, S', ds, e => by cases h
mutual
theorem asg_val {O : Orc} : ∀ (tg : Tg), TgOk (asg O tg)
  | .name i, d, L, S, r, S', h => by
    have h : (if i < L.length then Sim.ok (L.set i (some d)) else stk) S = some (r, S') := h
    by_cases hi : i < L.length
    · rw [if_pos hi] at h; cases h; exact ⟨_, rfl⟩
    · rw [if_neg hi] at h; cases h
  | .tup ts, d, L, S, r, S', h => by
    cases d with
    | tup l => exact asgs_val ts l L S r S' h
    | _ => cases h
  | .sub o i, d, L, S, r, S', h => by
    obtain ⟨a, rfl, _⟩ := noX_some (show noX _ S = some (r, S') from h)
    exact ⟨a, rfl⟩
theorem asgs_val {O : Orc} : ∀ (ts : Tgs) (l : List D) (L : Loc) (S : Store) (r : Ex Loc) (S' : Store), asgs O ts l L S = some (r, S') → ∃ L', r = .val L'
  | .nil, l, L, S, r, S', h => by
    have h : (if l.isEmpty then Sim.ok L else stk) S = some (r, S') := h
    split at h
    · cases h; exact ⟨_, rfl⟩
    · cases h
  | .cons t ts, l, L, S, r, S', h => by
    cases l with
    | nil => cases h
    | cons d l =>
      have h : bd (asg O t d L) (fun L1 => asgs O ts l L1) S = some (r, S') := h
      unfold bd at h
      cases q : asg O t d L S with
      | none => rw [q] at h; cases h
      | some p =>
        obtain ⟨r1, S1⟩ := p
        obtain ⟨L1, rfl⟩ := asg_val t d L S r1 S1 q
        rw [q] at h
        exact asgs_val ts l L1 S1 r S' h
end
theorem asgs_len {O : Orc} : ∀ (ts : Tgs) {c : CC} {vs : List Nat} {es : List Expr}, chkTgs c vs ts es = true → ∀ (l : List D) (L : Loc) (S : Store) (r : Ex Loc × Store), asgs O ts l L S = some r → l.length = es.length
  | .nil, c, vs, es, h, l, L, S, r, e => by
    unfold chkTgs at h
    split at h
    · cases l with
      | nil => rfl
      | cons _ _ => cases e
    · cases h
  | .cons t ts, c, vs, es, h, l, L, S, r, e => by
    unfold chkTgs at h
    split at h
    · rw [Bool.and_eq_true] at h
      cases l with
      | nil => cases e
      | cons d l =>
        have e : bd (asg O t d L) (fun L1 => asgs O ts l L1) S = some r := e
        unfold bd at e
        cases q : asg O t d L S with
        | none => rw [q] at e; cases e
        | some p =>
          obtain ⟨r1, S1⟩ := p
          rw [q] at e
          obtain ⟨L1, rfl⟩ := asg_val t d L S r1 S1 q
          rw [List.length_cons, List.length_cons, asgs_len ts h.2 l L1 S1 r e]
    · cases h
theorem chkTgs_all : ∀ (ts : Tgs) {c : CC} {vs : List Nat} {es : List Expr}, chkTgs c vs ts es = true → es.all plainArg = true
  | .nil, c, vs, es, h => by
    unfold chkTgs at h
    split at h
    · rfl
    · cases h
  | .cons t ts, c, vs, es, h => by
    unfold chkTgs at h
    split at h
    · rw [Bool.and_eq_true, Bool.and_eq_true] at h
      rw [List.all_cons, h.1.1, chkTgs_all ts h.2]; rfl
    · cases h
theorem copOf_inj : ∀ {a b : COp}, copOf a = copOf b → a = b := by
  intro a b h
  cases a <;> cases b <;> first | rfl | cases h
theorem ownN_map {N : List Str} {own : List Nat} (h : (ownN N own).map (·.2) = own) : (ownN N own).map (·.2) = own := h
/-- if b then true else false -/
theorem tru_if (x : D) : (bd (tru x) fun b => if b = true then Sim.ok true else Sim.ok false) = tru x := by
  funext S
  unfold bd
  cases q : tru x S with
  | none => rfl
  | some p =>
    obtain ⟨r, S'⟩ := p
    obtain ⟨b, rfl, _, rfl⟩ := tru_val q
    cases b <;> rfl
theorem boot_bi : (bootBuiltins "len" = some (.builtin "len")) ∧ (bootBuiltins "int" = some (.type "int")) ∧ (bootBuiltins "abs" = some (.builtin "abs")) ∧ (bootBuiltins "max" = some (.builtin "max")) ∧ (bootBuiltins "min" = some (.builtin "min")) ∧
    (bootBuiltins "sum" = some (.builtin "sum")) ∧ (bootBuiltins "tuple" = some (.type "tuple")) ∧ (bootBuiltins "list" = some (.type "list")) ∧ (bootBuiltins "isinstance" = some (.builtin "isinstance")) ∧ (bootBuiltins "bool" = some (.type "bool")) ∧ (bootBuiltins "str" = some (.type "str")) := by
  decide +kernel
end
end Sim
set_option Elab.async false
set_option linter.all false
set_option autoImplicit false
set_option maxRecDepth 100000
/-! Sim1o: the check of expressions is sound. -/
namespace Sim
open PySem PySem.Spec PyProof.Rows L2
section
variable {P : Program} {w : World} {K : PySem.W.Frag} {mg : Str → Option Value} {base : Heap} {G : Wd} {O : Orc} {k : Nat}
theorem bi_sound {c : CC} {X : Cx} {W : WX} {CL : CLT} (C : CtxOk P w K mg base G O k c X W CL) (F : PgF P w K mg base G c.gl O k) {f : Bi} {n : String} {ty : Bool} {e : Expr} {es : List Expr} {fs : Loc → M (List D)} {p pos : Pos} (hs : biS f = some (n, ty)) (hb : bltB c (n : Str) = true)
    (hp : (e :: es).all plainArg = true) (ha : PA X (e :: es) (LAs X.K G CL W fs)) : PE X (.Call (.Name (n : Str) p) (e :: es) [] pos) (LE X.K G CL W fun L => bd (fs L) fun ds => biD f ds) := by
  obtain ⟨b1, b2, b3, b4, b5, b6, b7, b8, b9, b10, b11⟩ := boot_bi
  obtain ⟨q1, q2, q3, q4⟩ := C.bl F hb
  cases f <;> first | (cases hs; done) | skip
  all_goals cases hs
  · exact sim_bi cr_len q1 q2 b1 q4 q3 hp ha
  · exact sim_ty cr_int q1 q2 b2 q4 q3 hp ha
  · exact sim_bi cr_abs q1 q2 b3 q4 q3 hp ha
  · exact sim_bi (cr_min2 C.calm) q1 q2 b5 q4 q3 hp ha
  · exact sim_bi (cr_max2 C.calm) q1 q2 b4 q4 q3 hp ha
  · exact sim_bi (cr_sumD C.calm) q1 q2 b6 q4 q3 hp ha
  · exact sim_bi (cr_allD C.calm) q1 q2 (by decide +kernel) q4 q3 hp ha
  · exact sim_bi (cr_anyD C.calm) q1 q2 (by decide +kernel) q4 q3 hp ha
  · exact sim_ty cr_tuple q1 q2 b7 q4 q3 hp ha
  · exact sim_ty cr_list q1 q2 b8 q4 q3 hp ha
  · exact sim_bi (cr_sortedD C.calm) q1 q2 (by decide +kernel) q4 q3 hp ha
theorem me_sound {X : Cx} {W : WX} {CL : CLT} (hu : X.A.units + 1 < cLine) {m : Me} {n : String} {o e : Expr} {es : List Expr} {fa : Loc → M D} {fs : Loc → M (List D)} {apos pos : Pos} (hs : meS m = some n) (ho : plainOwner o = true) (hp : (e :: es).all plainArg = true) (hl : (e :: es).length < 30) (hline : (apos.endLine == pos.line) = true)
    (hoe : PE X o (LE X.K G CL W fa)) (ha : PA X (e :: es) (LAs X.K G CL W fs)) : PE X (.Call (.Attribute o (n : Str) apos) (e :: es) [] pos) (LE X.K G CL W fun L => bd (fa L) fun x => bd (mTy m x) fun _ => bd (fs L) fun ds => methD m x ds) := by
  cases m <;> first | (cases hs; done) | skip
  all_goals cases hs
  · exact sim_meth F.plainAttrs_list F.slot_list_append F.type_list_append mt_append' ho hp hl hline hoe ha
  · exact sim_meth F.plainAttrs_list F.slot_list_extend F.type_list_extend mt_extend' ho hp hl hline hoe ha
  · exact sim_meth F.plainAttrs_list F.slot_list_insert F.type_list_insert mt_insert' ho hp hl hline hoe ha
  · exact sim_meth F.plainAttrs_str F.slot_str_join F.type_str_join mt_join' ho hp hl hline hoe ha
  · exact sim_meth F.plainAttrs_dict F.slot_dict_get F.type_dict_get (mt_get2' hu) ho hp hl hline hoe ha
def chkCall (c : CC) (f : Nat) (es : Es) (a : Expr) : Bool := match a with
    | .Call (.Name x _) l [] _ => decide (c.gl.funs.lookup f = some x) && glB c.sc x && okN x && l.all plainArg && chkEs c es l
    | _ => false
mutual
theorem sndE : ∀ (e : E) {t : Bool} {c : CC} {X : Cx} {W : WX} {CL : CLT} {a : Expr}, CtxOk P w K mg base G O k c X W CL → PgF P w K mg base G c.gl O k → chkE t c e a = true → PEt t X a G CL W (evE O e)
  | .var i, t, c, X, W, CL, a, C, F, h => by
    unfold chkE at h
    split at h
    · rw [Bool.and_eq_true, Bool.and_eq_true, decide_eq_true_eq] at h
      obtain ⟨⟨h1, h2⟩, h3⟩ := h
      obtain ⟨d1, d2, d3⟩ := okN_dbg h3
      exact PEt.of rfl (sim_var (by rw [C.N]; exact h1) (by rw [C.sc]; exact visB_vis h2) d1 d2)
    · cases h
  | .int i, t, c, X, W, CL, a, C, F, h => by
    unfold chkE at h
    split at h
    · rw [decide_eq_true_eq] at h
      subst h
      exact PEt.of rfl (sim_const pe_int fun _ _ => .int _)
    · cases h
  | .bl b, t, c, X, W, CL, a, C, F, h => by
    unfold chkE at h
    split at h
    · rw [beq_iff_eq] at h
      subst h
      exact PEt.of rfl (sim_const pe_bl fun _ _ => .bl _)
    · cases h
  | .non, t, c, X, W, CL, a, C, F, h => by
    unfold chkE at h
    split at h
    · exact PEt.of rfl (sim_const pe_non fun _ _ => .non)
    · cases h
  | .str x, t, c, X, W, CL, a, C, F, h => by
    unfold chkE at h
    split at h
    · rw [decide_eq_true_eq] at h
      subst h
      exact PEt.of rfl (sim_const pe_str fun _ _ => .str _)
    · cases h
  | .glob x v, t, c, X, W, CL, a, C, F, h => by
    unfold chkE at h
    split at h
    · rename_i y pos
      rw [Bool.and_eq_true, Bool.and_eq_true, Bool.and_eq_true, decide_eq_true_eq] at h
      obtain ⟨⟨⟨h1, h2⟩, h3⟩, h4⟩ := h
      subst h1
      split at h4
      · rename_i d hd
        have e := beqD_eq h4
        subst e
        obtain ⟨u, z, q1, q2, q3⟩ := F.glob x _ hd
        have q3' : ∀ μ H, Rep X.K CLF μ H d z := fun μ H => by rw [C.K]; exact q3 μ H
        exact PEt.of rfl (sim_const (pe_glob (glB_gl C.sc h2) (by rw [C.mg]; exact q1) q2 (okN_dbg h3).1) q3')
      · cases h4
    · cases h
  | .tup es, t, c, X, W, CL, a, C, F, h => by
    unfold chkE at h
    split at h
    · rw [Bool.and_eq_true, decide_eq_true_eq] at h
      exact PEt.of rfl (sim_tup (fun L S ds S' e => by rw [evEs_len es h.2 e]; have := h.1; unfold LIM; omega) (sndEs es C F h.2).1)
    · cases h
  | .lst es, t, c, X, W, CL, a, C, F, h => by
    unfold chkE at h
    split at h
    · rw [Bool.and_eq_true, decide_eq_true_eq] at h
      exact PEt.of rfl (sim_lst (fun L S ds S' e => by rw [evEs_len es h.2 e]; have := h.1; unfold LIM; omega) (sndEs es C F h.2).1)
    · cases h
  | .dct0, t, c, X, W, CL, a, C, F, h => by
    unfold chkE at h
    split at h
    · exact PEt.of rfl sim_dct0
    · cases h
  | .un op x, t, c, X, W, CL, a, C, F, h => by
    unfold chkE at h
    split at h
    · rw [Bool.and_eq_true, decide_eq_true_eq] at h
      obtain ⟨rfl, h2⟩ := h
      exact PEt.of rfl (sim_neg (sndE x C F h2).val)
    · cases h
  | .bin op x y, t, c, X, W, CL, a, C, F, h => by
    unfold chkE at h
    split at h
    · rw [Bool.and_eq_true, Bool.and_eq_true, decide_eq_true_eq] at h
      exact PEt.of rfl (sim_bin h.1.1 (sndE x C F h.1.2).val (sndE y C F h.2).val)
    · cases h
  | .cmp op x y, t, c, X, W, CL, a, C, F, h => by
    unfold chkE at h
    split at h
    · rw [Bool.and_eq_true, Bool.and_eq_true, Bool.and_eq_true, decide_eq_true_eq, Bool.not_eq_true'] at h
      obtain ⟨⟨⟨rfl, h2⟩, h3⟩, h4⟩ := h
      cases t with
      | false => exact sim_cmp C.room.units h2 (sndE x C F h3).val (sndE y C F h4).val
      | true => exact sim_ptcmp C.room.units h2 (sndE x C F h3).val (sndE y C F h4).val
    · cases h
  | .cmp2 o1 o2 x y z, t, c, X, W, CL, a, C, F, h => by
    unfold chkE at h
    split at h
    · simp only [Bool.and_eq_true, decide_eq_true_eq, Bool.not_eq_true'] at h
      obtain ⟨⟨⟨⟨⟨h2, h3⟩, h4⟩, h5⟩, h6⟩, h7⟩ := h
      subst h2 h3
      cases t with
      | false => exact sim_chain C.room.units h4 (sndE x C F h5).val (sndE y C F h6).val (sndE z C F h7).val
      | true => exact sim_ptchain C.room.units h4 (sndE x C F h5).val (sndE y C F h6).val (sndE z C F h7).val
    · cases h
  | .and es, t, c, X, W, CL, a, C, F, h => by
    unfold chkE at h
    split at h
    · rename_i l pos
      cases t with
      | false => exact ((sndB es C F h).1 rfl pos).1
      | true => exact ((sndB es C F h).2 rfl pos).1.pt
    · cases h
  | .or es, t, c, X, W, CL, a, C, F, h => by
    unfold chkE at h
    split at h
    · rename_i l pos
      cases t with
      | false => exact ((sndB es C F h).1 rfl pos).2
      | true => exact ((sndB es C F h).2 rfl pos).2.pt
    · cases h
  | .not x, t, c, X, W, CL, a, C, F, h => by
    unfold chkE at h
    split at h
    · cases t with
      | false => exact sim_not (sndE x C F h).val
      | true => exact pt_notS (sndE x C F h).tst
    · cases h
  | .ite x y z, t, c, X, W, CL, a, C, F, h => by
    unfold chkE at h
    split at h
    · simp only [Bool.and_eq_true, Bool.not_eq_true'] at h
      obtain ⟨⟨⟨h1, h2⟩, h3⟩, h4⟩ := h
      subst h1
      have := sim_ite (pos := by assumption) (sndE x C F h2).tst (sndE y C F h3).val (sndE z C F h4).val
      refine PE.imp this fun σ H Q q => ?_
      obtain ⟨μ, L, S, R, RL, q⟩ := q
      refine ⟨μ, L, S, R, RL, ?_⟩
      have e : evE O (.ite x y z) L = bd (bd (evE O x L) tru) fun t => if t = true then evE O y L else evE O z L := by
        rw [bd_assoc]; rfl
      rw [e] at q
      exact q
    · cases h
  | .call f es, t, c, X, W, CL, a, C, F, h => by
    have plain : (∀ i r, es ≠ .lam i r) → (∀ i r, es ≠ .pass i r) → PEt t X a G CL W (evE O (.call f es)) := fun n1 n2 => by
      have h' : chkCall c f es a = true := by
        cases es with
        | lam i r => exact (n1 i r rfl).elim
        | pass i r => exact (n2 i r rfl).elim
        | nil => exact h
        | cons _ _ => exact h
      unfold chkCall at h'
      split at h'
      · rename_i x p l pos
        simp only [Bool.and_eq_true, decide_eq_true_eq] at h'
        obtain ⟨⟨⟨⟨h1, h2⟩, h3⟩, h4⟩, h5⟩ := h'
        exact PEt.of rfl (call_rule C F h1 (glB_gl C.sc h2) (okN_dbg h3).1 h4 (sndEs es C F h5).1 (sndEs es C F h5).2)
      · cases h'
    cases es with
    | nil => exact plain (fun _ _ z => by cases z) (fun _ _ z => by cases z)
    | cons _ _ => exact plain (fun _ _ z => by cases z) (fun _ _ z => by cases z)
    | lam i r =>
      unfold chkE at h
      split at h
      · simp only [Bool.and_eq_true, decide_eq_true_eq, Bool.not_eq_true'] at h
        obtain ⟨⟨⟨⟨⟨⟨h0, h1⟩, h2⟩, h3⟩, h4⟩, h5⟩, h6⟩ := h
        exact PEt.of rfl (C.lam h0 _ _ _ _ _ _ _ _ _ _ _ h1 (glB_gl C.sc h2) h3 h4 h5 (sndEs r C F h6).1)
      · cases h
    | pass i r =>
      unfold chkE at h
      split at h
      · simp only [Bool.and_eq_true, decide_eq_true_eq, Bool.not_eq_true'] at h
        obtain ⟨⟨⟨⟨⟨⟨⟨⟨⟨h0, h00⟩, h1⟩, h2⟩, h3⟩, h4⟩, h5⟩, h6⟩, h7⟩, h8⟩ := h
        exact PEt.of rfl (C.pass h0 _ _ _ _ _ _ _ _ _ h1 (glB_gl C.sc h2) h3 (by rw [C.N]; exact h4) (by rw [C.sc]; exact visB_vis h5) h6 h7 (sndEs r C F h8).1)
      · cases h
  | .bi f es, t, c, X, W, CL, a, C, F, h => by
    unfold chkE at h
    split at h
    · simp only [Bool.and_eq_true] at h
      obtain ⟨⟨⟨h1, h2⟩, h3⟩, h4⟩ := h
      split at h1
      · rename_i n ty hs
        rw [decide_eq_true_eq] at h1
        subst h1
        exact PEt.of rfl (bi_sound C F hs h2 (by rw [List.all_cons, Bool.and_eq_true] at *; exact h3) (sndEs es C F h4).1)
      · cases h1
    · cases h
  | .isi x ty, t, c, X, W, CL, a, C, F, h => by
    unfold chkE at h
    split at h
    · simp only [Bool.and_eq_true, decide_eq_true_eq] at h
      obtain ⟨⟨⟨⟨⟨h1, h2⟩, h3⟩, h4⟩, h5⟩, h6⟩ := h
      subst h1
      obtain ⟨b1, b2, b3, b4, b5, b6, b7, b8, b9, b10, b11⟩ := boot_bi
      obtain ⟨q1, q2, q3, q4⟩ := C.bl F h3
      obtain ⟨p1, p2, p3, p4⟩ := C.bl F h4
      exact PEt.of rfl (sim_isi h2 q1 q2 p1 p2 (by rw [h2]; cases ty <;> first | exact b2 | exact b7 | exact b8 | exact b10 | exact b11) b9 p4 p3 h5 (sndE x C F h6).val)
    · cases h
  | .meth m o es, t, c, X, W, CL, a, C, F, h => by
    unfold chkE at h
    split at h
    · simp only [Bool.and_eq_true, decide_eq_true_eq] at h
      obtain ⟨⟨⟨⟨⟨⟨h1, h2⟩, h3⟩, h4⟩, h5⟩, h6⟩, h7⟩ := h
      split at h1
      · rename_i n hs
        rw [decide_eq_true_eq] at h1
        subst h1
        exact PEt.of rfl (me_sound (by have := C.room.units; omega) hs h2 (by rw [List.all_cons, Bool.and_eq_true] at *; exact h5) h4 h3 (sndE o C F h6).val (sndEs es C F h7).1)
      · cases h1
    · cases h
  | .sub x i, t, c, X, W, CL, a, C, F, h => by
    unfold chkE at h
    split at h
    · simp only [Bool.and_eq_true] at h
      exact PEt.of rfl (sim_sub (by have := C.room.units; omega) (plainIx_of h.1.1) (sndE x C F h.1.2).val (sndE i C F h.2).val)
    · cases h
  | .rev x, t, c, X, W, CL, a, C, F, h => by
    unfold chkE at h
    split at h
    · exact PEt.of rfl (sim_rev (sndE x C F h).val)
    · cases h
  | .slU x y, t, c, X, W, CL, a, C, F, h => by
    unfold chkE at h
    split at h
    · rw [Bool.and_eq_true] at h
      exact PEt.of rfl (sim_slU (sndE x C F h.1).val (sndE y C F h.2).val)
    · cases h
  | .slL x y, t, c, X, W, CL, a, C, F, h => by
    unfold chkE at h
    split at h
    · rw [Bool.and_eq_true] at h
      exact PEt.of rfl (sim_slL (sndE x C F h.1).val (sndE y C F h.2).val)
    · cases h
  | .slB x y z, t, c, X, W, CL, a, C, F, h => by
    unfold chkE at h
    split at h
    · rw [Bool.and_eq_true, Bool.and_eq_true] at h
      exact PEt.of rfl (sim_slB (sndE x C F h.1.1).val (sndE y C F h.1.2).val (sndE z C F h.2).val)
    · cases h
  | .lrg1 x, t, c, X, W, CL, a, C, F, h => by
    unfold chkE at h
    split at h
    · simp only [Bool.and_eq_true, decide_eq_true_eq] at h
      obtain ⟨⟨⟨⟨⟨h1, h2⟩, h3⟩, h4⟩, h5⟩, h6⟩ := h
      subst h1 h2
      obtain ⟨q1, q2, q3, q4⟩ := C.bl F h3
      obtain ⟨p1, p2, p3, p4⟩ := C.bl F h4
      exact PEt.of rfl (sim_lrg1 C.calm q1 q2 p1 p2 h5 (sndE x C F h6).val)
    · cases h
  | .lrg2 x y, t, c, X, W, CL, a, C, F, h => by
    unfold chkE at h
    split at h
    · simp only [Bool.and_eq_true, decide_eq_true_eq] at h
      obtain ⟨⟨⟨⟨⟨⟨⟨h1, h2⟩, h3⟩, h4⟩, h5⟩, h6⟩, h7⟩, h8⟩ := h
      subst h1 h2
      obtain ⟨q1, q2, q3, q4⟩ := C.bl F h3
      obtain ⟨p1, p2, p3, p4⟩ := C.bl F h4
      exact PEt.of rfl (sim_lrg2 C.calm q1 q2 p1 p2 h5 h6 (sndE x C F h7).val (sndE y C F h8).val)
    · cases h
  | .trg1 x, t, c, X, W, CL, a, C, F, h => by
    unfold chkE at h
    split at h
    · simp only [Bool.and_eq_true, decide_eq_true_eq] at h
      obtain ⟨⟨⟨⟨⟨h1, h2⟩, h3⟩, h4⟩, h5⟩, h6⟩ := h
      subst h1 h2
      obtain ⟨q1, q2, q3, q4⟩ := C.bl F h3
      obtain ⟨p1, p2, p3, p4⟩ := C.bl F h4
      exact PEt.of rfl (sim_trg1 C.calm q1 q2 p1 p2 h5 (sndE x C F h6).val)
    · cases h
  | .trg2 x y, t, c, X, W, CL, a, C, F, h => by
    unfold chkE at h
    split at h
    · simp only [Bool.and_eq_true, decide_eq_true_eq] at h
      obtain ⟨⟨⟨⟨⟨⟨⟨h1, h2⟩, h3⟩, h4⟩, h5⟩, h6⟩, h7⟩, h8⟩ := h
      subst h1 h2
      obtain ⟨q1, q2, q3, q4⟩ := C.bl F h3
      obtain ⟨p1, p2, p3, p4⟩ := C.bl F h4
      exact PEt.of rfl (sim_trg2 C.calm q1 q2 p1 p2 h5 h6 (sndE x C F h7).val (sndE y C F h8).val)
    · cases h
  | .comp own elt tg it ifs, t, c, X, W, CL, a, C, F, h => by
    unfold chkE at h
    split at h
    · rename_i e0 tg0 i0 l0 scope pos
      simp only [Bool.and_eq_true, decide_eq_true_eq, Bool.not_eq_true'] at h
      obtain ⟨⟨⟨⟨⟨⟨⟨h0, h1⟩, h2⟩, h3⟩, h4⟩, h5⟩, h6⟩, h7⟩ := h
      have ok : BlkOk X.N X.env.scope scope (ownN c.N own) := by rw [C.N, C.sc]; exact blkB_ok h2
      refine PEt.of rfl (PE.imp (pe_lc (wi := LI X.K G CL W (evIt O it)) (g := gT X.K G CL ((ownN c.N own).map (·.2)) (asg O tg)) (tt := LT' X.K G CL (fun _ _ _ _ => False) (evIfs O ifs)) (te := LE X.K G CL (fun _ _ _ _ => False) (evE O elt)) C.calm C.nd (sndIt it C F h4) ok
        (fun s H A cl fp => by
          have := sndTg tg (C.inBlk scope s H A cl fp) (F.inBlk scope) h5
          rw [h1]
          exact this)
        (fun s H A cl fp => sndIf ifs (C.inBlk scope s H A cl fp) (F.inBlk scope) h6) (fun s H A cl fp => (sndE elt (C.inBlk scope s H A cl fp) (F.inBlk scope) h7).val) (notSet_fold h3 _)) fun σ H Q q => ?_)
      have := sim_comp (W0 := fun _ _ _ _ => False) (felt := evE O elt) (fifs := evIfs O ifs) (ftg := asg O tg) (elt := e0) (ifs := l0) C.calm C.nd (sndIt it C F h4) ok
        (fun s H A cl fp => by
          have := sndTg tg (C.inBlk scope s H A cl fp) (F.inBlk scope) h5
          rw [h1]
          exact this)
        (fun s H A cl fp => sndIf ifs (C.inBlk scope s H A cl fp) (F.inBlk scope) h6) (fun s H A cl fp => (sndE elt (C.inBlk scope s H A cl fp) (F.inBlk scope) h7).val) (notSet_fold h3 _) σ H Q
      rw [h1] at this
      rw [h1]
      exact this q
    · cases h
  | .compD own elt tg k j ifs, t, c, X, W, CL, a, C, F, h => by
    unfold chkE at h
    split at h
    · rename_i e0 tg0 x p0 nm apos cpos l0 scope pos
      simp only [Bool.and_eq_true, decide_eq_true_eq, Bool.not_eq_true', Bool.or_eq_true] at h
      obtain ⟨⟨⟨⟨⟨⟨⟨h0, h1⟩, h2⟩, ⟨⟨n1, n2⟩, n3⟩⟩, ⟨⟨w1, w2⟩, w3⟩⟩, h5⟩, h6⟩, h7⟩ := h
      subst w1
      have ok : BlkOk X.N X.env.scope scope (ownN c.N own) := by rw [C.N, C.sc]; exact blkB_ok h2
      obtain ⟨d1, d2, d3⟩ := okN_dbg n3
      have ht : k = true → ∃ el kk tp, tg0 = .Tuple el kk tp := fun hk => by
        rcases w3 with w3 | w3
        · rw [hk] at w3; cases w3
        · cases tg0 <;> first | exact ⟨_, _, _, rfl⟩ | cases w3
      have := sim_compD (W := W) (W0 := fun _ _ _ _ => False) (felt := evE O elt) (fifs := evIfs O ifs) (ftg := asg O tg) (elt := e0) (ifs := l0) (pos := pos) (own := ownN c.N own) C.calm C.nd ht (sim_var (pos := p0) (i := j) (by rw [C.N]; exact n1) (by rw [C.sc]; exact visB_vis n2) d1 d2) ok
        (fun s H A cl fp => by
          have := sndTg tg (C.inBlk scope s H A cl fp) (F.inBlk scope) h5
          rw [h1]
          exact this)
        (fun s H A cl fp => sndIf ifs (C.inBlk scope s H A cl fp) (F.inBlk scope) h6) (fun s H A cl fp => (sndE elt (C.inBlk scope s H A cl fp) (F.inBlk scope) h7).val) (owner_base rfl _ _ _) w2 (notSet_fold rfl _)
      rw [h1] at this
      exact PEt.of rfl this
    · cases h
  | .dct es, t, c, X, W, CL, a, C, F, h => by
    unfold chkE at h
    split at h
    · rename_i ks vs pos
      simp only [Bool.and_eq_true, decide_eq_true_eq, Bool.not_eq_true'] at h
      obtain ⟨⟨h0, h15⟩, h1⟩ := h
      obtain ⟨p1, p2, p3⟩ := sndPs es pos C F h1
      exact PEt.of rfl (sim_dct (by have := C.room.units; omega) p1 p2 p3 (fun z => by rw [z] at h0; cases h0) h15)
    · cases h
theorem sndPs : ∀ (es : Es) (pos : Pos) {c : CC} {X : Cx} {W : WX} {CL : CLT} {ks : List (Option Expr)} {vs : List Expr}, CtxOk P w K mg base G O k c X W CL → PgF P w K mg base G c.gl O k → chkPs c es ks vs = true → PrS X G CL W pos ks vs (evEs O es) ∧ ks.all (·.isSome) = true ∧ ks.length = vs.length
  | .nil, pos, c, X, W, CL, ks, vs, C, F, h => by
    unfold chkPs at h
    rw [Bool.and_eq_true] at h
    obtain rfl := List.isEmpty_iff.1 h.1
    obtain rfl := List.isEmpty_iff.1 h.2
    exact ⟨prs_nil, rfl, rfl⟩
  | .cons k (.cons v r), pos, c, X, W, CL, ks, vs, C, F, h => by
    unfold chkPs at h
    split at h
    · rw [Bool.and_eq_true, Bool.and_eq_true] at h
      obtain ⟨p1, p2, p3⟩ := sndPs r pos C F h.2
      exact ⟨prs_cons (sndE k C F h.1.1).val (sndE v C F h.1.2).val p1, by rw [List.all_cons, p2]; rfl, by rw [List.length_cons, List.length_cons, p3]⟩
    · cases h
  | .cons _ .nil, pos, c, X, W, CL, ks, vs, C, F, h => by unfold chkPs at h; cases h
  | .cons _ (.lam _ _), pos, c, X, W, CL, ks, vs, C, F, h => by unfold chkPs at h; cases h
  | .cons _ (.pass _ _), pos, c, X, W, CL, ks, vs, C, F, h => by unfold chkPs at h; cases h
  | .lam _ _, pos, c, X, W, CL, ks, vs, C, F, h => by unfold chkPs at h; cases h
  | .pass _ _, pos, c, X, W, CL, ks, vs, C, F, h => by unfold chkPs at h; cases h
theorem sndEs : ∀ (es : Es) {c : CC} {X : Cx} {W : WX} {CL : CLT} {l : List Expr}, CtxOk P w K mg base G O k c X W CL → PgF P w K mg base G c.gl O k → chkEs c es l = true → PA X l (LAs X.K G CL W (evEs O es)) ∧ (l = [] → evEs O es = fun _ => Sim.ok [])
  | .nil, c, X, W, CL, l, C, F, h => by
    unfold chkEs at h
    split at h
    · exact ⟨sim_nil, fun _ => rfl⟩
    · cases h
  | .cons e r, c, X, W, CL, l, C, F, h => by
    unfold chkEs at h
    split at h
    · rw [Bool.and_eq_true, Bool.and_eq_true] at h
      exact ⟨sim_cons h.1.1 (sndE e C F h.1.2).val (sndEs r C F h.2).1, fun z => by cases z⟩
    · cases h
  | .lam _ _, c, X, W, CL, l, C, F, h => by cases h
  | .pass _ _, c, X, W, CL, l, C, F, h => by cases h
theorem sndB : ∀ (es : Es) {t : Bool} {c : CC} {X : Cx} {W : WX} {CL : CLT} {l : List Expr}, CtxOk P w K mg base G O k c X W CL → PgF P w K mg base G c.gl O k → chkB t c es l = true →
    (t = false → ∀ pos, PE X (.BoolOp .And l pos) (LE X.K G CL W (evAnd O es)) ∧ PE X (.BoolOp .Or l pos) (LE X.K G CL W (evOr O es))) ∧
    (t = true → ∀ pos, PW X (.BoolOp .And l pos) (LT' X.K G CL W fun L => bd (evAnd O es L) tru) ∧ PW X (.BoolOp .Or l pos) (LT' X.K G CL W fun L => bd (evOr O es L) tru))
  | .nil, t, c, X, W, CL, l, C, F, h => by cases h
  | .lam _ _, t, c, X, W, CL, l, C, F, h => by cases h
  | .pass _ _, t, c, X, W, CL, l, C, F, h => by cases h
  | .cons e r, t, c, X, W, CL, l, C, F, h => by
    cases r with
    | nil =>
      unfold chkB at h
      split at h
      · refine ⟨fun z pos => ?_, fun z pos => ?_⟩
        · subst z
          exact ⟨pe_one (sndE e C F h).val, pe_one (sndE e C F h).val⟩
        · subst z
          exact ⟨pw_and1 (sndE e C F h).tst, pw_or1 (sndE e C F h).tst⟩
      · cases h
    | cons e2 r2 =>
      unfold chkB at h
      split at h
      · rw [Bool.and_eq_true] at h
        have ih := sndB (.cons e2 r2) C F h.2
        refine ⟨fun z pos => ?_, fun z pos => ?_⟩
        · subst z
          exact ⟨sim_and (sndE e C F h.1).val (ih.1 rfl pos).1, sim_or (sndE e C F h.1).val (ih.1 rfl pos).2⟩
        · subst z
          exact ⟨pw_andS (sndE e C F h.1).tst (ih.2 rfl pos).1, pw_orS (sndE e C F h.1).tst (ih.2 rfl pos).2⟩
      · cases h
    | lam i r2 =>
      unfold chkB at h
      split at h
      · rw [Bool.and_eq_true] at h
        cases h.2
      · cases h
    | pass i r2 =>
      unfold chkB at h
      split at h
      · rw [Bool.and_eq_true] at h
        cases h.2
      · cases h
theorem sndIf : ∀ (es : Es) {c : CC} {X : Cx} {W : WX} {CL : CLT} {l : List Expr}, CtxOk P w K mg base G O k c X W CL → PgF P w K mg base G c.gl O k → chkIf c es l = true → PTs X l (LT' X.K G CL W (evIfs O es))
  | .nil, c, X, W, CL, l, C, F, h => by
    unfold chkIf at h
    split at h
    · exact ⟨fun pins s σ H Q I hw => pts_nil.run pins s σ H Q I (by
        obtain ⟨μ, L, S, R, RL, q⟩ := hw
        exact LA.ok (a := true) q R rfl)⟩
    · cases h
  | .cons e r, c, X, W, CL, l, C, F, h => by
    cases r with
    | nil =>
      unfold chkIf at h
      split at h
      · refine pts_one (PT.imp (sndE e C F h).tst fun σ H Q q => ?_)
        obtain ⟨μ, L, S, R, RL, q⟩ := q
        refine ⟨μ, L, S, R, RL, ?_⟩
        have e1 : evIfs O (.cons e .nil) L = bd (evE O e L) tru := by
          show (bd (evE O e L) fun x => bd (tru x) fun b => if b = true then Sim.ok true else Sim.ok false) = _
          congr 1
          funext x
          exact tru_if x
        rw [e1] at q
        exact q
      · cases h
    | cons _ _ => cases h
    | lam _ _ => cases h
    | pass _ _ => cases h
  | .lam _ _, c, X, W, CL, l, C, F, h => by cases h
  | .pass _ _, c, X, W, CL, l, C, F, h => by cases h
theorem sndIt : ∀ (it : It) {c : CC} {X : Cx} {W : WX} {CL : CLT} {tg i : Expr}, CtxOk P w K mg base G O k c X W CL → PgF P w K mg base G c.gl O k → chkIt c it tg i = true → PI X tg i (LI X.K G CL W (evIt O it))
  | .seq e, c, X, W, CL, tg, i, C, F, h => sim_seq (sndE e C F h).val
  | .rg1 x, c, X, W, CL, tg, i, C, F, h => by
    unfold chkIt at h
    split at h
    · simp only [Bool.and_eq_true, decide_eq_true_eq] at h
      obtain ⟨⟨⟨h1, h2⟩, h3⟩, h4⟩ := h
      subst h1
      obtain ⟨q1, q2, q3, q4⟩ := C.bl F h2
      exact sim_rg1 q1 q2 h3 (sndE x C F h4).val
    · cases h
  | .rg2 x y, c, X, W, CL, tg, i, C, F, h => by
    unfold chkIt at h
    split at h
    · simp only [Bool.and_eq_true, decide_eq_true_eq] at h
      obtain ⟨⟨⟨⟨⟨h1, h2⟩, h3⟩, h4⟩, h5⟩, h6⟩ := h
      subst h1
      obtain ⟨q1, q2, q3, q4⟩ := C.bl F h2
      exact sim_rg2 q1 q2 h3 h4 (sndE x C F h5).val (sndE y C F h6).val
    · cases h
  | .rg3 x y z, c, X, W, CL, tg, i, C, F, h => by
    unfold chkIt at h
    split at h
    · simp only [Bool.and_eq_true, decide_eq_true_eq] at h
      obtain ⟨⟨⟨⟨⟨⟨⟨h1, h2⟩, h3⟩, h4⟩, h5⟩, h6⟩, h7⟩, h8⟩ := h
      subst h1
      obtain ⟨q1, q2, q3, q4⟩ := C.bl F h2
      exact sim_rg3 q1 q2 h3 h4 h5 (sndE x C F h6).val (sndE y C F h7).val (sndE z C F h8).val
    · cases h
  | .enum x, c, X, W, CL, tg, i, C, F, h => by
    unfold chkIt at h
    split at h
    · simp only [Bool.and_eq_true, decide_eq_true_eq] at h
      obtain ⟨⟨⟨h1, h2⟩, h3⟩, h4⟩ := h
      subst h1
      obtain ⟨q1, q2, q3, q4⟩ := C.bl F h2
      exact sim_enum q1 q2 h3 (sndE x C F h4).val
    · cases h
  | .items _, c, X, W, CL, tg, i, C, F, h => by cases h
  | .values _, c, X, W, CL, tg, i, C, F, h => by cases h
theorem sndTg : ∀ (tg : Tg) {vs : List Nat} {c : CC} {X : Cx} {W : WX} {CL : CLT} {a : Expr}, CtxOk P w K mg base G O k c X W CL → PgF P w K mg base G c.gl O k → chkTg c vs tg a = true → PG X a (gT X.K G CL vs (asg O tg))
  | .name i, vs, c, X, W, CL, a, C, F, h => by
    unfold chkTg at h
    split at h
    · simp only [Bool.and_eq_true, decide_eq_true_eq] at h
      obtain ⟨⟨h1, h2⟩, h3⟩ := h
      have h3' := h3
      unfold locB at h3
      split at h3
      · rename_i e
        exact sim_gname (List.contains_iff_mem.mp h1) C.nd (by rw [C.N]; exact h2) (.inl (by rw [C.sc]; exact e)) (.inr (by rw [C.sc]; exact e))
      · rename_i e
        exact sim_gname (List.contains_iff_mem.mp h1) C.nd (by rw [C.N]; exact h2) (.inr (by rw [C.sc]; exact e)) (.inl (C.fn _ h3))
      · cases h3
    · cases h
  | .tup ts, vs, c, X, W, CL, a, C, F, h => by
    unfold chkTg at h
    split at h
    · rw [Bool.and_eq_true] at h
      exact sim_gtup C.calm h.1 (fun l L S r e => asgs_len ts h.2 l L S r e) (sndTgs ts C F h.2)
    · cases h
  | .sub o i, vs, c, X, W, CL, a, C, F, h => by
    unfold chkTg at h
    split at h
    · simp only [Bool.and_eq_true] at h
      exact sim_gsub (W := W) (by have := C.room.units; omega) (plainIx_of h.1.1) (sub_assign h.1.1) (sndE o C F h.1.2).val (sndE i C F h.2).val
    · cases h
theorem sndTgs : ∀ (ts : Tgs) {vs : List Nat} {c : CC} {X : Cx} {W : WX} {CL : CLT} {l : List Expr}, CtxOk P w K mg base G O k c X W CL → PgF P w K mg base G c.gl O k → chkTgs c vs ts l = true → PGs X l (gTs X.K G CL vs (asgs O ts))
  | .nil, vs, c, X, W, CL, l, C, F, h => by
    unfold chkTgs at h
    split at h
    · exact sim_gnil
    · cases h
  | .cons t r, vs, c, X, W, CL, l, C, F, h => by
    unfold chkTgs at h
    split at h
    · rw [Bool.and_eq_true, Bool.and_eq_true] at h
      exact sim_gcons h.1.1 (sndTg t C F h.1.2) (sndTgs r C F h.2)
    · cases h
end
end
end Sim
set_option Elab.async false
set_option linter.all false
set_option autoImplicit false
set_option maxRecDepth 100000
/-! Sim1p: the check of statements, sound. -/
namespace Sim
open PySem PySem.Spec PyProof.Rows L2
/-- the names that a pair's store swaps: some none: none are -/
def swB (sc : Scope) (ts vs : List Expr) : Option (Option (List Str)) :=
  if !(ts.length == 2 || ts.length == 3) || vs.length != ts.length then some none
  else if vs.any fun | .Starred .. => true | _ => false then some none
  else
    let line := (ts.head?.map (·.pos.line)).getD 0
    let names := ts.filterMap fun
      | .Name id pos => if sc.names.lookup id == some .local && pos.line == line then some id else none
      | _ => none
    if names.length != ts.length || names.eraseDups.length != names.length then some none
    else if vs.all (foldedForSure 8) then some none
    else if vs.all (constantsAlone 8) then none
    else some (some names)
theorem swB_eq {ts vs : List Expr} {k k2 : Nat} {p p2 : Pos} {env : Env} {r : Option (List Str)} (hk : env.blockKind = .function) (h : swB env.scope ts vs = some r) : swappedStores [.Tuple ts k p] (.Tuple vs k2 p2) env = pure r := by
  unfold swB at h
  unfold swappedStores
  dsimp only
  by_cases h1 : (!(ts.length == 2 || ts.length == 3) || vs.length != ts.length) = true
  · rw [if_pos h1] at h
    cases h
    rw [if_pos (by rw [h1]; rfl)]
  · rw [if_neg h1] at h
    rw [if_neg (by rw [hk]; simpa using h1)]
    dsimp only at h ⊢
    by_cases h2 : (vs.any fun | .Starred .. => true | _ => false) = true
    · have h := (if_pos h2).symm.trans h
      cases h
      exact if_pos h2
    · have h := (if_neg h2).symm.trans h
      refine (if_neg h2).trans ?_
      dsimp only [Env.kindOf] at h ⊢
      split at h
      · rename_i h3
        cases h
        exact if_pos h3
      · rename_i h3
        refine (if_neg h3).trans ?_
        split at h
        · rename_i h4
          cases h
          exact if_pos h4
        · rename_i h4
          refine (if_neg h4).trans ?_
          split at h
          · cases h
          · rename_i h5
            refine (if_neg h5).trans ?_
            cases h
            rfl
theorem sw_none {t v : Expr} (h : match t, v with | .Tuple .., .Tuple .. => False | .List .., .Tuple .. => False | _, _ => True) (env : Env) : swappedStores [t] v env = pure none := by
  cases t <;> first | rfl | (cases v <;> first | rfl | exact h.elim)
def isLoc (c : CC) (x : Str) : Bool := decide (c.sc.names.lookup x = some .local)
def chkPar2 (c : CC) (tg : Tg) (e : E) (ts vs : List Expr) (x' y' : Str) : Bool := match tg, e, ts, vs with
  | .tup (.cons (.name i) (.cons (.name j) .nil)), .tup es, [.Name x _, .Name y _], [a, b] => decide (x = x') && decide (y = y') && decide (i ≠ j) && decide (c.N[i]? = some x) && decide (c.N[j]? = some y) && isLoc c x && isLoc c y && chkEs c es [a, b]
  | _, _, _, _ => false
def chkPar3 (c : CC) (tg : Tg) (e : E) (ts vs : List Expr) (x' y' z' : Str) : Bool := match tg, e, ts, vs with
  | .tup (.cons (.name i) (.cons (.name j) (.cons (.name l) .nil))), .tup es, [.Name x _, .Name y _, .Name z _], [a, b, d] => decide (x = x') && decide (y = y') && decide (z = z') && decide (i ≠ j) && decide (i ≠ l) && decide (j ≠ l) && decide (c.N[i]? = some x) && decide (c.N[j]? = some y) && decide (c.N[l]? = some z) && isLoc c x && isLoc c y && isLoc c z && chkEs c es [a, b, d]
  | _, _, _, _ => false
/-- name = [..] whose store is swapped -/
def swC (c : CC) (x : Str) (px : Pos) (sc : Scope) (vp : Pos) : Bool := c.sc.names.lookup x == some .local && px.line == vp.line && !(sc.names.any fun (n, k) => n == x && (k == .local || k == .cell))
def chkLc (c : CC) (tg : Tg) (e : E) (x : Str) (v : Expr) : Bool := match tg, e with
  | .name i, .comp _ _ _ _ _ => decide (c.N[i]? = some x) && isLoc c x && chkE false c e v
  | _, _ => false
def chkAsg (c : CC) (tg : Tg) (e : E) (t v : Expr) : Bool := match t with
  | .Tuple ts _ _ => (match v with
    | .Tuple vs _ _ => (match swB c.sc ts vs with
      | some none => chkTg c (List.range c.N.length) tg t && chkE false c e v
      | some (some [x, y]) => chkPar2 c tg e ts vs x y
      | some (some [x, y, z]) => chkPar3 c tg e ts vs x y z
      | _ => false)
    | _ => chkTg c (List.range c.N.length) tg t && chkE false c e v)
  | .Name x px => (match v with
    | .ListComp _ [⟨_, _, _, 0⟩] sc vp => if swC c x px sc vp then chkLc c tg e x v else chkTg c (List.range c.N.length) tg t && chkE false c e v
    | _ => noComp v && chkTg c (List.range c.N.length) tg t && chkE false c e v)
  | .Subscript _ _ _ => noComp v && chkTg c (List.range c.N.length) tg t && chkE false c e v
  | _ => false
mutual
def chkS : CC → S → Stmt → Bool
  | c, .asg tg e, s => match s with
    | .Assign [t] v _ => chkAsg c tg e t v
    | _ => false
  | _, .aug _ _ _, _ => false
  | _, .augS _ _ _ _, _ => false
  | c, .expr e, s => match s with
    | .Expr a _ => noComp a && chkE false c e a
    | _ => false
  | c, .ret e, s => match s with
    | .Return (some a) _ => chkE false c e a
    | _ => false
  | _, .ret0, s => match s with
    | .Return none _ => true
    | _ => false
  | c, .ite x a b, s => match s with
    | .If k p q _ => chkE true c x k && chkSs c a p && chkSs c b q
    | _ => false
  | c, .for tg it b, s => match s with
    | .For t i p [] _ => notSet i && chkTg c (List.range c.N.length) tg t && chkIt c it t i && chkSs c b p
    | _ => false
  | c, .forD tg k j b, s => match s with
    | .For t (.Call (.Attribute (.Name x _) nm apos) [] [] cpos) p [] _ => (decide (c.N[j]? = some x) && visB c.sc x && okN x) && (decide (nm = dWord k) && (apos.endLine == cpos.line) && (!k || isTup t)) && chkTg c (List.range c.N.length) tg t && chkSs c b p
    | _ => false
  | c, .whl x b, s => match s with
    | .While k p [] _ => chkE true c x k && chkSs c b p
    | _ => false
  | _, .brk, s => match s with
    | .Break _ => true
    | _ => false
  | _, .cont, s => match s with
    | .Continue _ => true
    | _ => false
  | _, .pass, s => match s with
    | .Pass _ => true
    | _ => false
  | c, .raise k e, s => match s with
    | .Raise (some (.Call (.Name x _) [a] [] _)) none _ => decide (c.gl.clss.lookup x = some k) && glB c.sc x && okN x && plainArg a && chkE false c e a
    | _ => false
  | _, .tryB _ _ _, _ => false
  | _, .tryW _ _, _ => false
  | _, .heard _ _ _ _, _ => false
def chkSs : CC → Ss → List Stmt → Bool
  | _, .nil, l => match l with
    | [] => true
    | _ :: _ => false
  | c, .cons s r, l => match l with
    | a :: l => chkS c s a && chkSs c r l
    | [] => false
end
/-- BadX(e), made to be raised -/
def RaiseRule (G : Wd) (c : CC) (X : Cx) (W : WX) (CL : CLT) : Prop := ∀ (x : Str) (k : Nat) (p pos : Pos) (a : Expr) (fa : Loc → M D), c.gl.clss.lookup x = some k → Gl X x → okN x = true → plainArg a = true → PE X a (LE X.K G CL W fa) →
  L2N.PMk X (.Call (.Name x p) [a] [] pos) fun σ H Q => LE X.K G CL W fa σ H fun v H1 => ∀ dx fs, H1 dx = none → fs.lookup ("what" : Str) = some v → Q (.ref (G.cls k)) (some dx) (upd H1 dx (.xd fs))
structure StOk (P : Program) (w : World) (K : PySem.W.Frag) (mg : Str → Option Value) (base : Heap) (G : Wd) (O : Orc) (k : Nat) (c : CC) (X : Cx) (W : WX) (CL : CLT) : Prop extends CtxOk P w K mg base G O k c X W CL where
  kind : c.sc.kind = .function
  own : PassesOwn (model X.prog X.w) X.A X.env X.xe
  raise : RaiseRule G c X W CL
section
variable {X : Cx} {G : Wd} {CL : CLT} {W : WX} {e : Expr} {fe : Loc → M D} {pos : Pos}
theorem sim_raise {k : Nat} (hc : X.calm = true) (tk : L2N.Takes X W) (hm : L2N.PMk X e fun σ H Q => LE X.K G CL W fe σ H fun v H1 => ∀ dx fs, H1 dx = none → fs.lookup ("what" : Str) = some v → Q (.ref (G.cls k)) (some dx) (upd H1 dx (.xd fs))) :
    PS X (.Raise (some e) none pos) (LS X.K G CL W fun L S => ex (fe L) L S fun d S1 => some (.exc ⟨k, d⟩, L, S1)) :=
  PS.imp (L2N.ps_raise hc tk hm) fun D σ H h => (LS.ex (RR := rrD X.K CLF) h).imp fun v H1 ⟨μ1, S1, L, d, R1, RL1, rd, h1⟩ dx fs hn hl => by
    obtain ⟨o, L', S', e, h2⟩ := h1
    cases e
    have st : Step μ1 H1 μ1 (upd H1 dx (.xd fs)) := Step.new hn
    exact h2 μ1 _ dx σ st (R1.new hn) (RL1.step st) ⟨fs, v, upd_same, hl, rd.step st⟩
end
theorem asg_par2 {O : Orc} {i j : Nat} (d : D) (L : Loc) : asg O (.tup (.cons (.name i) (.cons (.name j) .nil))) d L = parL [i, j] d L := by
  cases d with
  | tup l =>
    show asgs O (.cons (.name i) (.cons (.name j) .nil)) l L = putsL [i, j] l L
    cases l with
    | nil => rfl
    | cons a l =>
      show bd (if i < L.length then Sim.ok (L.set i (some a)) else stk) (fun L1 => asgs O (.cons (.name j) .nil) l L1) = if i < L.length then putsL [j] l (L.set i (some a)) else stk
      by_cases hi : i < L.length
      · rw [if_pos hi, if_pos hi]
        show asgs O (.cons (.name j) .nil) l (L.set i (some a)) = putsL [j] l (L.set i (some a))
        generalize L.set i (some a) = L1
        cases l with
        | nil => rfl
        | cons b l =>
          show bd (if j < L1.length then Sim.ok (L1.set j (some b)) else stk) (fun L2 => asgs O .nil l L2) = if j < L1.length then putsL [] l (L1.set j (some b)) else stk
          by_cases hj : j < L1.length
          · rw [if_pos hj, if_pos hj]
            cases l <;> rfl
          · rw [if_neg hj, if_neg hj]; rfl
      · rw [if_neg hi, if_neg hi]; rfl
  | _ => rfl
theorem asg_par3 {O : Orc} {i j k : Nat} (d : D) (L : Loc) : asg O (.tup (.cons (.name i) (.cons (.name j) (.cons (.name k) .nil)))) d L = parL [i, j, k] d L := by
  cases d with
  | tup l =>
    show asgs O (.cons (.name i) (.cons (.name j) (.cons (.name k) .nil))) l L = putsL [i, j, k] l L
    cases l with
    | nil => rfl
    | cons a l =>
      show bd (if i < L.length then Sim.ok (L.set i (some a)) else stk) (fun L1 => asgs O (.cons (.name j) (.cons (.name k) .nil)) l L1) = if i < L.length then putsL [j, k] l (L.set i (some a)) else stk
      by_cases hi : i < L.length
      · rw [if_pos hi, if_pos hi]
        exact asg_par2 (O := O) (i := j) (j := k) (.tup l) (L.set i (some a))
      · rw [if_neg hi, if_neg hi]; rfl
  | _ => rfl
section
variable {P : Program} {w : World} {K : PySem.W.Frag} {mg : Str → Option Value} {base : Heap} {G : Wd} {O : Orc} {k : Nat} {Wf : Nat}
theorem blockK {c : CC} {X : Cx} {W : WX} {CL : CLT} (C : StOk P w K mg base G O k c X W CL) : X.env.blockKind = .function := by
  unfold Env.blockKind
  rw [C.sc, C.kind]
  rfl
theorem sole (t v : Expr) (n : Nat) (env : Env) : swapsWithSole [t] v n env = swapsWith v (some t) n env := rfl
theorem sndAsg {c : CC} {X : Cx} {W : WX} {CL : CLT} {tg : Tg} {e : E} {t v : Expr} {pos : Pos} (C : StOk P w K mg base G O k c X W CL) (F : PgF P w K mg base G c.gl O k) (h : chkAsg c tg e t v = true) :
    PS X (.Assign [t] v pos) (LS X.K G CL W fun L S => ex (evE O e L) L S fun d S1 => ex (asg O tg d L) L S1 fun L1 S2 => some (.nx, L1, S2)) := by
  have gen : plainArg t = true → (chkTg c (List.range c.N.length) tg t && chkE false c e v) = true → swapsWithSole [t] v pos.line X.env = pure false → swappedStores [t] v X.env = pure none →
      PS X (.Assign [t] v pos) (LS X.K G CL W fun L S => ex (evE O e L) L S fun d S1 => ex (asg O tg d L) L S1 fun L1 S2 => some (.nx, L1, S2)) := fun hp h hs hw => by
    rw [Bool.and_eq_true] at h
    exact sim_asg (asg_val tg) hp (sndE e C.toCtxOk F h.2).val (sndTg tg C.toCtxOk F h.1) hs hw
  unfold chkAsg at h
  split at h
  · -- a tuple of targets
    rename_i ts kt pt
    split at h
    · rename_i vs kv pv
      split at h
      · rename_i hsw
        exact gen rfl h rfl (swB_eq (blockK C) (by rw [C.sc]; exact hsw))
      · rename_i x' y' hsw
        have hw := swB_eq (k := kt) (k2 := kv) (p := pt) (p2 := pv) (blockK C) (by rw [C.sc]; exact hsw)
        unfold chkPar2 at h
        split at h
        · rename_i i j es x px y py a b
          simp only [Bool.and_eq_true, decide_eq_true_eq, isLoc] at h
          obtain ⟨⟨⟨⟨⟨⟨⟨h1, h2⟩, h3⟩, h4⟩, h5⟩, h6⟩, h7⟩, h8⟩ := h
          subst h1 h2
          have := sim_par (pos := pos) C.calm C.nd (by rw [C.N]; exact h4) (by rw [C.N]; exact h5) h3 (by rw [C.sc]; exact h6) (by rw [C.sc]; exact h7) (sndEs es C.toCtxOk F h8).1 hw (fun L S ds S' e => evEs_len es h8 e)
          refine PS.imp this fun En σ H q => ?_
          obtain ⟨μ, L, S, R, RL, q⟩ := q
          refine ⟨μ, L, S, R, RL, ?_⟩
          dsimp only at q
          rw [show (fun (d : D) (S1 : Store) => ex (asg O (.tup (.cons (.name i) (.cons (.name j) .nil))) d L) L S1 fun L1 S2 => some (.nx, L1, S2)) = fun d S1 => ex (parL [i, j] d L) L S1 fun L1 S2 => some (.nx, L1, S2) from funext fun d => by rw [asg_par2]] at q
          exact q
        · cases h
      · rename_i x' y' z' hsw
        have hw := swB_eq (k := kt) (k2 := kv) (p := pt) (p2 := pv) (blockK C) (by rw [C.sc]; exact hsw)
        unfold chkPar3 at h
        split at h
        · rename_i i j l es x px y py z pz a b d
          simp only [Bool.and_eq_true, decide_eq_true_eq, isLoc] at h
          obtain ⟨⟨⟨⟨⟨⟨⟨⟨⟨⟨⟨⟨h1, h2⟩, h3⟩, h4⟩, h5⟩, h6⟩, h7⟩, h8⟩, h9⟩, h10⟩, h11⟩, h12⟩, h13⟩ := h
          subst h1 h2 h3
          have := sim_par3 (pos := pos) C.calm C.nd (by rw [C.N]; exact h7) (by rw [C.N]; exact h8) (by rw [C.N]; exact h9) h4 h5 h6 (by rw [C.sc]; exact h10) (by rw [C.sc]; exact h11) (by rw [C.sc]; exact h12) (sndEs es C.toCtxOk F h13).1 hw (fun L S ds S' e => evEs_len es h13 e)
          refine PS.imp this fun En σ H q => ?_
          obtain ⟨μ, L, S, R, RL, q⟩ := q
          refine ⟨μ, L, S, R, RL, ?_⟩
          dsimp only at q
          rw [show (fun (d : D) (S1 : Store) => ex (asg O (.tup (.cons (.name i) (.cons (.name j) (.cons (.name l) .nil)))) d L) L S1 fun L1 S2 => some (.nx, L1, S2)) = fun d S1 => ex (parL [i, j, l] d L) L S1 fun L1 S2 => some (.nx, L1, S2) from funext fun d => by rw [asg_par3]] at q
          exact q
        · cases h
      · cases h
    · rename_i hv
      exact gen rfl h (by cases v <;> first | rfl) (sw_none (by cases v <;> first | trivial | exact (hv _ _ _ rfl).elim) _)
  · rename_i x px
    split at h
    · rename_i e0 t0 i0 l0 sc vp
      have hsw : swapsWith (.ListComp e0 [⟨t0, i0, l0, 0⟩] sc vp) (some (.Name x px)) pos.line X.env = pure (swC c x px sc vp) := by
        show pure (X.env.blockKind == .function && X.env.kindOf x == some .local && px.line == vp.line && !(sc.names.any fun (n, k) => n == x && (k == .local || k == .cell))) = _
        rw [blockK C]
        unfold swC Env.kindOf
        rw [C.sc]
        rfl
      split at h
      · rename_i hs
        rw [hs] at hsw
        unfold chkLc at h
        split at h
        · rename_i i own elt tg1 it ifs
          rw [Bool.and_eq_true, Bool.and_eq_true, decide_eq_true_eq] at h
          obtain ⟨⟨h1, h2⟩, h⟩ := h
          have h2 := of_decide_eq_true h2
          unfold chkE at h
          simp only [Bool.and_eq_true, decide_eq_true_eq, Bool.not_eq_true'] at h
          obtain ⟨⟨⟨⟨⟨⟨⟨g0, g1⟩, g2⟩, g3⟩, g4⟩, g5⟩, g6⟩, g7⟩ := h
          have ok : BlkOk X.N X.env.scope sc (ownN c.N own) := by rw [C.N, C.sc]; exact blkB_ok g2
          have hg : ∀ (s : Shared) (H : Hp) (A : Addr) (cl : List (Str × Addr)) (fp : List Addr), PG (X.blk s H sc (compEnvC sc cl A X.env) fp) t0 (gT X.K G CL ((ownN c.N own).map (·.2)) (asg O tg1)) := fun s H A cl fp => by
            rw [g1]
            exact sndTg tg1 (C.toCtxOk.inBlk sc s H A cl fp) (F.inBlk sc) g5
          refine PS.imp (ps_setLc (wi := LI X.K G CL W (evIt O it)) (g := gT X.K G CL ((ownN c.N own).map (·.2)) (asg O tg1)) (tt := LT' X.K G CL (fun _ _ _ _ => False) (evIfs O ifs)) (te := LE X.K G CL (fun _ _ _ _ => False) (evE O elt)) C.calm C.nd (by rw [C.N]; exact h1) (by rw [C.sc]; exact h2) hsw (sndIt it C.toCtxOk F g4) ok hg
            (fun s H A cl fp => sndIf ifs (C.toCtxOk.inBlk sc s H A cl fp) (F.inBlk sc) g6) (fun s H A cl fp => (sndE elt (C.toCtxOk.inBlk sc s H A cl fp) (F.inBlk sc) g7).val) (notSet_fold g3 _)) fun D σ H q => ?_
          have key := asg_ends (vs := List.range c.N.length) (fe := evE O (.comp own elt tg1 it ifs)) (asg_val (.name i)) (t := LE X.K G CL W (evE O (.comp own elt tg1 it ifs))) (fun _ q => q) q
          have := sim_comp (W0 := fun _ _ _ _ => False) (felt := evE O elt) (fifs := evIfs O ifs) (ftg := asg O tg1) (elt := e0) (ifs := l0) C.calm C.nd (sndIt it C.toCtxOk F g4) ok hg
            (fun s H A cl fp => sndIf ifs (C.toCtxOk.inBlk sc s H A cl fp) (F.inBlk sc) g6) (fun s H A cl fp => (sndE elt (C.toCtxOk.inBlk sc s H A cl fp) (F.inBlk sc) g7).val) (notSet_fold g3 _) σ H (fun x H1 => gName i x σ H1 D.nx)
          rw [g1] at this
          rw [g1]
          refine this ?_
          have key : LE X.K G CL W (evE O (.comp own elt tg1 it ifs)) σ H fun x H1 => gT X.K G CL (List.range c.N.length) (asg O (.name i)) x σ H1 D.nx := key
          refine LG.imp key fun x H1 q1 => ?_
          obtain ⟨μ, L, S, d, R, RL, rd, q1⟩ := q1
          by_cases hl : i < L.length
          · have e1 : asg O (.name i) d L = Sim.ok (L.set i (some d)) := if_pos hl
            rw [e1] at q1
            exact q1.here rfl R ⟨RL.set (.val rd), Off.set (by
              rw [List.mem_range]
              have := (List.getElem?_eq_some_iff.mp h1).1
              exact this)⟩
          · have e1 : asg O (.name i) d L = stk := if_neg hl
            rw [e1] at q1
            exact (q1.no rfl).elim
        · cases h
      · rename_i hs
        have hs : swC c x px sc vp = false := by simpa using hs
        rw [hs] at hsw
        exact gen rfl h hsw rfl
    · rw [Bool.and_eq_true, Bool.and_eq_true] at h
      exact gen rfl (by rw [h.1.2, h.2]; rfl) ((sole _ _ _ _).trans (swaps_none h.1.1 _ _ _)) rfl
  · rw [Bool.and_eq_true, Bool.and_eq_true] at h
    exact gen rfl (by rw [h.1.2, h.2]; rfl) ((sole _ _ _ _).trans (swaps_none h.1.1 _ _ _)) rfl
  · cases h
mutual
theorem sndS : ∀ (s : S) {c : CC} {X : Cx} {W : WX} {CL : CLT} {st : Stmt}, StOk P w K mg base G O k c X W CL → PgF P w K mg base G c.gl O k → chkS c s st = true → PS X st (LS X.K G CL W (evS O Wf s))
  | .asg tg e, c, X, W, CL, st, C, F, h => by
    unfold chkS at h
    split at h
    · exact sndAsg C F h
    · cases h
  | .aug _ _ _, c, X, W, CL, st, C, F, h => by cases h
  | .augS _ _ _ _, c, X, W, CL, st, C, F, h => by cases h
  | .expr e, c, X, W, CL, st, C, F, h => by
    unfold chkS at h
    split at h
    · rw [Bool.and_eq_true] at h
      exact sim_expr h.1 (sndE e C.toCtxOk F h.2).val
    · cases h
  | .ret e, c, X, W, CL, st, C, F, h => by
    unfold chkS at h
    split at h
    · exact sim_ret (sndE e C.toCtxOk F h).val
    · cases h
  | .ret0, c, X, W, CL, st, C, F, h => by
    unfold chkS at h
    split at h
    · exact sim_ret0
    · cases h
  | .ite x a b, c, X, W, CL, st, C, F, h => by
    unfold chkS at h
    split at h
    · rw [Bool.and_eq_true, Bool.and_eq_true] at h
      exact sim_if (sndE x C.toCtxOk F h.1.1).tst (sndSs a C F h.1.2) (sndSs b C F h.2)
    · cases h
  | .for tg it b, c, X, W, CL, st, C, F, h => by
    unfold chkS at h
    split at h
    · simp only [Bool.and_eq_true] at h
      obtain ⟨⟨⟨h1, h2⟩, h3⟩, h4⟩ := h
      exact sim_for C.own C.calm (asg_val tg) (sndIt it C.toCtxOk F h3) (sndTg tg C.toCtxOk F h2) (sndSs b C F h4) (notSet_fold h1 _)
    · cases h
  | .forD tg k j b, c, X, W, CL, st, C, F, h => by
    unfold chkS at h
    split at h
    · rename_i tg0 x p0 nm apos cpos p1 pos
      simp only [Bool.and_eq_true, decide_eq_true_eq, Bool.not_eq_true', Bool.or_eq_true] at h
      obtain ⟨⟨⟨⟨⟨n1, n2⟩, n3⟩, ⟨⟨w1, w2⟩, w3⟩⟩, h2⟩, h4⟩ := h
      subst w1
      obtain ⟨d1, d2, d3⟩ := okN_dbg n3
      have ht : k = true → ∃ el kk tp, tg0 = .Tuple el kk tp := fun hk => by
        rcases w3 with w3 | w3
        · rw [hk] at w3; cases w3
        · cases tg0 <;> first | exact ⟨_, _, _, rfl⟩ | cases w3
      exact sim_forD C.own C.calm (asg_val tg) ht (sim_var (pos := p0) (i := j) (by rw [C.N]; exact n1) (by rw [C.sc]; exact visB_vis n2) d1 d2) (sndTg tg C.toCtxOk F h2) (sndSs b C F h4) (owner_base rfl _ _ _) w2 (notSet_fold rfl _)
    · cases h
  | .whl x b, c, X, W, CL, st, C, F, h => by
    unfold chkS at h
    split at h
    · rw [Bool.and_eq_true] at h
      exact sim_while C.own (sndE x C.toCtxOk F h.1).tst (sndSs b C F h.2)
    · cases h
  | .brk, c, X, W, CL, st, C, F, h => by
    unfold chkS at h
    split at h
    · exact sim_brk
    · cases h
  | .cont, c, X, W, CL, st, C, F, h => by
    unfold chkS at h
    split at h
    · exact sim_cont
    · cases h
  | .pass, c, X, W, CL, st, C, F, h => by
    unfold chkS at h
    split at h
    · exact sim_pass
    · cases h
  | .raise n e, c, X, W, CL, st, C, F, h => by
    unfold chkS at h
    split at h
    · simp only [Bool.and_eq_true, decide_eq_true_eq] at h
      obtain ⟨⟨⟨⟨h1, h2⟩, h3⟩, h4⟩, h5⟩ := h
      exact sim_raise C.calm C.takes (C.raise _ _ _ _ _ _ h1 (glB_gl C.sc h2) h3 h4 (sndE e C.toCtxOk F h5).val)
    · cases h
  | .tryB _ _ _, c, X, W, CL, st, C, F, h => by cases h
  | .tryW _ _, c, X, W, CL, st, C, F, h => by cases h
  | .heard _ _ _ _, c, X, W, CL, st, C, F, h => by cases h
theorem sndSs : ∀ (s : Ss) {c : CC} {X : Cx} {W : WX} {CL : CLT} {l : List Stmt}, StOk P w K mg base G O k c X W CL → PgF P w K mg base G c.gl O k → chkSs c s l = true → PSs X l (LS X.K G CL W (evSs O Wf s))
  | .nil, c, X, W, CL, l, C, F, h => by
    unfold chkSs at h
    split at h
    · exact sim_ssnil
    · cases h
  | .cons s r, c, X, W, CL, l, C, F, h => by
    unfold chkSs at h
    split at h
    · rw [Bool.and_eq_true] at h
      exact sim_sscons (sndS s C F h.1) (sndSs r C F h.2)
    · cases h
end
end
end Sim
set_option Elab.async false
set_option linter.all false
set_option autoImplicit false
set_option maxRecDepth 100000
/-! Sim1q: defs keep what the interpreter's call gives. -/
namespace Sim
open PySem PySem.Spec PyProof.Rows L2
def fnScopeB (N ps : List Str) (sc : Scope) : Bool :=
  decide (sc.kind = .function) && !sc.isCoroutine && !sc.isGenerator && decide N.Nodup && decide (N.take ps.length = ps) && ps.all (fun x => match sc.names.lookup x with | some .local | some .cell => true | _ => false) && sc.names.all (fun y => match y.2 with | .free => false | _ => true)
theorem fnScopeB_ok {N ps : List Str} {sc : Scope} (h : fnScopeB N ps sc = true) : FnScope N ps sc := by
  unfold fnScopeB at h
  simp only [Bool.and_eq_true, decide_eq_true_eq, Bool.not_eq_true', List.all_eq_true] at h
  obtain ⟨⟨⟨⟨⟨⟨h1, h2⟩, h3⟩, h4⟩, h5⟩, h6⟩, h7⟩ := h
  refine ⟨h1, h2, h3, h4, h5, fun x hx => ?_, fun y hy e => ?_⟩
  · have := h6 x hx
    split at this
    · exact .inl ‹_›
    · exact .inr ‹_›
    · cases this
  · have := h7 y hy
    rw [e] at this
    cases this
section
variable {P : Program} {w : World} {K : PySem.W.Frag} {mg : Str → Option Value} {base : Heap} {G : Wd} {prg : Nat → Option Fd} {Wf : Nat}
theorem repL_start {CL : CLT} {μ : List Addr} {H : Hp} {N : List Str} {nl : Nat} {ds : List D} {vs : List V} (hN : N.length = nl) (r : Reps K CLF μ H ds vs) : RepL K CL μ H (argsL nl ds) (L2.start N vs) := by
  have hl := r.length
  refine ⟨by unfold argsL L2.start; simp only [List.length_append, List.length_map, List.length_replicate]; rw [hl, hN], fun i d h => ?_⟩
  unfold argsL at h
  unfold L2.start
  by_cases hi : i < ds.length
  · rw [List.getElem?_append_left (by rw [List.length_map]; exact hi), List.getElem?_map] at h
    cases e : ds[i]? with
    | none => rw [e] at h; cases h
    | some x =>
      rw [e] at h
      cases h
      obtain ⟨v, h1, h2⟩ := r.get e
      refine ⟨v, ?_, .val h2⟩
      rw [List.getElem?_append_left (by rw [List.length_map, ← hl]; exact hi), List.getElem?_map, h1]
      rfl
  · rw [List.getElem?_append_right (by rw [List.length_map]; omega), List.getElem?_replicate] at h
    split at h <;> cases h
/-- what raises, in any context of the program -/
def RaiseAll (P : Program) (w : World) (K : PySem.W.Frag) (mg : Str → Option Value) (base : Heap) (G : Wd) (c : CC) : Prop := ∀ (X : Cx) (W : WX) (CL : CLT), X.prog = P → X.w = w → X.K = K → X.mg = mg → X.base = base → X.calm = true → Room 3 X.A → RaiseRule G c X W CL
theorem runDef_out {O : Nat → Orc} {f : Nat} {fd : Fd} {ds : List D} {S S' : Store} {r : Ex D} (hP : prg f = some fd) (h : runDef prg Wf O f ds S = some (r, S')) : ds.length = fd.np ∧ ∃ o L, evSs (O f) Wf fd.body (argsL fd.nl ds) S = some (o, L, S') ∧ match o with
    | .ret d => r = .val d
    | .nx => r = .val .non
    | .exc x => r = .exc x
    | _ => False := by
  unfold runDef at h
  rw [hP] at h
  dsimp only at h
  by_cases hl : ds.length = fd.np
  · rw [if_pos hl] at h
    refine ⟨hl, ?_⟩
    cases q : evSs (O f) Wf fd.body (argsL fd.nl ds) S with
    | none => rw [q] at h; cases h
    | some p =>
      obtain ⟨o, L, S1⟩ := p
      rw [q] at h
      cases o with
      | nx => cases h; exact ⟨.nx, L, rfl, rfl⟩
      | ret d => cases h; exact ⟨.ret d, L, rfl, rfl⟩
      | exc x => cases h; exact ⟨.exc x, L, rfl, rfl⟩
      | bk => cases h
      | ct => cases h
  · rw [if_neg hl] at h
    cases h
theorem def_sound {n f : Nat} {fd : Fd} {a : Addr} {c : CC} {name qual : Str} {params : Arguments} {body : List Stmt} {dV kV doc pm cdv ct oc : Value} {an od : Option Addr} {osl : Array (Option Value)} {ps : List Str} (hP : prg f = some fd)
    (lk : K.lookup a = some ⟨oc, od, .func (PySem.W.fnOf name qual params body c.sc dV kV doc pm an cdv ct), osl⟩) (hcd : PySem.W.codeIn K cdv qual = true) (hS : fnScopeB c.N ps c.sc = true) (hN : c.N.length = fd.nl) (hps : ps.length = fd.np) (hck : chkSs c fd.body body = true)
    (F : PgF P w K mg base G c.gl (orcN prg Wf n f) (n + 3)) (hr : RaiseAll P w K mg base G c)
    (hl : ∀ (A : Around) (outer : List Env) (s : Shared) (H : Hp) (E : XK), Room (n + 3) (A.deeper (envOfC qual c.sc s.heap.objs.size a cdv)) → LamRule G (orcN prg Wf n f) c (cxOf (L2N.CX P w) P w K mg base c.N qual c.sc a cdv A outer s H E) (fun cls d _ H' => E cls d H') CLF ∧ PassRule G (orcN prg Wf n f) c (cxOf (L2N.CX P w) P w K mg base c.N qual c.sc a cdv A outer s H E) (fun cls d _ H' => E cls d H') CLF) :
    FnOk P w K mg base (L2N.CX P w) (n + 4) a (PySem.W.fnOf name qual params body c.sc dV kV doc pm an cdv ct) ps (SpC K G ps.length (callN prg Wf n f)) := by
  have S := fnScopeB_ok hS
  refine fn_of (k := n + 3) lk hcd S (fun vs H Q E h => h.1) fun A outer s H vs Q E hr' hsp => ?_
  have hk := S.kind
  have C : StOk P w K mg base G (orcN prg Wf n f) (n + 3) c (cxOf (L2N.CX P w) P w K mg base c.N qual c.sc a cdv A outer s H E) (fun cls d _ H' => E cls d H') CLF := {
    prog := rfl, w := rfl, K := rfl, mg := rfl, base := rfl, N := rfl, nd := S.nd, sc := rfl, calm := rfl, room := hr', fn := fun _ _ => rfl
    takes := L2N.takes_of rfl rfl rfl rfl
    lam := fun _ => (hl A outer s H E hr').1
    pass := fun _ => (hl A outer s H E hr').2
    kind := hk
    own := passes_of rfl
    raise := hr _ _ _ rfl rfl rfl rfl rfl rfl (hr'.mono (by omega)) }
  refine ⟨_, sndSs (Wf := Wf) fd.body C F hck, ?_⟩
  obtain ⟨_, μ, St, ds, R, rs, r, S', e, h⟩ := hsp
  obtain ⟨hlen, o, L, e1, ho⟩ := runDef_out hP e
  refine ⟨μ, _, St, R, repL_start hN rs, o, L, S', e1, ?_⟩
  cases o with
  | nx => cases ho; exact fun μ' H' σ' s1 R1 _ => h μ' H' .non s1 R1 .non
  | ret d => cases ho; exact h
  | exc x => cases ho; exact fun μ' H' dx σ' s1 R1 _ rx => h μ' H' dx s1 R1 rx
  | bk => exact ho.elim
  | ct => exact ho.elim
end
end Sim
set_option Elab.async false
set_option linter.all false
set_option autoImplicit false
set_option maxRecDepth 100000
/-! Sim1r: the exceptions' __init__ (super().__init__), walked. -/
namespace Sim
open PySem PySem.Spec PyProof.Rows L2
/-- the context of a def whose only free name is __class__ -/
abbrev envI (qual : Str) (scope : Scope) (L f : Addr) (cd : Value) (cc : Addr) : Env := PySem.W.ksEnv qual scope L f cd cc
def cxI (P : Program) (w : World) (K : PySem.W.Frag) (mg : Str → Option Value) (base : Heap) (N : List Str) (qual : Str) (scope : Scope) (f : Addr) (cd : Value) (cc : Addr) (A : Around) (outer : List Env) (s : Shared) (H : Hp) : Cx where
  prog := P
  w := w
  K := K
  mg := mg
  base := base
  A := A.deeper (envI qual scope s.heap.objs.size f cd cc)
  N := N
  s_0 := s
  H_0 := H
  env := envI qual scope s.heap.objs.size f cd cc
  outer := outer
  stack := envI qual scope s.heap.objs.size f cd cc :: outer
  ex := []
  calm := true
  fn := fun _ => false
  pn := []
  xe := fun _ _ => False
theorem lookup1 {x y : Str} {c d : Addr} (h : List.lookup x [(y, c)] = some d) : x = y ∧ d = c := by
  rw [List.lookup_cons] at h
  cases e : x == y with
  | true => rw [e] at h; cases h; exact ⟨by simpa using e, rfl⟩
  | false => rw [e] at h; cases h
section
variable {P : Program} {w : World} {K : PySem.W.Frag} {mg : Str → Option Value} {base : Heap} {N ps : List Str} {qual : Str} {scope : Scope} {f cc : Addr} {cd : Value} {A : Around} {outer : List Env} {s : Shared} {H : Hp}
structure ScI (N : List Str) (scope : Scope) : Prop where
  kind : scope.kind = .function
  co : scope.isCoroutine = false
  gen : scope.isGenerator = false
  nd : N.Nodup
  par : ∀ x ∈ N, scope.names.lookup x = some .local
  nocell : ∀ y ∈ scope.names, y.2 ≠ .cell
  free : ∀ y ∈ scope.names, y.2 = .free → y.1 = "__class__"
theorem zip_lookup : ∀ {N : List Str} {us : List Value} {i : Nat} {x : Str} {u : Value}, N.Nodup → N[i]? = some x → us[i]? = some u → (N.zip us).reverse.lookup x = some u := by
  intro N us i x u nd h1 h2
  have hm : (x, u) ∈ (N.zip us).reverse := by
    rw [List.mem_reverse]
    refine List.mem_of_getElem? (i := i) ?_
    rw [List.getElem?_zip_eq_some]
    exact ⟨h1, h2⟩
  obtain ⟨c', e⟩ := mem_lookup hm
  rw [e]
  have hm2 := PySem.mem_of_lookup e
  rw [List.mem_reverse] at hm2
  obtain ⟨j, hj⟩ := List.getElem?_of_mem hm2
  rw [List.getElem?_zip_eq_some] at hj
  have := nodup_ix nd hj.1 h1
  subst this
  rw [h2] at hj
  rw [hj.2]
theorem inv_startI (S : ScI N scope) (hd : A.handled = none) (e0 : Env0 P w K mg base A outer s H) {us : List Value} {vs : List V} (hl : vs.length = N.length) (r : Vals vs us) {cl : Value} {cld : Option Addr} {D : Addr} {csl : Array (Option Value)} (hcc : K.lookup cc = some ⟨cl, cld, .cell (some (.ref D)), csl⟩)
    {h₀ : Heap} {t' : Nat} (hns : h₀.Ns s.heap.objs.size (fun x => (N.zip us).reverse.lookup x)) (hk : ∀ b o, s.heap.get? b = some o → h₀.get? b = some o) :
    Inv (cxI P w K mg base N qual scope f cd cc A outer s H) [] (vs.map some) H { s with heap := h₀, toks := t' } := by
  have noA : ∀ b : Addr, b ∉ (cxI P w K mg base N qual scope f cd cc A outer s H).ex := fun b z => absurd (show b ∈ ([] : List Addr) from z) (by simp)
  have hcb : base.get? cc = some ⟨cl, cld, .cell (some (.ref D)), csl⟩ := e0.mod.kin _ _ hcc
  have hcs := e0.bs _ _ hcb
  have clt : cc < s.heap.objs.size := Heap.lt_size hcs.1
  refine ⟨⟨e0.mod, S.kind, rfl, rfl, Nat.le_refl _, fun y z c h1 h2 => ?_, fun y hy => ?_, fun y c h _ => (by cases h), fun _ => hd, Around.frames_deeper e0.frames, .inr ⟨rfl, rfl⟩, fun b z => absurd z (noA b), e0.bs, e0.bsz, fun b _ _ => noA b, fun b z => absurd z (noA b), e0.funs, e0.frf⟩,
    rfl, e0.bare, Un.kept hk, ⟨_, hns, fun i y v h1 h2 h3 => ?_⟩, fun y c h => ?_, e0.hok.fresh (Nat.le_refl _), fun y c h => ?_, fun p hp => absurd (show p ∈ ([] : List (Addr × Obj)) from hp) (by simp), e0.hok.kept hk, ?_⟩
  · rw [(lookup1 h1).1, (lookup1 h2).1]
  · have hy : scope.names.lookup y = some .cell ∨ scope.names.lookup y = some .free := hy
    rcases hy with hy | hy
    · exact absurd rfl (S.nocell _ (PySem.mem_of_lookup hy))
    · have e := S.free _ (PySem.mem_of_lookup hy) rfl
      have e : y = "__class__" := e
      subst e
      exact ⟨cc, rfl⟩
  · have h2' : (vs.map some)[i]? = some (some v) := h2
    rw [List.getElem?_map] at h2'
    cases e : vs[i]? with
    | none => rw [e] at h2'; cases h2'
    | some z =>
      rw [e] at h2'
      cases h2'
      obtain ⟨u, hu, rv⟩ := r.get e
      exact ⟨u, rv, .inl ⟨S.par y (List.mem_of_getElem? h1), zip_lookup S.nd h1 hu⟩⟩
  · have := (lookup1 h).2
    subst this
    exact ⟨_, ⟨_, hk _ _ hcs.1, rfl⟩⟩
  · have := (lookup1 h).2
    subst this
    exact hcs.2
  · show (vs.map some).length = N.length
    rw [List.length_map]
    exact hl
end
/-- what the written part and the text say of a def with super() -/
structure SupK (P : Program) (K : PySem.W.Frag) (mg : Str → Option Value) (scope : Scope) (f cda cc D : Addr) : Prop where
  fn : ∃ oc od fd osl ar, K.lookup f = some ⟨oc, od, .func fd, osl⟩ ∧ (fd.params.posonlyargs ++ fd.params.args).head? = some ar ∧ ar.arg = ("self" : Str)
  code : ∃ ccl cdd vs ccs file tf, K.lookup cda = some ⟨ccl, cdd, .fields vs, ccs⟩ ∧ vs[2]? = some (.str file tf) ∧ ((P.main.file : Str) == file) = true
  cell : ∃ cl cld csl, K.lookup cc = some ⟨cl, cld, .cell (some (.ref D)), csl⟩
  cls : ∃ cdD, PySem.W.clsIn K D = some cdD
  sup : mg "super" = none
  top : (P.main.scope.names.lookup ("super" : Str)).isSome = false
  opq : PySem.W.nsIn K cStatics "thirdparty.any" = some none
  gl : scope.names.lookup ("super" : Str) = some .globalImplicit
  fr : scope.names.lookup ("__class__" : Str) = some .free
  self : scope.names.lookup ("self" : Str) = some .local
  kind : scope.kind = .function
theorem boot_super : bootBuiltins "super" = some (.type "super") := by decide +kernel
theorem clsIn_get {K : PySem.W.Frag} {D : Addr} {cd : ClassData} {h : Heap} (X : K.In h) (hD : PySem.W.clsIn K D = some cd) : ∃ oD, h.get? D = some oD ∧ oD.data = .cls cd := by
  unfold PySem.W.clsIn at hD
  split at hD
  · rename_i c d cd' sl ho
    cases hD
    exact ⟨_, X _ _ ho, rfl⟩
  · cases hD
section
variable {X : Cx} {pins : List (Addr × Obj)} {σ : L2.St} {H : Hp} {s : Shared} {a C D f cda cc : Addr} {qual : Str} {scope : Scope} {L : Addr}
/-- super() -/
theorem super_step {Z : SupK X.prog X.K X.mg scope f cda cc D} {body : List Stmt} {p0 p1 : Pos} {whole : Sem Value} {Q : Value → Shared → Prop} (I : Inv X pins σ H s) (he : X.env = envI qual scope L f (.ref cda) cc) (hi : ∃ i : Nat, X.N[i]? = some ("self" : Str) ∧ σ[i]? = some (some (V.ref a)))
    (ha : H a = some (exo a C none)) (hsub : PySem.W.mroIn X.K C (.ref D) = some true)
    (h : ∀ so s', Inv X pins σ H s' → s.heap.objs.size ≤ so → s'.heap.get? so = some (PySem.W.ks_superObj D a C) → Q (.ref so) s') :
    _root_.PySem.wpAt (model X.prog X.w) X.A (.func body X.env) (attributeBase (.Call (.Name "super" p0) [] [] p1) "__init__" X.env whole) Q X.xe s := by
  obtain ⟨oc, od, fd, osl, ar, hf, hp, har⟩ := Z.fn
  obtain ⟨ccl, cdd, vs, ccs, file, tf, hcode, hvs, hfile⟩ := Z.code
  obtain ⟨cl, cld, csl, hcell⟩ := Z.cell
  obtain ⟨cdD, hD⟩ := Z.cls
  obtain ⟨i, hN, hs⟩ := hi
  have KX := I.kIn
  have hk : X.env.scope.kind = .function := I.ok.kind
  have sc : X.env.scope = scope := by rw [he]
  obtain ⟨oD, hD1, hD2⟩ := clsIn_get KX hD
  obtain ⟨m, hn, hl⟩ := I.loc
  obtain ⟨u, ru, lk⟩ := hl i "self" (.ref a) hN hs (.inl (by rw [sc]; exact Z.self))
  obtain rfl : u = Value.ref a := ru
  have hm : m "self" = some (.ref a) := by
    rcases lk with ⟨_, e⟩ | ⟨e, _⟩
    · exact e
    · exfalso
      have e : X.env.scope.names.lookup ("self" : Str) = some .cell ∨ X.env.scope.names.lookup ("self" : Str) = some .free := e
      rw [sc, Z.self] at e
      rcases e with e | e <;> cases e
  obtain ⟨t1, hx⟩ := exo_at I.hok ha
  refine ks_wpAt_super_base (by unfold Env.kindOf; rw [sc]; exact Z.gl) (by unfold Env.kindOf; rw [sc]; exact Z.fr) rfl (by rw [he]) (KX _ _ hf) rfl hp (by rw [he]) (KX _ _ hcode) rfl hvs hfile Z.top ?_
  obtain ⟨mb, b1, b2⟩ := I.mod.blt
  refine PySem.W.ks_loadName_global hk (by unfold Env.kindOf; rw [sc]; exact Z.gl) (Calls.loadGlobal_builtin (by rw [I.ok.glob]; exact I.mod.glob.keeps I.bk) Z.sup (by rw [I.ok.blt]; exact b1.keeps I.bk) ((b2 _ (by decide)).trans boot_super) ⟨rfl, ?_⟩)
  refine wpAny_loadName_free hk (by unfold Env.kindOf; rw [sc]; exact Z.fr) (by rw [he]; rfl) ⟨_, KX _ _ hcell, rfl⟩ ?_
  rw [har]
  refine wpAny_loadName_local hk (by unfold Env.kindOf; rw [sc]; exact Z.self) hn hm ?_
  obtain ⟨hh, g, d, t, os⟩ := s
  refine PySem.ks_wpAny_isType_cls hD1 hD2 ⟨rfl, ?_⟩
  refine PySem.ks_wpAny_call_super hD1 hD2 hx rfl (fun c e => by cases e) (PySem.W.looks_mroIn KX hsub) (fun h' e k => ?_)
  exact h _ _ (I.kept (t' := t) k) (Nat.le_refl _) e
end
/-- what the written part says of an exception's class: below the class at D, super().__init__ is g -/
structure ClsK (K : PySem.W.Frag) (C D : Addr) (g : Value) : Prop where
  oex : OexC K C
  cls : ∃ cd, PySem.W.clsIn K C = some cd
  sub : PySem.W.mroIn K C (.ref D) = some true
  ini : PySem.W.ks_superIn K C D "__init__" = some (some g)
section
variable {X : Cx} {pins : List (Addr × Obj)} {σ : L2.St} {H : Hp} {s : Shared} {a C D f g cda cc u : Addr} {qual : Str} {scope : Scope} {L : Addr} {e : Expr} {es : List Expr} {te : TA} {p0 p1 ap pos : Pos}
theorem exo_inst {C : Addr} (I : Inv X pins σ H s) (ha : H a = some (exo a C none)) : ∃ ox, PySem.W.InstAt s.heap a ox C none := by
  obtain ⟨t1, hx⟩ := exo_at I.hok ha
  exact ⟨_, hx, rfl, rfl, trivial⟩
theorem pin_new {o : Obj} {t' : Nat} (I : Inv X pins σ H s) (ho : ∀ v, o.data ≠ .cell v) (hf : o.isFreed = false) : Inv X (pins ++ [(s.heap.objs.size, o)]) σ H { s with heap := s.heap.push o, toks := t' } := by
  have I1 : Inv X pins σ H { s with heap := s.heap.push o, toks := t' } := I.kept (t' := t') fun b u e => Heap.get?_push_of_some _ e
  refine I1.pins_of fun p hp => ?_
  rcases List.mem_append.mp hp with hp | hp
  · exact I1.pin p (List.mem_append_right _ hp)
  · rw [List.mem_singleton.mp hp]
    exact ⟨Heap.get?_push_size _ hf, I.hok.fresh (Nat.le_refl _), Nat.ne_of_gt I.lt, I.nofs (Nat.le_refl _), ho⟩
/-- ValueError.__init__ of the object, bound, called -/
theorem mw_call {us : List Value} {Q : Value → Shared → Prop} {E : Value → Shared → Prop} {A : Around} (T : OexC X.K C) (I : Inv X pins σ H s) (ea : H a = some (exo a C none)) (hu : s.heap.get? u = some (PySem.W.kxs_mw "ValueError.__init__" a)) (hl : us.length ≤ sizeLine)
    (h : ∀ s', Inv X pins σ H s' → Q .none s') : wpAny (model X.prog X.w) A (call (.ref u) us) Q E s := by
  obtain ⟨nm, q, N, bs, bm, sn, sub, ab, col, dd, k0, k1, k2, k3, k5, hC, hbm⟩ := T.cls
  obtain ⟨t1, ho⟩ := exo_at I.hok ea
  have KX := I.kIn
  obtain ⟨hp, gg, d, t, os⟩ := s
  refine wpAny_call (codeAny_of_tree ?_)
  show wpAny _ A.in1 (callAny (.ref u) ⟨us, []⟩) _ _ _
  simp only [callAny]
  refine wpAny_bind (wpAny_load hu ?_)
  simp only [PySem.W.kxs_mw, show (Value.type "method-wrapper" == Value.type "method" || Value.type "method-wrapper" == Value.type "builtin_function_or_method" || Value.type "method-wrapper" == Value.type "method-wrapper") = true by decide, if_true]
  refine PySem.W.KFB.if_so (by decide) ?_
  refine wpAny_bind (PySem.W.check_bound_init F.excBase_ValueError.toExcCallFacts (KX _ _ hC) ho rfl ?_)
  refine wpAny_bind (wpAny_pure (wpAny_pure ?_))
  refine ⟨plainId_quiet F.excBase_ValueError.init.plain _, codeAny_builtin F.excBase_ValueError.initEntry ?_⟩
  refine PySem.W.exc_init_tree (cls := .ref C) (t0 := t1) (dv := none) (c2 := .none) (c3 := .none) (b4 := .bool false) ho hl fun h' k hx _ => ?_
  have J := I.write (t' := t) (x := a) (e := a) (o := exo a C none) (by rw [ea]; exact True.intro) (.inl rfl) k ⟨_, hx⟩ (exo_ok hx)
  have eu : upd H a (exo a C none) = H := by
    funext b
    by_cases hb : b = a
    · rw [hb, upd_same, ea]
    · rw [upd_ne hb]
  rw [eu] at J
  exact h _ J
/-- super().__init__(e, ..) of an exception whose next __init__ is ValueError's -/
theorem sup_ve {Z : SupK X.prog X.K X.mg scope f cda cc D} {body : List Stmt} {Q : Value → Shared → Prop} (T : ClsK X.K C D (.builtin "ValueError.__init__")) (hB : PySem.W.subIn X.K (.ref C) (.type "ValueError") = some true) (I : Inv X pins σ H s) (he : X.env = envI qual scope L f (.ref cda) cc)
    (hi : ∃ i : Nat, X.N[i]? = some ("self" : Str) ∧ σ[i]? = some (some (V.ref a))) (ha : H a = some (exo a C none)) (hp : (e :: es).all plainArg = true) (hA : PA X (e :: es) te) (ht : te σ H fun vs H1 => H1 = H ∧ vs.length ≤ 1000)
    {pl : Sem Bool} (hev : eval (.Call (.Attribute (.Call (.Name "super" p0) [] [] p1) "__init__" ap) (e :: es) [] pos) X.env = (do
      let ov ← attributeBase (.Call (.Name "super" p0) [] [] p1) "__init__" X.env (eval (.Call (.Name "super" p0) [] [] p1) X.env)
      standAt ap.atName
      let (f, first) ← holding [ov] (getMethod ov "__init__" pl)
      callWith pos f first (backTo pos (starEach (e :: es) X.env)) []))
    (h : ∀ s', Inv X pins σ H s' → Q .none s') :
    _root_.PySem.wpAt (model X.prog X.w) X.A (.func body X.env) (eval (.Call (.Attribute (.Call (.Name "super" p0) [] [] p1) "__init__" ap) (e :: es) [] pos) X.env) Q X.xe s := by
  refine PySem.ks_wpAt_MethodCall (super_step (Z := Z) I he hi ha T.sub fun so s1 I1 hso gso => ?_) hev
  obtain ⟨cd, hc⟩ := T.cls
  obtain ⟨ox, IA⟩ := exo_inst I1 ha
  have KX := I1.kIn
  have hm := T.ini
  unfold PySem.W.ks_superIn at hm
  rw [hc] at hm
  have hI : PySem.W.Looks (model X.prog X.w) s1.heap (isInstance (.ref a) (.type "ValueError")) true := IA.type.andThen (PySem.W.looks_subIn KX hB)
  obtain ⟨hh, g, d, t, os⟩ := s1
  refine PySem.W.kxs_getMethod PySem.W.kxs_ValueError gso (PySem.W.looks_opaque KX Z.opq) (l₀ := cd.mro) (fun A Q E s k q => wpAny_bind ((PySem.W.looks_clsIn KX hc) A _ E s k (wpAny_pure q))) rfl KX hm hI (PySem.W.ks_ne KX IA hc) rfl ?_
  have I2 := pin_new (t' := t + 1) I1 (o := PySem.W.kxs_mw "ValueError.__init__" a) (fun v z => by cases z) rfl
  rw [List.all_cons, Bool.and_eq_true] at hp
  rw [star_cons hp.1]
  refine PySem.W.kxs_callWith (i := "ValueError.__init__") (x := a) (by show (false || (backTo pos (starEach es X.env)).any (·.1)) = false; rw [star_any pos hp.2]; rfl) ?_
  have hA2 := hA.run pos _ _ σ H _ I2 ht
  rw [star_cons hp.1] at hA2
  refine Calls.evalArgs_plain (thn hA2 fun us s3 ⟨vs, H3, I3, r3, e3, hl3⟩ => ?_)
  subst e3
  have hu := (I3.pin (hh.objs.size, PySem.W.kxs_mw "ValueError.__init__" a) (by simp)).1
  refine ⟨hu, mw_call T.oex I3 ha hu ?_ fun s4 I4 => h s4 ?_⟩
  · have := r3.length
    rw [sizeLine_eq]
    show us.length ≤ _
    omega
  · exact I4.pins_of fun p hp => I4.pin p (by
      rcases List.mem_append.mp (show p ∈ X.pn ++ (pins ++ _) from List.mem_append_right _ (List.mem_append_left _ hp)) with z | z
      · exact List.mem_append_left _ z
      · exact List.mem_append_right _ z)
theorem pins_of' {ql : List (Addr × Obj)} (I : Inv X (pins ++ ql) σ H s) : Inv X pins σ H s := I.pins_of fun p hp => I.pin p (by
  rcases List.mem_append.mp (show p ∈ X.pn ++ (pins ++ ql) from List.mem_append_right _ (List.mem_append_left _ hp)) with z | z
  · exact List.mem_append_left _ z
  · exact List.mem_append_right _ z)
/-- super().__init__(e, ..) of an exception whose next __init__ is a def's -/
theorem sup_fn {Z : SupK X.prog X.K X.mg scope f cda cc D} {body : List Stmt} {Q : Value → Shared → Prop} {g : Addr} {k : Nat} {fd : FuncData} {ps : List Str} {sp : Sp} {Qs : VK} (T : ClsK X.K C D (.ref g)) (tg : PySem.W.typeIn X.K (.ref g) = some (.type "function")) (hfn : PySem.W.fnIn X.K g = true)
    (F : FnOk X.prog X.w X.K X.mg X.base (L2N.CX X.prog X.w) k g fd ps sp) (hr : Room k X.A) (hb : Binds X.K fd ps []) (I : Inv X pins σ H s) (he : X.env = envI qual scope L f (.ref cda) cc)
    (hi : ∃ i : Nat, X.N[i]? = some ("self" : Str) ∧ σ[i]? = some (some (V.ref a))) (ha : H a = some (exo a C none)) (hp : (e :: es).all plainArg = true) (hA : PA X (e :: es) te) (ht : te σ H fun vs H1 => sp (.ref a :: vs) H1 Qs fun _ _ _ => False)
    {pl : Sem Bool} (hev : eval (.Call (.Attribute (.Call (.Name "super" p0) [] [] p1) "__init__" ap) (e :: es) [] pos) X.env = (do
      let ov ← attributeBase (.Call (.Name "super" p0) [] [] p1) "__init__" X.env (eval (.Call (.Name "super" p0) [] [] p1) X.env)
      standAt ap.atName
      let (f, first) ← holding [ov] (getMethod ov "__init__" pl)
      callWith pos f first (backTo pos (starEach (e :: es) X.env)) []))
    (h : ∀ v H' u s', Inv X pins σ H' s' → RelV v u → Qs v H' → Q u s') :
    _root_.PySem.wpAt (model X.prog X.w) X.A (.func body X.env) (eval (.Call (.Attribute (.Call (.Name "super" p0) [] [] p1) "__init__" ap) (e :: es) [] pos) X.env) Q X.xe s := by
  refine PySem.ks_wpAt_MethodCall (super_step (Z := Z) I he hi ha T.sub fun so s1 I1 hso gso => ?_) hev
  obtain ⟨cd, hc⟩ := T.cls
  obtain ⟨ox, IA⟩ := exo_inst I1 ha
  have KX := I1.kIn
  have hm := T.ini
  unfold PySem.W.ks_superIn at hm
  rw [hc] at hm
  obtain ⟨hh, gg, d, t, os⟩ := s1
  obtain ⟨of, hof, hofc⟩ : ∃ of, hh.get? g = some of ∧ of.cls = .type "function" := by
    have ht' : (X.K.lookup g).map (·.cls) = some (.type "function") := tg
    cases z : X.K.lookup g with
    | none => rw [z] at ht'; cases ht'
    | some of => rw [z] at ht'; exact ⟨of, KX _ _ z, Option.some.inj ht'⟩
  refine PySem.ks_wpAny_getMethod_super gso (PySem.W.looks_opaque KX Z.opq) (l₀ := cd.mro) (fun A Q E s k q => wpAny_bind ((PySem.W.looks_clsIn KX hc) A _ E s k (wpAny_pure q))) rfl KX hm hof hofc (PySem.W.ks_ne KX IA hc) rfl ?_
  have I2 := pin_new (t' := t + 1) I1 (o := PySem.W.methodObj (.ref g) (.ref a)) (fun v z => by cases z) rfl
  rw [List.all_cons, Bool.and_eq_true] at hp
  rw [star_cons hp.1]
  refine PySem.W.callWith_of (P := PySem.W.MethP X.K hh.objs.size g (.ref a)) (by show ((false || (backTo pos (starEach es X.env)).any (·.1)) || false) = false; rw [star_any pos hp.2]; rfl) (PySem.W.keeps_M hfn) ?_
  have hA2 := hA.run pos _ _ σ H _ I2 ht
  rw [star_cons hp.1] at hA2
  refine Calls.evalArgs_plain (thn hA2 fun us s3 ⟨vs, H3, I3, r3, q3⟩ => ?_)
  have hu := (I3.pin (hh.objs.size, PySem.W.methodObj (.ref g) (.ref a)) (by simp)).1
  have r4 : Vals (V.ref a :: vs) (Value.ref a :: us) := .cons rfl r3
  have hl : (Value.ref a :: us).length = ps.length := by rw [← r4.length]; exact F.len _ _ _ _ q3
  have b := hb s3 (Value.ref a :: us) I3.kIn (by rw [List.append_nil]; exact hl)
  rw [List.append_nil] at b
  refine ⟨⟨hu, I3.kIn⟩, wpAny_call (PySem.W.method_call hu (codeAny_mono (F.run X.A X.stack s3 H3 ⟨Value.ref a :: us, []⟩ (Value.ref a :: us) (V.ref a :: vs) Qs (fun _ _ _ => False) hr I3.env0 b r4 q3) fun r s4 hq => ?_))⟩
  cases r with
  | error er =>
    obtain ⟨_, _, _, _, _, _, _, _, _, _, _, _, z⟩ := hq
    exact z.elim
  | ok fl =>
    cases fl with
    | ret u =>
      obtain ⟨v, H4, I4, rv, qv⟩ := I3.after hq
      exact h v H4 u s4 (pins_of' I4) rv qv
    | next => exact False.elim hq
    | brk => exact False.elim hq
    | cont => exact False.elim hq
end
end Sim
set_option Elab.async false
set_option linter.all false
set_option autoImplicit false
set_option maxRecDepth 100000
/-! Sim1s: BadX(e), made and raised. -/
namespace Sim
open PySem PySem.Spec PyProof.Rows L2
theorem ev_meth {o : Expr} {name : Str} {apos pos : Pos} {args : List Expr} {env : Env} (hp : args.all plainArg = true) (hl : args.length < 30) (hline : (apos.endLine == pos.line) = true) :
    eval (.Call (.Attribute o name apos) args [] pos) env = (do
      let ov ← attributeBase o name env (eval o env)
      standAt apos.atName
      let (f, first) ← holding [ov] (getMethod ov name (do return (← importBound o env).getD true))
      callWith pos f first (backTo pos (starEach args env)) []) := by
  have few : methodCallForm (args.length + ([] : List Keyword).length) (backTo pos (starEach args env)) (backToKw pos (keywordEach [] env)) = true := by
    unfold methodCallForm
    rw [star_all pos hp]
    show (true && true && decide (args.length + 0 + 0 < 30)) = true
    simpa using hl
  show (do
      let ov ← attributeBase o name env (eval o env)
      standAt apos.atName
      methodCall o name apos pos env ov (args.length + ([] : List Keyword).length) (backTo pos (starEach args env)) (backToKw pos (keywordEach [] env))) = _
  unfold methodCall methodCallPos calleeOf
  rw [few, hline]
  rfl
section
variable {P : Program} {w : World} {K : PySem.W.Frag} {mg : Str → Option Value} {base : Heap} {N : List Str} {name qual : Str} {params : Arguments} {body : List Stmt} {scope : Scope} {dV kV doc pm cdv ct oc cl : Value} {an od cld : Option Addr} {osl csl : Array (Option Value)} {f cc cda D : Addr} {k : Nat} {sp : Sp}
theorem fn_ofI (lk : K.lookup f = some ⟨oc, od, .func (PySem.W.ksFn name qual params body scope dV kV doc pm an cdv ct cc), osl⟩) (hcd : PySem.W.codeIn K cdv qual = true) (S : ScI N scope) (hcc : K.lookup cc = some ⟨cl, cld, .cell (some (.ref D)), csl⟩)
    (len : ∀ vs H Q E, sp vs H Q E → vs.length = N.length)
    (hbody : ∀ (A : Around) (outer : List Env) (s s1 : Shared) (H : Hp) (vs : List V) (Q : VK) (E : XK), Room k (A.deeper (envI qual scope s.heap.objs.size f cdv cc)) → sp vs H Q E → Inv (cxI P w K mg base N qual scope f cdv cc A outer s H) [] (vs.map some) H s1 →
      _root_.PySem.wpAt (model P w) (A.deeper (envI qual scope s.heap.objs.size f cdv cc)) (.func body (envI qual scope s.heap.objs.size f cdv cc)) (execs body (envI qual scope s.heap.objs.size f cdv cc))
        (fun fl s' => ∃ v H' σ', Inv (cxI P w K mg base N qual scope f cdv cc A outer s H) [] σ' H' s' ∧ RelV v (match fl with | .ret v => v | _ => .none) ∧ Q v H') (fun _ _ => False) s1) :
    FnOk P w K mg base (L2N.CX P w) (k + 1) f (PySem.W.ksFn name qual params body scope dV kV doc pm an cdv ct cc) N sp := by
  refine ⟨len, fun A outer s H args us vs Q E hr e0 hb r hsp => ?_⟩
  have hl := len _ _ _ _ hsp
  have KX : K.In s.heap := e0.mod.kin.keeps fun b o e => (e0.bs b o e).1
  have lim : s.heap.NoLimit := e0.mod.nolimit.keeps fun b o e => (e0.bs b o e).1
  refine PySem.ks_codeAny_call_defAt hr.depth (KX _ _ lk) rfl lim (PySem.W.codeRec_of KX hcd) rfl hb S.nocell (fun y hy => S.par _ (List.of_mem_zip hy).1) (fun h₀ hns hk => ?_) S.co S.gen S.kind
  have I := inv_startI (w := w) (qual := qual) (f := f) (cd := cdv) (t' := s.toks + (N.zip us).length) S hr.hd e0 hl r hcc hns hk
  refine PySem.ks_wpAt_mono (hbody A outer s _ H vs Q E (hr.deeper _) hsp I) (fun fl s' ⟨v, H', σ', J, rv, q⟩ => ?_) fun _ _ z => z.elim
  exact ⟨v, H', J.os, J.bare, J.base, J.hok, rv, q⟩
/-- what a base __init__ (self, what, word) does -/
def spR (K : PySem.W.Frag) (D : Addr) : Sp := fun vs H Q _ => ∃ a C v wd, vs = [.ref a, v, wd] ∧ ClsK K C D (.builtin "ValueError.__init__") ∧ PySem.W.subIn K (.ref C) (.type "ValueError") = some true ∧ PySem.W.findIn K (.ref C) "what" = some none ∧ PySem.W.findIn K (.ref C) "word" = some none ∧
  H a = some (exo a C none) ∧ ∀ dx, H dx = none → dx ≠ a → Q .non (upd (upd (upd H dx (exd dx [("what", v)])) a (exo a C (some dx))) dx (exd dx [("word", wd), ("what", v)]))
def bodyR (p : List Pos) : List Stmt :=
  [.Expr (.Call (.Attribute (.Call (.Name "super" (p.getD 0 default)) [] [] (p.getD 1 default)) "__init__" (p.getD 2 default)) [.Name "what" (p.getD 3 default)] [] (p.getD 4 default)) (p.getD 5 default),
   .Assign [.Attribute (.Name "self" (p.getD 6 default)) "what" (p.getD 7 default)] (.Name "what" (p.getD 8 default)) (p.getD 9 default),
   .Assign [.Attribute (.Name "self" (p.getD 10 default)) "word" (p.getD 11 default)] (.Name "word" (p.getD 12 default)) (p.getD 13 default)]
theorem initR_ok {p : List Pos} (hline : ((p.getD 2 default).endLine == (p.getD 4 default).line) = true) (lk : K.lookup f = some ⟨oc, od, .func (PySem.W.ksFn name qual params (bodyR p) scope dV kV doc pm an (.ref cda) ct cc), osl⟩) (hcd : PySem.W.codeIn K (.ref cda) qual = true) (S : ScI ["self", "what", "word"] scope)
    (hcc : K.lookup cc = some ⟨cl, cld, .cell (some (.ref D)), csl⟩) (Z : SupK P K mg scope f cda cc D) :
    FnOk P w K mg base (L2N.CX P w) (k + 1) f (PySem.W.ksFn name qual params (bodyR p) scope dV kV doc pm an (.ref cda) ct cc) ["self", "what", "word"] (spR K D) := by
  refine fn_ofI lk hcd S hcc (fun vs H Q E ⟨a, C, v, wd, e, _⟩ => by rw [e]; rfl) fun A outer s s1 H vs Q E hr hsp I => ?_
  obtain ⟨a, C, v, wd, rfl, T, hB, n1, n2, ha, hq⟩ := hsp
  generalize hX : cxI P w K mg base ["self", "what", "word"] qual scope f (.ref cda) cc A outer s H = X at I ⊢
  have ex : X.env = envI qual scope s.heap.objs.size f (.ref cda) cc := by rw [← hX]; rfl
  have xA : X.A = A.deeper (envI qual scope s.heap.objs.size f (.ref cda) cc) := by rw [← hX]; rfl
  have xe : X.xe = fun _ _ => False := by rw [← hX]; rfl
  have xp : X.prog = P ∧ X.w = w ∧ X.K = K ∧ X.mg = mg := by rw [← hX]; exact ⟨rfl, rfl, rfl, rfl⟩
  have xN : X.N = (["self", "what", "word"] : List Str) := by rw [← hX]; rfl
  obtain ⟨rfl, rfl, rfl, rfl⟩ := xp
  have vis : ∀ x ∈ (["self", "what", "word"] : List Str), Vis X.env.scope x := fun x hx => .inl (by rw [ex]; exact S.par x hx)
  have v0 : ∀ {p : Pos}, PE X (.Name "self" p) (tVar 0) := fun {p} => pe_var (by rw [xN]; rfl) (vis _ (by simp))
  have v1 : ∀ {p : Pos}, PE X (.Name "what" p) (tVar 1) := fun {p} => pe_var (by rw [xN]; rfl) (vis _ (by simp))
  have v2 : ∀ {p : Pos}, PE X (.Name "word" p) (tVar 2) := fun {p} => pe_var (by rw [xN]; rfl) (vis _ (by simp))
  rw [← xA, ← ex, ← xe]
  unfold bodyR
  refine PySem.ks_wpAt_execs_cons (PySem.ks_wpAt_Expr_any (PySem.wpAt_mono (sup_ve (Z := Z) T hB I ex ⟨0, by rw [xN]; rfl, rfl⟩ ha rfl (pa_cons v1 pa_nil) ⟨v, rfl, rfl, by simp⟩ (ev_meth rfl (by simp) hline) (Q := fun u s' => Inv X [] ([V.ref a, v, wd].map some) H s') fun s' I' => I') (fun u s' I' => ?_) fun _ _ z => z) I.quiet rfl)
  refine PySem.wpAt_of_wpAny (wpAny_mono ((pss_cons (ps_ost (f := "what") v0 v1 rfl) (pss_cons (ps_ost (f := "word") v0 v2 rfl) pss_nil)).run [] s' _ H { nx := fun _ H' => Q .non H', rt := fun _ _ => False } I' ?_) (fun fl s2 hs => ?_) fun _ _ z => z)
  · refine ⟨v, rfl, .ref a, rfl, a, C, rfl, T.oex, n1, .inl ⟨ha, fun dx hn hne => ⟨wd, rfl, .ref a, rfl, a, C, rfl, T.oex, n2, .inr ⟨dx, [("what", v)], upd_same, ?_, by simp, hq dx hn hne⟩⟩⟩⟩
    rw [upd_ne hne, upd_same]
  · cases fl with
    | next =>
      obtain ⟨σ', H', J, q⟩ := hs
      exact ⟨.non, H', σ', J, rfl, q⟩
    | ret u => obtain ⟨_, _, _, _, _, z⟩ := hs; exact z.elim
    | brk => obtain ⟨_, _, _, z⟩ := hs; exact z.elim
    | cont => obtain ⟨_, _, _, z⟩ := hs; exact z.elim
/-- what C's own __init__ (self, what) does -/
def spB (K : PySem.W.Frag) (C : Addr) (wd : Str) : Sp := fun vs H Q _ => ∃ a v, vs = [.ref a, v] ∧ H a = some (exo a C none) ∧ ∀ dx, H dx = none → dx ≠ a → Q .non (upd (upd (upd H dx (exd dx [("what", v)])) a (exo a C (some dx))) dx (exd dx [("word", .str wd), ("what", v)]))
def bodyB (wd : Str) (j : Nat) (p : List Pos) : List Stmt :=
  [.Expr (.Call (.Attribute (.Call (.Name "super" (p.getD 0 default)) [] [] (p.getD 1 default)) "__init__" (p.getD 2 default)) [.Name "what" (p.getD 3 default), .Constant (.str wd) j (p.getD 4 default)] [] (p.getD 5 default)) (p.getD 6 default)]
theorem initB_ok {p : List Pos} {wd : Str} {j : Nat} {C g R : Addr} {fdR : FuncData} (hline : ((p.getD 2 default).endLine == (p.getD 5 default).line) = true) (lk : K.lookup f = some ⟨oc, od, .func (PySem.W.ksFn name qual params (bodyB wd j p) scope dV kV doc pm an (.ref cda) ct cc), osl⟩) (hcd : PySem.W.codeIn K (.ref cda) qual = true) (S : ScI ["self", "what"] scope)
    (hcc : K.lookup cc = some ⟨cl, cld, .cell (some (.ref C)), csl⟩) (Z : SupK P K mg scope f cda cc C) (T : ClsK K C C (.ref g)) (T2 : ClsK K C R (.builtin "ValueError.__init__")) (hB : PySem.W.subIn K (.ref C) (.type "ValueError") = some true) (n1 : PySem.W.findIn K (.ref C) "what" = some none) (n2 : PySem.W.findIn K (.ref C) "word" = some none)
    (tg : PySem.W.typeIn K (.ref g) = some (.type "function")) (hfn : PySem.W.fnIn K g = true) (F : FnOk P w K mg base (L2N.CX P w) k g fdR ["self", "what", "word"] (spR K R)) (hb : Binds K fdR ["self", "what", "word"] []) :
    FnOk P w K mg base (L2N.CX P w) (k + 1) f (PySem.W.ksFn name qual params (bodyB wd j p) scope dV kV doc pm an (.ref cda) ct cc) ["self", "what"] (spB K C wd) := by
  refine fn_ofI lk hcd S hcc (fun vs H Q E ⟨a, v, e, _⟩ => by rw [e]; rfl) fun A outer s s1 H vs Q E hr hsp I => ?_
  obtain ⟨a, v, rfl, ha, hq⟩ := hsp
  generalize hX : cxI P w K mg base ["self", "what"] qual scope f (.ref cda) cc A outer s H = X at I ⊢
  have ex : X.env = envI qual scope s.heap.objs.size f (.ref cda) cc := by rw [← hX]; rfl
  have xA : X.A = A.deeper (envI qual scope s.heap.objs.size f (.ref cda) cc) := by rw [← hX]; rfl
  have xe : X.xe = fun _ _ => False := by rw [← hX]; rfl
  have xp : X.prog = P ∧ X.w = w ∧ X.K = K ∧ X.mg = mg ∧ X.base = base := by rw [← hX]; exact ⟨rfl, rfl, rfl, rfl, rfl⟩
  have xN : X.N = (["self", "what"] : List Str) := by rw [← hX]; rfl
  obtain ⟨rfl, rfl, rfl, rfl, rfl⟩ := xp
  have vis : ∀ x ∈ (["self", "what"] : List Str), Vis X.env.scope x := fun x hx => .inl (by rw [ex]; exact S.par x hx)
  have v1 : ∀ {p : Pos}, PE X (.Name "what" p) (tVar 1) := fun {p} => pe_var (by rw [xN]; rfl) (vis _ (by simp))
  rw [← xA, ← ex, ← xe]
  unfold bodyB
  refine PySem.ks_wpAt_execs_cons (PySem.ks_wpAt_Expr_any (PySem.wpAt_mono (sup_fn (Z := Z) (Qs := fun v H' => v = .non ∧ Q .non H') T tg hfn F (by rw [xA]; exact hr) hb I ex ⟨0, by rw [xN]; rfl, rfl⟩ ha rfl (pa_cons v1 (pa_cons pe_str pa_nil))
    ⟨v, rfl, a, C, v, .str wd, rfl, T2, hB, n1, n2, ha, fun dx hn hne => ⟨rfl, hq dx hn hne⟩⟩ (ev_meth rfl (by simp) hline) (Q := fun u s' => ∃ H', Inv X [] ([V.ref a, v].map some) H' s' ∧ Q .non H') fun z H' u s' I' _ ⟨_, q⟩ => ⟨H', I', q⟩) (fun u s' ⟨H', I', q⟩ => ?_) fun _ _ z => z) I.quiet rfl)
  refine PySem.wpAt_of_wpAny (wpAny_execs_nil ⟨.non, H', _, I', rfl, q⟩)
/-- C(e, ..), C's own __init__ keeping sp; no context -/
theorem pmk_oexN {X : Cx} {e : Expr} {es : List Expr} {ta : TA} {p pos : Pos} {CX : CXT} {x : Str} {C fI : Addr} {k : Nat} {fd : FuncData} {ps : List Str} {sp : Sp} {ds : List Value} {dvs : List V} (T : OexC X.K C) (iC : PySem.W.findIn X.K (.ref C) "__init__" = some (some (.ref fI))) (tI : PySem.W.typeIn X.K (.ref fI) = some (.type "function"))
    (F1 : FnOk X.prog X.w X.K X.mg X.base CX k fI fd ps sp) (hr : Room (k + 1) X.A) (hb : Binds X.K fd ps ds) (hd : Vals dvs ds) (hx : Passes CX X (fun _ _ _ => False)) (hg : Gl X x) (hm : X.mg x = some (.ref C)) (ha : PA X (e :: es) ta)
    (hdb : (x == ("__debug__" : Str)) = false) (he : starEach (e :: es) X.env = (false, eval e X.env) :: starEach es X.env) (hpl : (backTo pos (starEach es X.env)).any (·.1) = false) :
    L2N.PMk X (.Call (.Name x p) (e :: es) [] pos) (tMkO C sp dvs ta) := by
  intro pins s σ H Q I h
  obtain ⟨nm, q, N, bs, bm, sn, sub, ab, col, dd, k0, k1, k2, k3, k5, hC, hbm⟩ := T.cls
  refine wpAny_Call_Name_kw (ld_glob I hg hm ?_ hdb)
  refine PySem.W.callWith_K (h₀ := X.base) I.ok.mod.kin T.kC (thn (ha.run pos pins s σ H _ I h) fun us s1 ⟨vs, H1, I1, r1, hz, q1⟩ => ⟨I1.kIn, ?_⟩) he hpl
  show wpAny _ _ (call (.ref C) us) _ _ _
  obtain ⟨hp, g, dr, tk, os⟩ := s1
  have hsz : hp.objs.size ≤ hp.objs.size + 1 := Nat.le_succ _
  have hn : H1 (hp.objs.size + 1) = none := I1.hok.fresh hsz
  have hq := q1 (hp.objs.size + 1) hn
  have kk : ∀ b o, hp.get? b = some o → ((hp.push (PySem.W.kdv_tup us)).push (PySem.HandSPX.excO C hp.objs.size)).get? b = some o := fun b o e => Heap.get?_push_of_some _ (Heap.get?_push_of_some _ e)
  have hget : ((hp.push (PySem.W.kdv_tup us)).push (PySem.HandSPX.excO C hp.objs.size)).get? (hp.objs.size + 1) = some (PySem.HandSPX.excO C hp.objs.size) := by heap_get
  have I2 : Inv X pins σ (upd H1 (hp.objs.size + 1) (exo (hp.objs.size + 1) C none)) ⟨(hp.push (PySem.W.kdv_tup us)).push (PySem.HandSPX.excO C hp.objs.size), g, dr, tk, os⟩ :=
    I1.laid (t' := tk) (a := hp.objs.size + 1) (o := exo (hp.objs.size + 1) C none) (h' := (hp.push (PySem.W.kdv_tup us)).push (PySem.HandSPX.excO C hp.objs.size)) kk hsz (exo_ok hget)
  have r2 : Vals (V.ref (hp.objs.size + 1) :: (vs ++ dvs)) (Value.ref (hp.objs.size + 1) :: (us ++ ds)) := .cons rfl (r1.append hd)
  have hl : (Value.ref (hp.objs.size + 1) :: us ++ ds).length = ps.length := by
    have e := r2.length
    rw [F1.len _ _ _ _ hq] at e
    exact e.symm
  have hus : us.length ≤ sizeLine := by
    rw [← Paired.length r1, sizeLine_eq]
    omega
  refine wpAny_call (PySem.HandSPX.call_own F.excBase_ValueError (fun Y => PySem.HandSPX.refsVE_contains Y bm hbm) (I1.kIn _ _ hC) (PySem.W.looks_findIn I1.kIn iC) (fun self => PySem.W.bind_fn I1.kIn self tI) hus
    (codeAny_mono (F1.run _ X.stack _ _ ⟨Value.ref (hp.objs.size + 1) :: us, []⟩ (Value.ref (hp.objs.size + 1) :: (us ++ ds)) _ _ (fun _ _ _ => False) (hr.make C us []) (I2.env0.make C us []) (hb _ (Value.ref (hp.objs.size + 1) :: us) I2.kIn hl) r2 hq) fun r s' hq' => ?_))
  cases r with
  | error er => exact hx pins σ _ _ er s' I2 hq'
  | ok fl =>
    cases fl with
    | ret u =>
      obtain ⟨v, H2, os2, bare2, un2, hok2, rv, ev, d, fs, ea, ed, hd1, q2⟩ := hq'
      subst ev
      obtain ⟨h2, g2, d2, t2, os'⟩ := s'
      obtain ⟨t0, G, J, kG, ge, hoe, na⟩ := mk_end0 (d2 := d2) (t2 := t2) I1 hsz kk un2 hok2 os2 bare2 ea ed hd1
      exact ⟨rv, _, _, _, ⟨G, g2, d2, t2, os'⟩, _, .ref C, some d, rfl, J, kG, ge, hoe, ⟨rfl, rfl, fun vs e => by cases e; rfl⟩, rfl, rfl, na, rfl, bare2, raises_own T.exC T.tyC, q2⟩
    | next => exact False.elim hq'
    | brk => exact False.elim hq'
    | cont => exact False.elim hq'
/-- BadX(e) -/
theorem raise_ok {G : Wd} {c : CC} {X : Cx} {W : WX} {CL : CLT} {x : Str} {kk : Nat} {C fI : Addr} {fd : FuncData} {wd : Str} {p pos : Pos} {e : Expr} {fa : Loc → M Sim.D} (hC : G.cls kk = C) (T : OexC X.K C) (iC : PySem.W.findIn X.K (.ref C) "__init__" = some (some (.ref fI))) (tI : PySem.W.typeIn X.K (.ref fI) = some (.type "function"))
    (F : FnOk X.prog X.w X.K X.mg X.base (L2N.CX X.prog X.w) k fI fd ["self", "what"] (spB X.K C wd)) (hr : Room (k + 1) X.A) (hb : Binds X.K fd ["self", "what"] []) (hg : Gl X x) (hm : X.mg x = some (.ref C)) (hdb : (x == ("__debug__" : Str)) = false) (hp : plainArg e = true) (he : PE X e (LE X.K G CL W fa)) :
    L2N.PMk X (.Call (.Name x p) [e] [] pos) fun σ H Q => LE X.K G CL W fa σ H fun v H1 => ∀ dx fs, H1 dx = none → fs.lookup ("what" : Str) = some v → Q (.ref (G.cls kk)) (some dx) (upd H1 dx (.xd fs)) := by
  subst hC
  have := pmk_oexN (p := p) (pos := pos) T iC tI F hr hb .nil (fun _ _ _ _ _ _ _ h => by obtain ⟨_, _, _, _, _, _, _, _, _, _, _, _, z⟩ := h; exact z.elim) hg hm (pa_cons he pa_nil (star_cons hp _ _)) hdb (star_cons hp _ _) rfl
  intro pins s σ H Q I h
  refine this pins s σ H Q I ?_
  show LE X.K G CL W fa σ H _
  refine LG.imp h fun v H1 q => ⟨by simp, fun a hn => ⟨a, v, rfl, upd_same, fun dx hd hne => ⟨rfl, dx, [("word", .str wd), ("what", v)], ?_, upd_same, ?_, ?_⟩⟩⟩
  · rw [upd_ne (Ne.symm hne), upd_same]
  · rw [upd_ne hne] at hd
    exact hd
  · have hd1 : H1 dx = none := by rw [upd_ne hne] at hd; exact hd
    have e : upd (del (upd (upd (upd (upd H1 a (exo a (G.cls kk) none)) dx (exd dx [("what", v)])) a (exo a (G.cls kk) (some dx))) dx (exd dx [("word", .str wd), ("what", v)])) a) dx (.xd [("word", .str wd), ("what", v)]) = upd H1 dx (.xd [("word", .str wd), ("what", v)]) := by
      funext b
      by_cases h1 : b = dx
      · rw [h1, upd_same, upd_same]
      · rw [upd_ne h1, upd_ne h1]
        by_cases h2 : b = a
        · rw [h2, del_same, hn]
        · rw [del_ne h2, upd_ne h1, upd_ne h2, upd_ne h1, upd_ne h2]
    rw [e]
    exact q dx _ hd1 rfl
end
end Sim
set_option Elab.async false
set_option linter.all false
set_option autoImplicit false
set_option maxRecDepth 100000
/-! Sim1t: closures without parameters, handed down. -/
namespace Sim
open PySem PySem.Spec PyProof.Rows L2 LamX
/-! ### what is captured -/
abbrev capV (n : Nat) (cs : List Nat) (vs : List (Option V)) : L2.St := (cs.zip vs).foldl (fun L p => L.set p.1 p.2) (List.replicate n none)
theorem caps_gen {K : PySem.W.Frag} {CL : CLT} {μ : List Addr} {H : Hp} : ∀ {cs : List Nat} {ds : List (Option D)} {vs : List (Option V)} {L : Loc} {σ : L2.St}, RepC K CLF μ H ds vs → RepL K CL μ H L σ → RepL K CL μ H ((cs.zip ds).foldl (fun L p => L.set p.1 p.2) L) ((cs.zip vs).foldl (fun L p => L.set p.1 p.2) σ)
  | [], ds, vs, L, σ, r, h => h
  | c :: cs, _, _, L, σ, .nil, h => h
  | c :: cs, _, _, L, σ, @RepC.none _ _ _ _ ds v vs r, h => by
    refine caps_gen (cs := cs) (L := L.set c none) (σ := σ.set c v) r ⟨by rw [List.length_set, List.length_set, h.len], fun j e hj => ?_⟩
    by_cases z : j = c
    · subst z
      have hlt : j < L.length := by have := (List.getElem?_eq_some_iff.mp hj).1; simpa using this
      rw [List.getElem?_set_self hlt] at hj
      cases hj
    · rw [List.getElem?_set_ne (Ne.symm z)] at hj
      obtain ⟨w, h1, h2⟩ := h.at_ j e hj
      exact ⟨w, by rw [List.getElem?_set_ne (Ne.symm z)]; exact h1, h2⟩
  | c :: cs, _, _, L, σ, .some rd r, h => caps_gen (cs := cs) r (h.set (.val rd))
theorem repL_caps {K : PySem.W.Frag} {CL : CLT} {μ : List Addr} {H : Hp} {n : Nat} {cs : List Nat} {ds : List (Option D)} {vs : List (Option V)} (r : RepC K CLF μ H ds vs) : RepL K CL μ H (capsL n cs ds) (capV n cs vs) :=
  caps_gen r ⟨by rw [List.length_replicate, List.length_replicate], fun i d h => by
    rw [List.getElem?_replicate] at h
    split at h <;> cases h⟩
theorem capV_gen : ∀ {cs : List Nat} {vs : List (Option V)} {σ : L2.St} {i : Nat} {v : V}, ((cs.zip vs).foldl (fun (L : L2.St) p => L.set p.1 p.2) σ)[i]? = some (some v) → σ[i]? = some (some v) ∨ ∃ j : Nat, cs[j]? = some i ∧ vs[j]? = some (some v)
  | [], vs, σ, i, v, h => .inl h
  | c :: cs, [], σ, i, v, h => .inl h
  | c :: cs, u :: vs, σ, i, v, h => by
    rcases capV_gen (cs := cs) (vs := vs) (σ := σ.set c u) h with h1 | ⟨j, h1, h2⟩
    · by_cases e : c = i
      · subst e
        by_cases hl : c < σ.length
        · rw [List.getElem?_set_self hl] at h1
          cases h1
          exact .inr ⟨0, rfl, rfl⟩
        · rw [List.getElem?_eq_none (by rw [List.length_set]; omega)] at h1
          cases h1
      · rw [List.getElem?_set_ne e] at h1
        exact .inl h1
    · exact .inr ⟨j + 1, h1, h2⟩
theorem capV_get {n : Nat} {cs : List Nat} {vs : List (Option V)} {i : Nat} {v : V} (h : (capV n cs vs)[i]? = some (some v)) : ∃ j : Nat, cs[j]? = some i ∧ vs[j]? = some (some v) := by
  rcases capV_gen h with h | h
  · rw [List.getElem?_replicate] at h
    split at h <;> cases h
  · exact h
theorem capV_len {n : Nat} {cs : List Nat} {vs : List (Option V)} : (capV n cs vs).length = n := by
  have : ∀ (l : List (Nat × Option V)) (σ : L2.St), (l.foldl (fun (L : L2.St) p => L.set p.1 p.2) σ).length = σ.length := fun l => by
    induction l with
    | nil => exact fun _ => rfl
    | cons p l ih => exact fun σ => by rw [List.foldl_cons, ih, List.length_set]
  rw [this, List.length_replicate]
/-- the lambda's own check -/
structure LamC (prg : Nat → Option Fd) (gl : GL) (f i : Nat) (c : CC) (cs : List Nat) (e : E) : Prop where
  fd : ∃ fd, prg f = some fd ∧ fd.lams[i]? = some (cs, e) ∧ c.N.length = fd.nl
  gl : c.gl = gl
  blk : c.blk = true
  clo : c.clo = false
  fnc : c.fnc = []
  nd : c.N.Nodup
  kind : c.sc.kind = .function
  co : c.sc.isCoroutine = false
  gen : c.sc.isGenerator = false
  own : ∀ y ∈ c.sc.names, y.2 ≠ .local ∧ y.2 ≠ .cell
/-- a closure in a state: its object, its cells -/
structure CloAt (prg : Nat → Option Fd) (gl : GL) (h : Heap) (H : Hp) (fr : List Addr) (f i : Nat) (a c' : Addr) (q : Str) (vs : List (Option V)) : Prop where
  it : ∃ (params : Arguments) (body : Expr) (cl : List (Str × Addr)) (pm ctv : Value) (c : CC) (cs : List Nat) (e : E), LamC prg gl f i c cs e ∧ chkE false c e body = true ∧
    h.get? a = some (PySem.W.kla_obj "<lambda>" q params body c.sc cl pm c' ctv) ∧ (∀ (q : Str) (cl : List (Str × Addr)) (pm cv ctv : Value), bindArgs (PySem.W.kla_fn "<lambda>" q params body c.sc cl pm cv ctv) ⟨[], []⟩ = pure []) ∧
    (∀ y d, cl.lookup y = some d → (∃ v, h.IsCell d v) ∧ H d = none) ∧ (∀ x y d, cl.lookup x = some d → cl.lookup y = some d → x = y) ∧ (∀ y, c.sc.names.lookup y = some .free → ∃ d, cl.lookup y = some d) ∧
    (∀ (j sl : Nat) (v : V) (y : Str), cs[j]? = some sl → vs[j]? = some (some v) → c.N[sl]? = some y → Vis c.sc y → ∃ d u, cl.lookup y = some d ∧ h.IsCell d (some u) ∧ RelV v u)
  free : H a = none
  nofr : a ∉ fr
section
variable {prg : Nat → Option Fd} {gl : GL}
theorem IsCell.un {fs : List Addr} {H H' : Hp} {h h' : Heap} (un : Un fs [] H H' h h') {d : Addr} {v : Option Value} (c : h.IsCell d v) (n : H d = none) : h'.IsCell d v := by
  obtain ⟨o, e, dd⟩ := c
  obtain ⟨sl, q⟩ := un.any e n (by simp)
  exact ⟨_, q, dd⟩
/-- later -/
theorem CloAt.later {fs fs' : List Addr} {H H' : Hp} {h h' : Heap} {f i : Nat} {a c' : Addr} {q : Str} {vs : List (Option V)} (C : CloAt prg gl h H fs f i a c' q vs) (un : Un fs [] H H' h h') (nf : ∀ b, b < h.objs.size → b ∉ fs → b ∉ fs') : CloAt prg gl h' H' fs' f i a c' q vs := by
  obtain ⟨⟨params, body, cl, pm, ctv, c, cs, e, h1, h2, h3, h4, h5, h6, h7, h8⟩, h9, h10⟩ := C
  have no : ∀ b : Addr, b ∉ ([] : List Addr) := fun b z => by cases z
  refine ⟨⟨params, body, cl, pm, ctv, c, cs, e, h1, h2, un.keep a _ h3 h9 h10 (no a), h4, fun y d hd => ?_, h6, h7, fun j sl v y q1 q2 q3 q4 => ?_⟩, un.free a _ h3 h9 (no a), nf a (Heap.lt_size h3) h10⟩
  · obtain ⟨⟨v, z⟩, g1⟩ := h5 y d hd
    obtain ⟨o, eo, dd⟩ := id z
    exact ⟨⟨v, IsCell.un un z g1⟩, un.free d o eo g1 (no d)⟩
  · obtain ⟨d, u, g1, g2, g3⟩ := h8 j sl v y q1 q2 q3 q4
    obtain ⟨_, k1⟩ := h5 y d g1
    exact ⟨d, u, g1, IsCell.un un g2 k1, g3⟩
end
/-- the context of a closure's body -/
def envL (q : Str) (scope : Scope) (L a c' : Addr) (cl : List (Str × Addr)) : Env := PySem.W.envX q scope L a (.ref c') cl
def cxL (P : Program) (w : World) (K : PySem.W.Frag) (mg : Str → Option Value) (base : Heap) (N : List Str) (q : Str) (scope : Scope) (a c' : Addr) (cl : List (Str × Addr)) (A : Around) (outer : List Env) (s : Shared) (H : Hp) (E : XK) : Cx where
  prog := P
  w := w
  K := K
  mg := mg
  base := base
  A := A.deeper (envL q scope s.heap.objs.size a c' cl)
  N := N
  s_0 := s
  H_0 := H
  env := envL q scope s.heap.objs.size a c' cl
  outer := outer
  stack := envL q scope s.heap.objs.size a c' cl :: outer
  ex := []
  calm := true
  fn := fun _ => false
  pn := []
  xe := fun e s' => wpAny (model P w) (A.deeper (envL q scope s.heap.objs.size a c' cl)) (leaving (envL q scope s.heap.objs.size a c' cl) e) (fun _ s'' => L2N.CX P w outer H s E e s'') (fun e' s'' => L2N.CX P w outer H s E e' s'') s'
section
variable {P : Program} {w : World} {K : PySem.W.Frag} {mg : Str → Option Value} {base : Heap} {G : Wd} {prg : Nat → Option Fd} {Wf : Nat} {gl : GL}
theorem clo_start {c : CC} {cs : List Nat} {e : E} {f i : Nat} {a c' : Addr} {q : Str} {cl : List (Str × Addr)} {vs : List (Option V)} {A : Around} {outer : List Env} {s : Shared} {H : Hp} {E : XK} {h₁ : Heap} {tk : Nat} (LC : LamC prg gl f i c cs e) (hd : A.handled = none) (e0 : Env0 P w K mg base A outer s H)
    (h5 : ∀ y d, cl.lookup y = some d → (∃ v, s.heap.IsCell d v) ∧ H d = none) (h6 : ∀ x y d, cl.lookup x = some d → cl.lookup y = some d → x = y) (h7 : ∀ y, c.sc.names.lookup y = some .free → ∃ d, cl.lookup y = some d)
    (h8 : ∀ (j sl : Nat) (v : V) (y : Str), cs[j]? = some sl → vs[j]? = some (some v) → c.N[sl]? = some y → Vis c.sc y → ∃ d u, cl.lookup y = some d ∧ s.heap.IsCell d (some u) ∧ RelV v u)
    (hns : h₁.Ns s.heap.objs.size fun y => ([] : List (Str × Value)).reverse.lookup y) (kp : ∀ b o, s.heap.get? b = some o → h₁.get? b = some o) :
    Inv (cxL P w K mg base c.N q c.sc a c' cl A outer s H E) [] (capV c.N.length cs vs) H { s with heap := h₁, toks := tk } := by
  have noA : ∀ b : Addr, b ∉ (cxL P w K mg base c.N q c.sc a c' cl A outer s H E).ex := fun b z => absurd (show b ∈ ([] : List Addr) from z) (by simp)
  have nc : ∀ {y : Str}, c.sc.names.lookup y = some .local ∨ c.sc.names.lookup y = some .cell → False := fun {y} hy => by
    rcases hy with hy | hy
    · exact (LC.own _ (PySem.mem_of_lookup hy)).1 rfl
    · exact (LC.own _ (PySem.mem_of_lookup hy)).2 rfl
  have cellK : ∀ {d : Addr} {v : Option Value}, s.heap.IsCell d v → h₁.IsCell d v := fun {d v} ⟨o, e, dd⟩ => ⟨o, kp _ _ e, dd⟩
  refine ⟨⟨e0.mod, LC.kind, rfl, rfl, Nat.le_refl _, h6, fun y hy => ?_, fun y d z _ => (by cases z), fun _ => hd, Around.frames_deeper e0.frames, .inr ⟨rfl, rfl⟩, fun b z => absurd z (noA b), e0.bs, e0.bsz, fun b _ _ => noA b, fun b z => absurd z (noA b), e0.funs, e0.frf⟩,
    rfl, e0.bare, Un.kept kp, ⟨_, hns, fun i y v e1 e2 e3 => ?_⟩, fun y d hd => ?_, e0.hok.fresh (Nat.le_refl _), fun y d hd => (h5 y d hd).2, fun p hp => absurd (show p ∈ ([] : List (Addr × Obj)) from hp) (by simp), e0.hok.kept kp, capV_len⟩
  · have hy : c.sc.names.lookup y = some .cell ∨ c.sc.names.lookup y = some .free := hy
    rcases hy with hy | hy
    · exact (nc (.inr hy)).elim
    · exact h7 y hy
  · have e3 : Vis c.sc y := e3
    obtain ⟨j, g1, g2⟩ := capV_get e2
    obtain ⟨d, u, k1, k2, k3⟩ := h8 j i v y g1 g2 e1 e3
    refine ⟨u, k3, .inr ⟨?_, d, k1, cellK k2⟩⟩
    rcases e3 with z | z | z
    · exact (nc (.inl z)).elim
    · exact (nc (.inr z)).elim
    · exact .inr z
  · obtain ⟨⟨v, z⟩, _⟩ := h5 y d hd
    exact ⟨v, cellK z⟩
/-- the closures that a context knows, at its entry -/
def ClOk (prg : Nat → Option Fd) (gl : GL) (CL : CLT) (h : Heap) (H : Hp) (fr : List Addr) : Prop := ∀ f i a c' q vs, CL f i a c' q vs → CloAt prg gl h H fr f i a c' q vs
/-- the frames of a context's own stack -/
theorem frs_stack {Z : Cx} (ok : Z.Ok) (hst : Z.stack = Z.env :: Z.outer) (hf : Z.env.frame = some Z.env.locals) {b : Addr} (hb : b < Z.s_0.heap.objs.size) (n : b ∉ Z.fs) : b ∉ frs Z.stack := by
  rw [hst]
  intro z
  have z : b ∈ Z.env.locals :: frs Z.outer := by
    have e : frs (Z.env :: Z.outer) = Z.env.locals :: frs Z.outer := by unfold frs; rw [List.filterMap_cons, hf]
    rw [e] at z
    exact z
  rcases List.mem_cons.mp z with z | z
  · exact absurd hb (by rw [z]; exact Nat.not_lt.mpr ok.above)
  · exact n z
theorem ClOk.later {Z : Cx} {CL : CLT} {pins : List (Addr × Obj)} {σ : L2.St} {H : Hp} {s : Shared} (C : ClOk prg gl CL Z.s_0.heap Z.H_0 Z.fs) (I : Inv Z pins σ H s) (hst : Z.stack = Z.env :: Z.outer) (hf : Z.env.frame = some Z.env.locals) (hex : Z.ex = []) : ClOk prg gl CL s.heap H (frs Z.stack) :=
  fun f i a c' q vs h => (C f i a c' q vs h).later (by have := I.base; rw [hex] at this; exact this) fun b hb n => frs_stack I.ok hst hf hb n
/-- y(), y a closure that was handed in -/
theorem pe_clo {m : Nat} {Z : Cx} {W : WX} {CL : CLT} {x : Str} {sl : Nat} {p1 p2 : Pos} (hP : Z.prog = P) (hw : Z.w = w) (hK : Z.K = K) (hmg : Z.mg = mg) (hbase : Z.base = base) (hr : Room (m + 4) Z.A) (tk : L2N.Takes Z W) (hst : Z.stack = Z.env :: Z.outer) (hf : Z.env.frame = some Z.env.locals) (hex : Z.ex = [])
    (C : ClOk prg gl CL Z.s_0.heap Z.H_0 Z.fs) (F : ∀ f, PgF P w K mg base G gl (orcN prg Wf m f) (m + 3)) (hN : Z.N[sl]? = some x) (hv : Vis Z.env.scope x) (hd : (x == ("__debug__" : Str)) = false) (hcd : (x == ("__classdict__" : Str)) = false) :
    PE Z (.Call (.Name x p1) [] [] p2) (LE Z.K G CL W fun L => match getL L sl with
      | some (.clo f j caps) => runClo prg (orcN prg Wf m) f j caps
      | _ => stk) := by
  subst hP hw hK hmg hbase
  refine ⟨fun pins s σ H Q I h => ?_⟩
  obtain ⟨μ, L, S, R, RL, h⟩ := h
  dsimp only at h
  cases hL : getL L sl with
  | none => rw [hL] at h; exact (LA.stk h).elim
  | some d =>
    rw [hL] at h
    cases d with
    | clo f j caps =>
      dsimp only at h
      obtain ⟨v, hs, ra⟩ := RL.get hL
      cases ra with
      | val r =>
        cases r with
        | clo z _ _ => exact z.elim
      | @clo _ _ a c' q _ vs hcl hco hcaps =>
        obtain ⟨⟨params, body, cl, pm, ctv, c, cs, e, LC, hck, hget, hbind, h5, h6, h7, h8⟩, hfree, hnofr⟩ := (C.later I hst hf hex) f j a c' q vs hcl
        obtain ⟨fd, hfd, hlam, hnl⟩ := LC.fd
        have he : runClo prg (orcN prg Wf m) f j caps = evE (orcN prg Wf m f) e (capsL fd.nl cs caps) := by
          unfold runClo
          rw [hfd]
          dsimp only
          rw [hlam]
        rw [he] at h
        refine wpAny_Call_Name_kw (thn ((pe_var (pos := p1) (i := sl) hN hv hd hcd).run pins s σ H (fun v H1 => v = .ref a ∧ H1 = H) I ⟨.ref a, hs, rfl, rfl⟩) fun u s1 ⟨v, H1, I1, r1, q1⟩ => ?_)
        obtain ⟨ev, eH⟩ := q1
        subst ev
        rw [eH] at I1
        obtain rfl : u = Value.ref a := r1
        obtain ⟨⟨params, body, cl, pm, ctv, c, cs2, e2, LC, hck, hget, hbind, h5, h6, h7, h8⟩, hfree, hnofr⟩ := (C.later I1 hst hf hex) f j a c' q vs hcl
        obtain ⟨fd2, hfd2, hlam2, hnl2⟩ := LC.fd
        rw [hfd] at hfd2
        cases hfd2
        rw [hlam] at hlam2
        cases hlam2
        refine PySem.W.callWith_F0 ⟨_, _, _, _, hget⟩ ?_
        obtain ⟨⟨oc, ws, t, hoc, hdc, hvc⟩, _, _⟩ := I1.hok c' _ hco
        have hbody : PE (cxL Z.prog Z.w Z.K Z.mg Z.base c.N q c.sc a c' cl Z.A Z.stack s1 H (WE W σ)) body (LE Z.K G CLF (fun cls d _ H' => WE W σ cls d H') (evE (orcN prg Wf m f) e)) := by
          refine (sndE e (t := false) ({ prog := rfl, w := rfl, K := rfl, mg := rfl, base := rfl, N := rfl, nd := LC.nd, sc := rfl, calm := rfl, room := hr.deeper _, fn := fun x hx => ?_, takes := L2N.takes_of rfl rfl rfl rfl, lam := fun z => ?_, pass := fun z => ?_ } : CtxOk Z.prog Z.w Z.K Z.mg Z.base G (orcN prg Wf m f) (m + 3) c (cxL Z.prog Z.w Z.K Z.mg Z.base c.N q c.sc a c' cl Z.A Z.stack s1 H (WE W σ)) (fun cls d _ H' => WE W σ cls d H') CLF) (by rw [LC.gl]; exact F f) hck).val
          · rw [LC.fnc] at hx; cases hx
          · rw [LC.blk] at z; cases z
          · rw [LC.blk] at z; cases z
        have rc : codeAny (model Z.prog Z.w) Z.A (.call (.ref a) ⟨[], []⟩) (CR (L2N.CX Z.prog Z.w) Z.stack Z.prog Z.w H s1 Q (WE W σ)) s1 := by
          refine PySem.W.kla_callFunE hr.depth hget rfl LC.co LC.gen rfl ⟨c', oc, ws, t, rfl, hoc, hdc, hvc⟩ ?_
          rw [hbind]
          refine wpAny_pure (wpAny_newFunctionEnv (fun y hy => (LC.own y hy).2) (fun y hy => absurd hy (by simp)) (fun h₁ hns hsb => ⟨I1.nolimit.fresh _ hsb, ?_⟩) LC.kind)
          show codeAny _ _ (.expr body (envL q c.sc s1.heap.objs.size a c' cl)) _ _
          have kp : ∀ b o, s1.heap.get? b = some o → h₁.get? b = some o := fun b o e => hsb.extBut b o (Nat.ne_of_lt (Heap.lt_size e)) (Heap.get?_push_of_some _ e)
          have J := clo_start (vs := vs) (q := q) (a := a) (c' := c') (E := WE W σ) (tk := s1.toks + ([] : List (Str × Value)).length) LC hr.hd I1.env0 h5 h6 h7 h8 hns kp
          have ht : LE Z.K G CLF (fun cls d _ H' => WE W σ cls d H') (evE (orcN prg Wf m f) e) (capV c.N.length cs vs) H Q := by
            refine ⟨μ, capsL fd.nl cs caps, S, R, ?_, ?_⟩
            · rw [← hnl2]
              exact repL_caps hcaps
            · obtain ⟨r, S', e1, h1⟩ := h
              refine ⟨r, S', e1, ?_⟩
              cases r with
              | val d => exact h1
              | exc x => exact h1
          refine PySem.W.kla_codeExpr (wpAny_mono (hbody.run [] _ _ H Q J ht) (fun v s' hq => ?_) fun e s' hq => hq)
          obtain ⟨w', H', J', rv, q⟩ := hq
          exact ⟨w', H', J'.os, J'.bare, J'.base, J'.hok, rv, q⟩
        refine wpAny_call (codeAny_mono rc fun r s' hq => ?_)
        cases r with
        | error e => exact L2N.passAt tk σ pins H s1 e s' I1 hq
        | ok fl =>
          cases fl with
          | ret u => exact I1.after hq
          | next => exact False.elim hq
          | brk => exact False.elim hq
          | cont => exact False.elim hq
    | _ => exact (LA.stk h).elim
/-- lists of plain values and closures -/
def RepAs (K : PySem.W.Frag) (CL : CLT) (μ : List Addr) (H : Hp) (ds : List D) (vs : List V) : Prop := ds.length = vs.length ∧ ∀ (i : Nat) (d : D), ds[i]? = some d → ∃ v, vs[i]? = some v ∧ RepA K CL μ H d v
theorem RepAs.cons {CL : CLT} {μ : List Addr} {H : Hp} {d : D} {v : V} {ds : List D} {vs : List V} (r : RepA K CL μ H d v) (rs : Reps K CLF μ H ds vs) : RepAs K CL μ H (d :: ds) (v :: vs) :=
  ⟨by rw [List.length_cons, List.length_cons, rs.length], fun i e h => by
    cases i with
    | zero => simp at h; subst h; exact ⟨v, rfl, r⟩
    | succ i =>
      obtain ⟨w, h1, h2⟩ := rs.get (show ds[i]? = some e by simpa using h)
      exact ⟨w, by simpa using h1, .val h2⟩⟩
/-- what a def promises that is handed a closure -/
structure CloFn (P : Program) (w : World) (K : PySem.W.Frag) (mg : Str → Option Value) (base : Heap) (G : Wd) (prg : Nat → Option Fd) (gl : GL) (k : Nat) (ag : Addr) (fd : FuncData) (ps : List Str) (m : List D → M D) : Prop where
  run : ∀ (A : Around) (outer : List Env) (s : Shared) (H : Hp) (args : Args) (us : List Value) (vs : List V) (Q : VK) (E : XK) (CL : CLT), Room k A → Env0 P w K mg base A outer s H → BindsTo s fd args (ps.zip us) → Vals vs us → vs.length = ps.length → ClOk prg gl CL s.heap H (frs outer) →
    (∃ μ S ds, RelG K G CLF μ S H ∧ RepAs K CL μ H ds vs ∧ LA K G CLF (rrD K CLF) (fun cls d _ H' => E cls d H') μ S (m ds) [] H Q) → codeAny (model P w) A (.call (.ref ag) args) (CR (L2N.CX P w) outer P w H s Q E) s
structure CfF (P : Program) (w : World) (K : PySem.W.Frag) (mg : Str → Option Value) (base : Heap) (G : Wd) (prg : Nat → Option Fd) (gl : GL) (O : Orc) (k : Nat) : Prop where
  fns : ∀ g x, gl.cfuns.lookup g = some x → ∃ f fd ps, mg x = some (.ref f) ∧ PySem.W.keepIn K (.ref f) = true ∧ Binds K fd ps [] ∧ (∀ ds S r, O.call g ds S = some r → ds.length = ps.length) ∧ CloFn P w K mg base G prg gl k f fd ps (O.call g)
/-- a lambda's context of check -/
def inLam (c : CC) (lsc : Scope) : CC := { c with sc := lsc, fnc := [], clo := false, blk := true, chkL := fun _ _ _ _ => false }
/-- the lambda's tables -/
structure LamTab (X : Cx) (G : Wd) (c P : Addr) : Prop where
  code : X.env.code = .ref c
  tab : TabB X.base X.mg c P
  mem : (P, X.env.qual ++ "<lambda>") ∈ G.T
  uni : ∀ p ∈ G.T, p.1 = P → p.2 = X.env.qual ++ "<lambda>"
/-- what the check of a lambda says -/
structure LamK (prg : Nat → Option Fd) (f i : Nat) (c : CC) (cs : List Nat) (e : E) (ps : Arguments) (body : Expr) (lsc : Scope) : Prop where
  lc : LamC prg c.gl f i (inLam c lsc) cs e
  ck : chkE false (inLam c lsc) e body = true
  ls : LamS c.sc lsc
  dft : ∀ env, defaultsOf ps env = ([], [])
  bnd : ∀ (q : Str) (cl : List (Str × Addr)) (pm cv ctv : Value), bindArgs (PySem.W.kla_fn "<lambda>" q ps body lsc cl pm cv ctv) ⟨[], []⟩ = pure []
section
variable {X : Cx} {pins : List (Addr × Obj)} {σ : L2.St} {H : Hp} {s : Shared}
/-- a lambda is made; what is tracked afterwards -/
theorem lam_make3 {T : List (Addr × Str)} {c P : Addr} {params : Arguments} {body : Expr} {scope : Scope} {pos : Pos} {E : Value → Shared → Prop} {Q : Value → Shared → Prop} (I : Inv X pins σ H s) (TB : TabB X.base X.mg c P) (hcode : X.env.code = .ref c)
    (hm : (P, X.env.qual ++ "<lambda>") ∈ T) (hu : ∀ p ∈ T, p.1 = P → p.2 = X.env.qual ++ "<lambda>") (hT : Tabs T H) (hdef : defaultsOf params X.env = ([], [])) (hfree : ∀ y ∈ scope.names, y.2 = .free → ∃ c, X.env.cells.lookup y.1 = some c)
    (h : ∀ (f c' : Addr) (pm ctv : Value) (H1 : Hp) (s' : Shared), Inv X pins σ H1 s' → (H1 = H ∨ ∃ ps more, H P = some (.tbl ps) ∧ H c' = none ∧ H1 = upd (upd H P (.tbl more)) c' (CodeO c' (X.env.qual ++ "<lambda>"))) → Tabs T H1 →
      s'.heap.get? f = some (PySem.W.kla_obj "<lambda>" (X.env.qual ++ "<lambda>") params body scope (cloFrom X.env.cells scope.names []) pm c' ctv) → H1 f = none → f ∉ frs X.stack → f ≠ X.env.locals → H1 c' = some (CodeO c' (X.env.qual ++ "<lambda>")) → Q (.ref f) s') :
    wpAny (model X.prog X.w) X.A (eval (.Lambda params body scope pos) X.env) Q E s := by
  obtain ⟨ps, hP, ht, ha⟩ := hT _ hm
  refine PySem.W.kla_eval hdef ?_
  have bP : s.heap.BuiltinsAt X.mg P := TB.bm.keeps I.bk
  have hP' : s.heap.get? P = some { cls := .none, data := .fields ps } := I.hok P _ hP
  have nofr : ∀ f, s.heap.objs.size ≤ f → f ∉ frs X.stack ∧ f ≠ X.env.locals := fun f hf => by
    have nl : f ≠ X.env.locals := Nat.ne_of_gt (Nat.lt_of_lt_of_le I.lt hf)
    refine ⟨fun z => ?_, nl⟩
    rcases List.mem_cons.mp (I.stkSub _ z) with e | e
    · exact nl e
    · exact I.nofs hf e
  cases hc : codeAmong pos ps.toList with
  | none =>
    refine PySem.W.kla_makeFunction (mg := X.mg) (c := c) (P := P) (ps := ps) (closure_ok hfree) I.ok.glob (I.mod.glob.keeps I.bk) hcode (TB.code.keeps I.bk) hP' ht hc TB.gP bP fun c' ctv h' tk hx hge hlt hrec htb => ?_
    obtain ⟨c2, oc, vs, t, e2, hoc, hd, hv⟩ := hrec
    cases e2
    have hsz : s.heap.objs.size ≤ h'.objs.size := Nat.le_trans hge (Nat.le_of_lt hlt)
    have nC : H c' = none := I.hok.fresh hge
    have I1 := inv_table (t' := tk) (more := #[rawInt pos.line, rawInt pos.col, .ref c']) (h' := h'.push (PySem.W.kla_obj "<lambda>" (X.env.qual ++ "<lambda>") params body scope (cloFrom X.env.cells scope.names []) ((X.mg "__name__").getD .none) c' ctv)) I hP
      (fun b o hb e => Heap.get?_push_of_some _ (hx b o hb e)) (Heap.get?_push_of_some _ htb) hge ⟨oc, vs, t, Heap.get?_push_of_some _ hoc, hd, hv⟩
    have hE : ExtN H (upd (upd H P (.tbl (ps ++ #[rawInt pos.line, rawInt pos.col, .ref c']))) c' (CodeO c' (X.env.qual ++ "<lambda>"))) := fun b o e n => by
      rw [upd_ne (ne_of_none e nC), upd_ne (fun z => n ps (Option.some.inj (e.symm.trans (by rw [z]; exact hP))))]
      exact e
    have eL : (ps ++ #[rawInt pos.line, rawInt pos.col, .ref c']).toList = ps.toList ++ [rawInt pos.line, rawInt pos.col, .ref c'] := by simp
    refine h h'.objs.size c' ((X.mg "__name__").getD .none) ctv _ _ I1 (.inr ⟨ps, _, hP, nC, rfl⟩) (fun p hp => ?_) (Heap.get?_push_size _ rfl) ?_ (nofr _ hsz).1 (nofr _ hsz).2 upd_same
    · by_cases hb : p.1 = P
      · rw [hu p hp hb, hb]
        refine ⟨_, by rw [upd_ne (ne_of_none hP nC), upd_same], by rw [eL]; exact PySem.TriplesOk_snoc _ _ _ _ ht, fun p' cv hcv => ?_⟩
        rw [eL] at hcv
        rcases among_app _ ht hcv with z | z
        · obtain ⟨c0, e1, e2⟩ := ha p' cv z
          exact ⟨c0, e1, hE _ _ e2 codeO_ne⟩
        · exact ⟨c', z, upd_same⟩
      · obtain ⟨ps', a1, a2, a3⟩ := hT p hp
        refine ⟨ps', by rw [upd_ne (ne_of_none a1 nC), upd_ne hb]; exact a1, a2, fun p' cv hcv => ?_⟩
        obtain ⟨c0, e1, e2⟩ := a3 p' cv hcv
        exact ⟨c0, e1, hE _ _ e2 codeO_ne⟩
    · have n1 : h'.objs.size ≠ c' := Nat.ne_of_gt hlt
      have n2 : h'.objs.size ≠ P := Nat.ne_of_gt (Nat.lt_of_lt_of_le (Heap.lt_size hP') hsz)
      rw [upd_ne n1, upd_ne n2]
      exact I.hok.fresh hsz
  | some cv =>
    obtain ⟨c', e, hco⟩ := ha pos cv hc
    subst e
    refine PySem.W.kla_makeFunctionHit (mg := X.mg) (c := c) (P := P) (ps := ps) (closure_ok hfree) I.ok.glob (I.mod.glob.keeps I.bk) hcode (TB.code.keeps I.bk) hP' ht hc bP fun ctv h' tk hx hsz => ?_
    have I1 : Inv X pins σ H { s with heap := h'.push (PySem.W.kla_obj "<lambda>" (X.env.qual ++ "<lambda>") params body scope (cloFrom X.env.cells scope.names []) ((X.mg "__name__").getD .none) c' ctv), toks := tk } := I.kept fun b o e => Heap.get?_push_of_some _ (hx b o e)
    exact h h'.objs.size c' ((X.mg "__name__").getD .none) ctv H _ I1 (.inl rfl) hT (Heap.get?_push_size _ rfl) (I.hok.fresh hsz) (nofr _ hsz).1 (nofr _ hsz).2 hco
end
end
end Sim
set_option Elab.async false
set_option linter.all false
set_option autoImplicit false
set_option maxRecDepth 100000
/-! Sim1u: a closure made and handed to a def; one handed on. -/
namespace Sim
open PySem PySem.Spec PyProof.Rows L2 LamX
theorem LA.step {K : PySem.W.Frag} {G : Wd} {CL : CLT} {W : WX} {α ν : Type} {RR : RRT α ν} {μ μ1 : List Addr} {S : Store} {σ : L2.St} {H H1 : Hp} {m : M α} {Q : ν → Hp → Prop} (h : LA K G CL RR W μ S m σ H Q) (s : Step μ H μ1 H1) : LA K G CL RR W μ1 S m σ H1 Q := by
  obtain ⟨r, S', e, h⟩ := h
  refine ⟨r, S', e, ?_⟩
  cases r with
  | val a => exact fun μ' H' v s1 => h μ' H' v (s.trans s1)
  | exc x => exact fun μ' H' dx s1 => h μ' H' dx (s.trans s1)
theorem restrict_rep {K : PySem.W.Frag} {CL : CLT} {μ : List Addr} {H : Hp} {L : Loc} {σ : L2.St} (RL : RepL K CL μ H L σ) : ∀ cs : List Nat, RepC K CLF μ H (restrict cs L) (cs.map fun sl => (σ[sl]?).getD none)
  | [] => .nil
  | c :: cs => by
    show RepC K CLF μ H (getV L c :: restrict cs L) ((σ[c]?).getD none :: cs.map fun sl => (σ[sl]?).getD none)
    cases e : getV L c with
    | none => exact .none (restrict_rep RL cs)
    | some d =>
      unfold getV at e
      cases q : getL L c with
      | none => rw [q] at e; cases e
      | some y =>
        rw [q] at e
        obtain ⟨v, h1, h2⟩ := RL.get q
        rw [h1]
        cases h2 with
        | clo _ _ _ => cases e
        | val r =>
          have e : y = d := by cases y <;> first | (cases e; done) | (cases e; rfl)
          subst e
          exact .some r (restrict_rep RL cs)
/-- a lambda's table grows -/
theorem step_tab {K : PySem.W.Frag} {G : Wd} {μ : List Addr} {S : Store} {H H1 : Hp} {P c' : Addr} {q : Str} (R : RelG K G CLF μ S H) (h : H1 = H ∨ ∃ ps more, H P = some (.tbl ps) ∧ H c' = none ∧ H1 = upd (upd H P (.tbl more)) c' (CodeO c' q)) (T1 : Tabs G.T H1) : Step μ H μ H1 ∧ RelG K G CLF μ S H1 := by
  rcases h with rfl | ⟨ps, more, hP, hc, rfl⟩
  · exact ⟨Step.refl _ _, R⟩
  · have nc : ∀ {b : Addr} {o : HO}, H b = some o → b ≠ c' := fun {b o} e => ne_of_none e hc
    have nP : ∀ {b : Addr} {o : HO}, H b = some o → (∀ ps, o ≠ .tbl ps) → b ≠ P := fun {b o} e n z => by rw [z, hP] at e; cases e; exact n ps rfl
    have keep : ∀ b o, H b = some o → (∀ ps, o ≠ .tbl ps) → upd (upd H P (.tbl more)) c' (CodeO c' q) b = some o := fun b o e n => by rw [upd_ne (nc e), upd_ne (nP e n)]; exact e
    have st : Step μ H μ (upd (upd H P (.tbl more)) c' (CodeO c' q)) := by
      refine ⟨⟨[], by simp, fun _ h => by simp at h⟩, fun b hb => ?_, fun b o e _ n => keep b o e n, fun b xs e => keep b _ e fun ps z => (by cases z), fun b o u e => keep b _ e fun ps z => (by cases z), fun b φ e => keep b _ e fun ps z => (by cases z)⟩
      by_cases h1 : b = c'
      · rw [h1, upd_same] at hb; cases hb
      · rw [upd_ne h1] at hb
        by_cases h2 : b = P
        · rw [h2, upd_same] at hb; cases hb
        · rw [upd_ne h2] at hb; exact hb
    refine ⟨st, R.len, R.nd, fun r mo e => ?_, T1⟩
    obtain ⟨a, h1, h2⟩ := R.obj r mo e
    obtain ⟨o, ho, _, nt⟩ := h2.is
    exact ⟨a, h1, h2.keep st (by rw [keep a o ho nt, ho])⟩
section
variable {P : Program} {w : World} {K : PySem.W.Frag} {mg : Str → Option Value} {base : Heap} {G : Wd} {prg : Nat → Option Fd} {Wf : Nat} {n f0 k : Nat} {c : CC} {X : Cx} {W : WX} {CL : CLT}
/-- the call of a def that is handed a closure -/
theorem clo_run {ag : Addr} {fd : FuncData} {ps : List Str} {m : List D → M D} {pins pins' : List (Addr × Obj)} {σ : L2.St} {H : Hp} {s : Shared} {us : List Value} {vs : List V} {Q : VK} {CL' : CLT} {μ : List Addr} {S : Store} {ds : List D} (F : CloFn X.prog X.w X.K X.mg X.base G prg c.gl k ag fd ps m) (hr : Room k X.A) (hb : Binds X.K fd ps []) (tk : L2N.Takes X W)
    (hlen : ∀ ds S r, m ds S = some r → ds.length = ps.length) (I : Inv X pins σ H s) (r : Vals vs us) (C : ClOk prg c.gl CL' s.heap H (frs X.stack)) (R : RelG X.K G CLF μ S H) (ra : RepAs X.K CL' μ H ds vs) (h : LA X.K G CLF (rrD X.K CLF) W μ S (m ds) σ H Q) (he : ∀ u s', EP X pins σ Q u s' → EP X pins' σ Q u s') :
    wpAny (model X.prog X.w) X.A (call (.ref ag) us) (EP X pins' σ Q) X.xe s := by
  have hl : vs.length = ps.length := by
    obtain ⟨r, S', e, _⟩ := h
    rw [← ra.1]
    exact hlen ds S _ e
  have b := hb s us I.kIn (by rw [List.append_nil, ← r.length]; exact hl)
  rw [List.append_nil] at b
  have h2 : LA X.K G CLF (rrD X.K CLF) (fun cls d _ H' => WE W σ cls d H') μ S (m ds) [] H Q := by
    obtain ⟨r, S', e, h⟩ := h
    refine ⟨r, S', e, ?_⟩
    cases r with
    | val d => exact h
    | exc x => exact h
  refine wpAny_call (codeAny_mono (F.run X.A X.stack s H ⟨us, []⟩ us vs Q (WE W σ) CL' hr I.env0 b r hl C ⟨μ, S, ds, R, ra, h2⟩) fun r s' hq => ?_)
  cases r with
  | error e => exact L2N.passAt tk σ pins H s e s' I hq
  | ok fl =>
    cases fl with
    | ret u => exact he u s' (I.after hq)
    | next => exact False.elim hq
    | brk => exact False.elim hq
    | cont => exact False.elim hq
theorem lam_rule {cc PP : Addr} (hP : X.prog = P) (hw : X.w = w) (hK : X.K = K) (hmg : X.mg = mg) (hbase : X.base = base) (hN : X.N = c.N) (hsc : X.env.scope = c.sc) (hr : Room k X.A) (tk : L2N.Takes X W) (hst : X.stack = X.env :: X.outer) (LT : LamTab X G cc PP)
    (F : CfF P w K mg base G prg c.gl (orcN prg Wf n f0) k) (hck : ∀ i ps body lsc, c.chkL i ps body lsc = true → ∃ cs e, LamK prg f0 i c cs e ps body lsc) : LamRule G (orcN prg Wf n f0) c X W CL := by
  subst hP hw hK hmg hbase
  intro f i x ps body lsc lp p pos l fs hf hg hok hc hpl hA
  obtain ⟨ag, fd, pss, h1, h2, h3, hlen, h4⟩ := F.fns f x hf
  obtain ⟨cs, e, LK⟩ := hck i ps body lsc hc
  refine ⟨fun pins s σ H Q I h => ?_⟩
  obtain ⟨μ, L, S, R, RL, h⟩ := h
  dsimp only at h
  rw [bd_assoc] at h
  have LS : LamS X.env.scope lsc := by rw [hsc]; exact LK.ls
  refine wpAny_Call_Name_kw (ld_glob I hg h1 ?_ (okN_dbg hok).1)
  refine PySem.W.callWith_K (h₀ := X.base) I.ok.mod.kin h2 ?_ (by rfl) (star_any pos hpl)
  show wpAny _ _ (spliced ((false, eval (.Lambda ps body lsc lp) X.env) :: backTo pos (starEach l X.env))) _ _ s
  refine Calls.spliced_cons (lam_make3 I LT.tab LT.code LT.mem LT.uni R.tabs (LK.dft _) (LS.has I.ok) fun a c' pm ctv H1 s1 I1 hH T1 hget hfa hnfr hnl hco => ?_)
  obtain ⟨st1, R1⟩ := step_tab R hH T1
  have nfs : a ∉ X.fs := fun z => hnfr (by
    rw [hst]
    obtain ⟨en, hen, q⟩ := List.mem_filterMap.mp z
    exact List.mem_filterMap.mpr ⟨en, List.mem_cons_of_mem _ hen, q⟩)
  generalize hobj : PySem.W.kla_obj "<lambda>" (X.env.qual ++ "<lambda>") ps body lsc (cloFrom X.env.cells lsc.names []) pm c' ctv = obj at hget
  have I2 : Inv X (pins ++ [(a, obj)]) σ H1 s1 := I1.pins_of fun p hp => by
    rcases List.mem_append.mp hp with hp | hp
    · exact I1.pin p (List.mem_append_right _ hp)
    · rw [List.mem_singleton.mp hp]
      exact ⟨hget, hfa, hnl, nfs, fun v z => by rw [← hobj] at z; cases z⟩
  have h5 := h.step st1
  have hargs : LAs X.K G CL W fs σ H1 fun vs H3 => ∃ μ3 S3 ds, Step μ H1 μ3 H3 ∧ RelG X.K G CLF μ3 S3 H3 ∧ Reps X.K CLF μ3 H3 ds vs ∧ LA X.K G CLF (rrD X.K CLF) W μ3 S3 (bd (Sim.ok (.clo (orcN prg Wf n f0).me i (restrict ((orcN prg Wf n f0).caps i) L) :: ds)) fun ds => (orcN prg Wf n f0).call f ds) σ H3 Q :=
    ⟨μ, L, S, R1, RL.step st1, LA.bd (RR := rrA X.K CLF) h5⟩
  refine thn (hA.run pos _ s1 σ H1 _ I2 hargs) fun us s3 ⟨vs, H3, I3, r3, μ3, S3, ds, st3, R3, rs, h6⟩ => ⟨I3.kIn, ?_⟩
  have h6 : LA X.K G CLF (rrD X.K CLF) W μ3 S3 ((orcN prg Wf n f0).call f (.clo (orcN prg Wf n f0).me i (restrict ((orcN prg Wf n f0).caps i) L) :: ds)) σ H3 Q := h6
  cases n with
  | zero => exact (LA.stk h6).elim
  | succ n =>
    have ecs : (orcN prg Wf (n + 1) f0).caps i = cs := by
      show capsOf prg f0 i = cs
      obtain ⟨fd0, e1, e2, _⟩ := LK.lc.fd
      unfold capsOf
      rw [e1]
      dsimp only
      rw [e2]
    rw [ecs] at h6
    have RL3 : RepL X.K CL μ3 H3 L σ := (RL.step st1).step st3
    have hp3 := (I3.pin (a, obj) (by simp)).1
    have cm : ∀ {y d}, (cloFrom X.env.cells lsc.names []).lookup y = some d → X.env.cells.lookup y = some d := fun {y d} e => by
      rcases cloFrom_mem (PySem.mem_of_lookup e) with hm | ⟨k1, k2⟩
      · cases hm
      · obtain ⟨c1, hc1⟩ := LS.has I.ok _ k1 rfl
        have hc1 : X.env.cells.lookup y = some c1 := hc1
        have e2 : d = c1 := by rw [k2, hc1] <;> rfl
        rw [e2]
        exact hc1
    have look : ∀ {y}, lsc.names.lookup y = some .free → ∃ d, (cloFrom X.env.cells lsc.names []).lookup y = some d := fun {y} hl => by
      have hy : (y, NameKind.free) ∈ lsc.names := PySem.mem_of_lookup hl
      exact mem_lookup (cloFrom_has (cells := X.env.cells) (acc := []) hy)
    have CO : ClOk prg c.gl (fun f1 i1 a1 c1 q1 vs1 => f1 = f0 ∧ i1 = i ∧ a1 = a ∧ c1 = c' ∧ q1 = X.env.qual ++ "<lambda>" ∧ vs1 = cs.map fun sl => (σ[sl]?).getD none) s3.heap H3 (frs X.stack) := by
      rintro f1 i1 a1 c1 q1 vs1 ⟨rfl, rfl, rfl, rfl, rfl, rfl⟩
      refine ⟨⟨ps, body, cloFrom X.env.cells lsc.names [], pm, ctv, inLam c lsc, cs, e, LK.lc, LK.ck, by rw [hp3, ← hobj]; rfl, LK.bnd, fun y d hd => ⟨I3.cell y d (cm hd), I3.freeC y d (cm hd)⟩, fun x y d e1 e2 => I.ok.inj x y d (cm e1) (cm e2), fun y hy => look hy, fun j sl v y q1 q2 q3 q4 => ?_⟩,
        (I3.pin (a1, obj) (by simp)).2.1, hnfr⟩
      rw [List.getElem?_map, q1] at q2
      have q2 : (σ[sl]?).getD none = some v := Option.some.inj q2
      have q5 : σ[sl]? = some (some v) := by
        cases z : σ[sl]? with
        | none => rw [z] at q2; cases q2
        | some o => rw [z] at q2; exact congrArg some q2
      have q3 : c.N[sl]? = some y := q3
      have fr : lsc.names.lookup y = some .free := by
        have q4 : Vis lsc y := q4
        rcases q4 with z | z | z
        · exact absurd rfl (LS.own _ (PySem.mem_of_lookup z)).1
        · exact absurd rfl (LS.own _ (PySem.mem_of_lookup z)).2
        · exact z
      have vX : X.env.scope.names.lookup y = some .cell ∨ X.env.scope.names.lookup y = some .free := LS.free _ (PySem.mem_of_lookup fr) rfl
      obtain ⟨m, hn, hl⟩ := I3.loc
      obtain ⟨u, ru, lk⟩ := hl sl y v (by rw [hN]; exact q3) q5 (vX.elim (fun z => .inr (.inl z)) fun z => .inr (.inr z))
      rcases lk with ⟨z, _⟩ | ⟨_, d, e1, e2⟩
      · have z : X.env.scope.names.lookup y = some .local := z
        rcases vX with k2 | k2 <;> rw [k2] at z <;> cases z
      · obtain ⟨d2, e3⟩ := look fr
        have := cm e3
        rw [e1] at this
        cases this
        exact ⟨d, u, e3, e2, ru⟩
    exact clo_run h4 hr h3 tk hlen I3 (.cons (show RelV (V.ref a) (Value.ref a) from rfl) r3) CO R3 (RepAs.cons (.clo ⟨rfl, rfl, rfl, rfl, rfl, rfl⟩ (st3.exts _ _ hco) (restrict_rep RL3 cs)) rs) h6 fun u s' ⟨v, H', I', rv, q⟩ => ⟨v, H', pins_of' I', rv, q⟩
theorem pass_rule (hP : X.prog = P) (hw : X.w = w) (hK : X.K = K) (hmg : X.mg = mg) (hbase : X.base = base) (hr : Room k X.A) (tk : L2N.Takes X W) (hst : X.stack = X.env :: X.outer) (hf : X.env.frame = some X.env.locals) (hex : X.ex = []) (C : ClOk prg c.gl CL X.s_0.heap X.H_0 X.fs)
    {O : Orc} (F : CfF P w K mg base G prg c.gl O k) : PassRule G O c X W CL := by
  subst hP hw hK hmg hbase
  intro f i x y p py pos l fs hfn hg hok hN hv hoky hpl hA
  obtain ⟨ag, fd, pss, h1, h2, h3, hlen, h4⟩ := F.fns f x hfn
  obtain ⟨d1, d2, d3⟩ := okN_dbg hoky
  refine ⟨fun pins s σ H Q I h => ?_⟩
  obtain ⟨μ, L, S, R, RL, h⟩ := h
  dsimp only at h
  rw [bd_assoc] at h
  obtain ⟨d, hd, ra⟩ : ∃ d, getC L i = some d ∧ LA X.K G CLF (rrD X.K CLF) W μ S (bd (bd (fs L) fun ds => Sim.ok (d :: ds)) fun ds => O.call f ds) σ H Q := by
    cases e : getC L i with
    | none =>
      rw [e] at h
      exact (LA.stk h).elim
    | some d =>
      rw [e] at h
      exact ⟨d, rfl, h⟩
  rw [bd_assoc] at ra
  obtain ⟨fc, j, caps, rfl, hL⟩ : ∃ fc j caps, d = .clo fc j caps ∧ getL L i = some (.clo fc j caps) := by
    unfold getC at hd
    split at hd
    · rename_i fc j caps e
      cases hd
      exact ⟨fc, j, caps, rfl, e⟩
    · cases hd
  obtain ⟨v, hs, rv⟩ := RL.get hL
  refine wpAny_Call_Name_kw (ld_glob I hg h1 ?_ (okN_dbg hok).1)
  refine PySem.W.callWith_K (h₀ := X.base) I.ok.mod.kin h2 ?_ (by rfl) (star_any pos hpl)
  show wpAny _ _ (spliced ((false, eval (.Name y py) X.env) :: backTo pos (starEach l X.env))) _ _ s
  refine Calls.spliced_cons (thn ((pe_var (pos := py) hN hv d1 d2).run pins s σ H (fun v' H1 => v' = v ∧ H1 = H) I ⟨v, hs, rfl, rfl⟩) fun u s1 ⟨v', H1, I1, r1, e1, e2⟩ => ?_)
  subst e1
  rw [e2] at I1
  have hargs : LAs X.K G CL W fs σ H fun vs H3 => ∃ μ3 S3 ds, Step μ H μ3 H3 ∧ RelG X.K G CLF μ3 S3 H3 ∧ Reps X.K CLF μ3 H3 ds vs ∧ LA X.K G CLF (rrD X.K CLF) W μ3 S3 (bd (Sim.ok (.clo fc j caps :: ds)) fun ds => O.call f ds) σ H3 Q :=
    ⟨μ, L, S, R, RL, LA.bd (RR := rrA X.K CLF) ra⟩
  refine thn (hA.run pos _ s1 σ H _ I1 hargs) fun us s3 ⟨vs, H3, I3, r3, μ3, S3, ds, st3, R3, rs, h6⟩ => ⟨I3.kIn, ?_⟩
  have h6 : LA X.K G CLF (rrD X.K CLF) W μ3 S3 (O.call f (.clo fc j caps :: ds)) σ H3 Q := h6
  exact clo_run h4 hr h3 tk hlen I3 (.cons r1 r3) (C.later I3 hst hf hex) R3 (RepAs.cons (rv.step st3) rs) h6 fun u s' q => q
/-- a def that is handed a closure and hands it on -/
theorem cdef_sound {f : Nat} {fd : Fd} {a : Addr} {name qual : Str} {params : Arguments} {body : List Stmt} {dV kV doc pm cdv ct oc : Value} {an od : Option Addr} {osl : Array (Option Value)} {ps : List Str} (hP : prg f = some fd)
    (lk : K.lookup a = some ⟨oc, od, .func (PySem.W.fnOf name qual params body c.sc dV kV doc pm an cdv ct), osl⟩) (hcd : PySem.W.codeIn K cdv qual = true) (hS : fnScopeB c.N ps c.sc = true) (hN : c.N.length = fd.nl) (hps : ps.length = fd.np) (hck : chkSs c fd.body body = true) (hchk : ∀ i ps body lsc, c.chkL i ps body lsc = false)
    (F : PgF P w K mg base G c.gl (orcN prg Wf n f) (n + 3)) (Fc : CfF P w K mg base G prg c.gl (orcN prg Wf n f) (n + 3)) (hr : RaiseAll P w K mg base G c) :
    CloFn P w K mg base G prg c.gl (n + 4) a (PySem.W.fnOf name qual params body c.sc dV kV doc pm an cdv ct) ps (callN prg Wf n f) := by
  have S := fnScopeB_ok hS
  refine ⟨fun A outer s H args us vs Q E CL hrm e0 hb r hl C hsp => ?_⟩
  refine run_ofS (N := c.N) lk hcd S hrm e0 hb r hl fun hr' => ?_
  have SO : StOk P w K mg base G (orcN prg Wf n f) (n + 3) c (cxOf (L2N.CX P w) P w K mg base c.N qual c.sc a cdv A outer s H E) (fun cls d _ H' => E cls d H') CL := {
    prog := rfl, w := rfl, K := rfl, mg := rfl, base := rfl, N := rfl, nd := S.nd, sc := rfl, calm := rfl, room := hr', fn := fun _ _ => rfl
    takes := L2N.takes_of rfl rfl rfl rfl
    lam := fun _ => fun _ i _ pp b l _ _ _ _ _ _ _ _ hc => by rw [hchk] at hc; cases hc
    pass := fun _ => pass_rule rfl rfl rfl rfl rfl hr' (L2N.takes_of rfl rfl rfl rfl) rfl rfl rfl C Fc
    kind := S.kind
    own := passes_of rfl
    raise := hr _ _ _ rfl rfl rfl rfl rfl rfl (hr'.mono (by omega)) }
  refine ⟨_, sndSs (Wf := Wf) fd.body SO F hck, ?_⟩
  obtain ⟨μ, St, ds, R, ra, rr, S', e, h⟩ := hsp
  obtain ⟨hlen, o, L, e1, ho⟩ := runDef_out hP e
  have rl : RepL K CL μ H (argsL fd.nl ds) (L2.start c.N vs) := by
    refine ⟨by unfold argsL L2.start; simp only [List.length_append, List.length_map, List.length_replicate]; rw [ra.1, hN], fun i d h => ?_⟩
    unfold argsL at h
    unfold L2.start
    by_cases hi : i < ds.length
    · rw [List.getElem?_append_left (by rw [List.length_map]; exact hi), List.getElem?_map] at h
      cases e : ds[i]? with
      | none => rw [e] at h; cases h
      | some x =>
        rw [e] at h
        cases h
        obtain ⟨v, h1, h2⟩ := ra.2 i d e
        refine ⟨v, ?_, h2⟩
        rw [List.getElem?_append_left (by rw [List.length_map, ← ra.1]; exact hi), List.getElem?_map, h1]
        rfl
    · rw [List.getElem?_append_right (by rw [List.length_map]; omega), List.getElem?_replicate] at h
      split at h <;> cases h
  refine ⟨μ, _, St, R, rl, o, L, S', e1, ?_⟩
  cases o with
  | nx => cases ho; exact fun μ' H' σ' s1 R1 _ => h μ' H' .non s1 R1 .non
  | ret d => cases ho; exact h
  | exc x => cases ho; exact fun μ' H' dx σ' s1 R1 _ rx => h μ' H' dx s1 R1 rx
  | bk => exact ho.elim
  | ct => exact ho.elim
end
end Sim
set_option Elab.async false
set_option linter.all false
set_option autoImplicit false
set_option maxRecDepth 100000
set_option maxHeartbeats 2000000
/-! Sim1v: where an exception is handled: isinstance of it, lists walked, comprehensions. -/
namespace Sim
open PySem PySem.Spec PyProof.Rows L2
open PySem.W (KitX InstAt clsIn findIn specialIn takesIn hasDictIn mroIn subIn findObj any_some looks_findIn looks_find looks_subIn check_slot class_get)
section
variable {prog : Program} {w : World} {A : Around} {E : Value → Shared → Prop} {s : Shared} {K : PySem.W.Frag} {x D : Addr} {ox : Obj} {od : Option Obj}
theorem findObj_dataD {C : Addr} {name : Str} {a g : Value} (hc : (clsIn K C).isSome = true) (ha : findIn K (.ref C) name = some (some a)) (hg : specialIn K a "__get__" = some (some g)) (ht : takesIn K a = some true) : findObj K C od name = some (.bind g a) := by
  obtain ⟨cd, hc⟩ := Option.isSome_iff_exists.mp hc
  unfold findObj
  rw [hc, Option.bind_some, ha, Option.bind_some]
  simp [hg, ht]
theorem kin_classD {Q : Option Value → Shared → Prop} (hga : findIn K (.ref D) "__getattribute__" = some (some (.builtin "BaseException.__getattribute__"))) (hgt : findIn K (.ref D) "__getattr__" = some none) (hsub : subIn K (.ref D) (.type "BaseException") = some true)
    (hdct : hasDictIn K D = true) (ha : findIn K (.ref D) "__class__" = some (some (.builtin "object.__class__")))
    (hn : specialIn K (.builtin "object.__class__") "__get__" = some (some (.builtin "getset_descriptor.__get__"))) (htk : takesIn K (.builtin "object.__class__") = some true) (hm : mroIn K D (.type "object") = some true)
    (X : K.In s.heap) (I : InstAt s.heap x ox D od) (h : Q (some (.ref D)) { s with toks := s.toks + 1 }) : wpAny (model prog w) A (getAttr? (.ref x) "__class__") Q E s := by
  have hf : findObj K D od "__class__" = some (.bind (.builtin "getset_descriptor.__get__") (.builtin "object.__class__")) := findObj_dataD (by obtain ⟨cd, hc, _⟩ := any_some hdct; rw [hc]; rfl) ha hn htk
  obtain ⟨hp, g, d, t, os⟩ := s
  have L0 := I.type (M := model prog w)
  have L1 := looks_findIn (M := model prog w) X hga
  have L2 := looks_findIn (M := model prog w) X hgt
  have L3 := looks_find (M := model prog w) X I hf
  have sub : PySem.W.Looks (model prog w) hp (isInstance (.ref x) (.type "BaseException")) true := L0.andThen (looks_subIn X hsub)
  have hx0 : (false && onTheHeap (Value.builtin "BaseException.__getattribute__")) = false := rfl
  have hx2 : (Value.builtin "BaseException.__getattribute__" == Value.builtin "object.__getattribute__") = false := by decide +kernel
  have hx1 : (onTheHeap (Value.ref D) && Value.builtin "BaseException.__getattribute__" == Value.builtin "object.__getattribute__") = false := by rw [hx2]; rfl
  unfold getAttr? getAttrBy? getAttrBy
  refine wpAny_bind (wpAny_mkText (wpAny_bind (wpAny_attempt (wpAny_holding (wpAny_bind (L0.at (wpAny_bind (L1.at ?_))))))))
  show wpAny _ _ (if (onTheHeap (Value.ref D) && Value.builtin "BaseException.__getattribute__" == Value.builtin "object.__getattribute__") = true then _ else _) _ _ _
  rw [hx1, if_neg Bool.false_ne_true]
  unfold getAttrByItsOwn hookBefore
  refine wpAny_bind ?_
  rw [if_pos (show onTheHeap (Value.ref D) = true from rfl)]
  refine L2.at ?_
  refine wpAny_bind (wpAny_attempt (wpAny_holding ?_))
  unfold callGetattribute
  rw [hx0, if_neg Bool.false_ne_true]
  unfold boundAndCalled
  rw [PySem.F.excAttr_ValueError.ga.bind (.ref x)]
  refine wpAny_bind (wpAny_pure ?_)
  show wpAny _ _ (call (.builtin "BaseException.__getattribute__") [.ref x, .str "__class__" t]) _ _ _
  refine wpAny_call (codeAny_call_builtin PySem.F.excAttr_ValueError.ga.plain PySem.F.entry_bexc_ga ?_)
  refine @check_slot (model prog w) _ _ ⟨hp, g, d, t + 1, os⟩ "BaseException.__getattribute__" "BaseException" "__getattribute__" (.ref x) [.str "__class__" t] [] _ (by decide +kernel) (by decide +kernel) sub (PySem.F.args_bexc_ga (.ref x) (.str "__class__" t)) ?_
  unfold Builtin.«object.__getattribute__»
  refine wpAny_bind (wpAny_of_eq (a := ((Value.ref x : Value), [Value.str "__class__" t])) (by first | rfl | (simp only [slotArgs]; rfl)) ?_)
  refine wpAny_bind (wpAny_pure (wpAny_bind (L0.at (wpAny_bind (L3.at ?_)))))
  show wpAny _ _ (holding [Value.builtin "object.__class__"] (call (.builtin "getset_descriptor.__get__") [.builtin "object.__class__", .ref x, .ref D]) >>= ret) _ _ _
  refine wpAny_bind (wpAny_holding (wpAny_call (class_get (s := ⟨hp, g, d, t + 1, os⟩) (ox := ox) (od := od) X I hm ?_)))
  refine wpAny_pure ?_
  show wpAny _ _ (handedOut (.ref D)) _ _ _
  rw [PySem.W.handedOut_of (v := .ref D) rfl]
  first
    | exact wpAny_pure (wpAny_pure h)
    | exact wpAny_pure h
    | exact wpAny_pure (wpAny_bind (wpAny_pure (wpAny_pure h)))
theorem kitx_excD (C : ExcC K D) : KitX K (.ref x) (.ref D) (fun h => InstAt h x ox D od) where
  ty := fun _ _ _ I => I.type
  it := fun _ _ X _ => by
    obtain ⟨cdD, hcD, _⟩ := any_some C.hd
    unfold clsIn at hcD
    split at hcD
    · rename_i c' d' cd' sl' ho
      intro A' Q' E' s' k q
      unfold isType loadHead
      exact wpAny_bind (wpAny_loadPart (k _ _ (X _ _ ho)) (wpAny_pure q))
    · cases hcD
  ne := fun h tp dd its n sl X htp => by
    obtain ⟨cdD, hcD, _⟩ := any_some C.hd
    refine Bool.eq_false_iff.mpr fun q => ?_
    have e : D = tp := Value.ref.inj (beq_iff_eq.mp q)
    subst e
    unfold clsIn at hcD
    split at hcD
    · rename_i c' d' cd' sl' ho
      have z := (X _ _ ho).symm.trans htp
      cases z
    · cases hcD
  ca := fun X I k => kin_classD C.hg C.hk C.hs C.hd C.ha C.hn C.ht C.hm X I k
end
/-- isinstance(e, c), e an exception that the context pins, its dict tracked -/
def rIsX (K : PySem.W.Frag) (D a dx : Addr) : List V → Hp → VK → Prop := fun xs H Q => ∃ (c : V) (cv : Value) (b : Bool) (fs : List (Str × V)), xs = [.ref a, c] ∧ (∀ u, RelV c u → u = cv) ∧ PySem.W.kitOne K (.ref D) cv = some b ∧ H dx = some (.xd fs) ∧ Q (.bl b) H
theorem call_isX {X : Cx} {a D dx : Addr} {oe : Obj} (C : ExcC X.K D) (hpn : (a, oe) ∈ X.pn) (hz : Zc (.ref D) (some dx) oe) (hf : ∃ vs, oe.data = .fields vs) : CallR X (.builtin "isinstance") (rIsX X.K D a dx) := by
  intro pins s σ H xs us Q I r h
  obtain ⟨c, cv, b, fs, rfl, hcv, e, hx, q⟩ := h
  cases r with
  | cons rx rr =>
    cases rr with
    | cons rt rr =>
      cases rr
      cases rx
      have ec := hcv _ rt
      subst ec
      obtain ⟨hget, _⟩ := I.pin (a, oe) (List.mem_append_left _ hpn)
      obtain ⟨vs, hv⟩ := hf
      obtain ⟨od, ho⟩ : ∃ o, s.heap.get? dx = some o := objOk_get (I.hok dx _ hx)
      have J : InstAt s.heap a oe D (some od) := by
        obtain ⟨oc, odd, oda, osl⟩ := oe
        obtain ⟨h1, h2⟩ := hz
        dsimp only at h1 h2 hv
        subst h1 h2 hv
        exact ⟨hget, rfl, rfl, ho⟩
      exact PySem.W.kia_one (kitx_excD C) I.kIn J e (fun z => nomatch z) fun tk => ⟨.bl b, H, I.kept (t' := tk) fun _ _ z => z, rfl, q⟩
/-! ### a list walked, a comprehension, while an exception is handled -/
section
variable {prog : Program} {w : World} {A : Around} {E : Value → Shared → Prop} {s : Shared}
theorem pyNext_list_end_hot {it l x1 : Addr} {i : Nat} {items : Array Value} {Q : Option Value → Shared → Prop} (hot : HotX.HotAt A x1 s.heap) (hit : s.heap.IsListIter it l i) (hl : s.heap.IsList l items) (hx : items[i]? = none) (hne : x1 ≠ it)
    (hQ : ∀ h', Heap.ExtBut it s.heap h' → Q none { s with heap := h' }) : wpAny (model prog w) A (pyNext (.ref it)) Q E s := by
  obtain ⟨o, ho, hc, hd⟩ := id hit
  obtain ⟨ol, hol, _, nl, hdl⟩ := hl
  obtain ⟨hh, o1, vs1, h1, d1, c1⟩ := hot
  unfold pyNext
  refine wpAny_bind (wpAny_attempt (wpAny_callSpecial?_slot (name := Str.ofString "__next__") hit.typeIs slot_listiter_next
    (wpAny_call_entry slot_listiter_next hit.typeIs entry_listiter_next ?_ (args_listiter_next _))))
  show wpAny _ _ (field (.ref it) 0 >>= _) _ _ s
  refine wpAny_bind (wpAny_field ho hd (x := .ref l) rfl ?_)
  show wpAny _ _ (if (Value.ref l == Value.none) = true then _ else _) _ _ s
  rw [if_neg (show ¬ ((Value.ref l == Value.none) = true) from Bool.false_ne_true)]
  show wpAny _ _ (field (.ref it) 1 >>= _) _ _ s
  refine wpAny_bind (wpAny_field ho hd (x := .int i 0) rfl ?_)
  show wpAny _ _ (seqItems? (.ref l) >>= _) _ _ s
  refine wpAny_bind (wpAny_seqItems hol hdl ?_)
  simp only [Int.toNat_natCast, hx]
  refine wpAny_bind (wpAny_rule (wpAny_bind (wpAny_setField ho hd (by simp) ?_)))
  show wpAny _ _ (newExc (.type "StopIteration") [] >>= _) _ _ _
  refine wpAny_bind ?_
  simp only [newExc, newTuple]
  refine wpAny_bind (wpAny_newObj_type ?_ (by size_fits))
  refine wpAny_bind (m := firstArgMember _ _) (wpAny_of_eq (a := Value.none) (by first | rfl | (simp only [firstArgMember]; rfl)) ?_)
  refine wpAny_newObj_type ?_ (by size_fits)
  have h1' := (Heap.get?_update_other s.heap (Obj.mapFields (·.setIfInBounds 0 Value.none)) (Ne.symm hne)).trans h1
  refine HotX.raiseNew_hot ⟨hh, o1, vs1, Heap.get?_push_of_some _ (Heap.get?_push_of_some _ h1'), d1, c1⟩ (Nat.ne_of_lt (Heap.lt_size (Heap.get?_push_of_some _ h1'))) (Heap.get?_push_size _ rfl) rfl (by first | (simp; done) | (simp; omega) | (simp only [Array.size_append]; simp; omega)) ?_
  refine wpAny_bind (wpAny_isInstance (T := "StopIteration") (b := true) ⟨_, Heap.get?_update_self _ (Heap.get?_push_size _ rfl) rfl, rfl⟩ isSubtype_stop ?_)
  refine wpAny_pure (hQ _ fun b o hb e => ?_)
  have e' := (Heap.get?_update_other s.heap (Obj.mapFields (·.setIfInBounds 0 Value.none)) (Ne.symm hb)).trans e
  rw [Heap.get?_update_other _ _ (Nat.ne_of_gt (Heap.lt_size (Heap.get?_push_of_some _ e')))]
  exact Heap.get?_push_of_some _ (Heap.get?_push_of_some _ e')
end
end Sim
set_option Elab.async false
set_option linter.all false
set_option autoImplicit false
set_option maxRecDepth 100000
set_option maxHeartbeats 2000000
/-! Sim1w: a list comprehension over a list where an exception is handled. -/
namespace Sim
open PySem PySem.Spec PyProof.Rows L2
/-- the handled exception is pinned, by the context or by the pins -/
def HotP (X : Cx) (pins : List (Addr × Obj)) : Prop := ∃ p : Addr × Obj, L2H.Hot1 X.A p ∧ p ∈ X.pn ++ pins
theorem HotP.at {X : Cx} {pins : List (Addr × Obj)} {σ : St} {H : Hp} {s : Shared} (c : HotP X pins) (I : Inv X pins σ H s) : ∃ p : Addr × Obj, p ∈ X.pn ++ pins ∧ HotX.HotAt X.A p.1 s.heap := by
  obtain ⟨p, ⟨hh, v1, e1, c1⟩, hp⟩ := c
  exact ⟨p, hp, hh, p.2, v1, (I.pin p hp).1, e1, c1⟩
structure TurnP (P : Program) (w : World) (K : PySem.W.Frag) (tg : Expr) (J : L2.It) (fp : List Addr) (it : Addr) (tn : Nat → Heap → Prop) : Prop where
  mem : it ∈ fp
  obj : ∀ i h, tn i h → ∀ b ∈ fp, ∃ o, h.get? b = some o ∧ ∀ v, o.data ≠ .cell v
  keep : ∀ i h h', tn i h → (∀ b ∈ fp, ∀ o, h.get? b = some o → h'.get? b = some o) → tn i h'
  item : ∀ (X : Cx), X.prog = P → X.w = w → X.K = K → ∀ (i : Nat) (pins : List (Addr × Obj)) (s : Shared) (σ : St) (H : Hp) (E : Value → Shared → Prop), HotP X pins → Inv X pins σ H s → (∀ b ∈ fp, FpOk X pins H b) → tn i s.heap → J.go i H →
    wpAny (model P w) X.A (pyNext (.ref it)) (fun r s1 => ∃ u, r = some u ∧
      wpAny (model P w) X.A (letOwnedTupleGo tg (.ref it) u) (fun _ s2 => ∃ x H', Inv X pins σ H' s2 ∧ RelV x u ∧ J.yld i H x H' ∧ tn (i + 1) s2.heap ∧ ∀ b ∈ fp, H' b = none) E s1) E s
  done : ∀ (X : Cx), X.prog = P → X.w = w → X.K = K → ∀ (i : Nat) (pins : List (Addr × Obj)) (s : Shared) (σ : St) (H : Hp) (E : Value → Shared → Prop), HotP X pins → Inv X pins σ H s → (∀ b ∈ fp, FpOk X pins H b) → tn i s.heap → J.stop i H →
    wpAny (model P w) X.A (pyNext (.ref it)) (fun r s1 => r = none ∧ Inv X pins σ H s1) E s
  self : ∀ (A : Around) (i : Nat) (s : Shared) (Q : Value → Shared → Prop) (E : Value → Shared → Prop), tn i s.heap → Q (.ref it) s → wpAny (model P w) A (pyIter (.ref it)) Q E s
theorem turn_listP {P : Program} {w : World} {K : PySem.W.Frag} {tg : Expr} (a it : Addr) : TurnP P w K tg (Itl K a) [it] it (fun i h => h.IsListIter it a i) where
  mem := (turn_list (P := P) (w := w) (K := K) (tg := tg) a it).mem
  obj := (turn_list (P := P) (w := w) (K := K) (tg := tg) a it).obj
  keep := (turn_list (P := P) (w := w) (K := K) (tg := tg) a it).keep
  item := by
    intro X hP hw hK i pins s σ H E hc I hf st hg
    subst hP hw hK
    obtain ⟨xs, x, hq, hx⟩ := hg
    obtain ⟨its, rv, p, hz⟩ := I.list hq
    obtain ⟨u, hu, ru⟩ := rv.get hx
    obtain ⟨f0, f1, f2, f3, f4, f5⟩ := hf it (by simp)
    refine wpAny_pyNext_list_item st p.isList (x := u) (by simpa using hu) fun h' st' sb => ?_
    have I1 : Inv X pins σ H { s with heap := h' } := I.turned (t' := s.toks) (fun b o hb e => (sb.2 b hb).trans e) f0 f1 f3 f4 f5
    obtain ⟨o, e, c, d⟩ := id st'
    exact ⟨u, rfl, go_of (s := { s with heap := h' }) e c d (by decide) ⟨x, H, I1, ru, ⟨rfl, fun ys hy => by rw [I.list_inj hy hq]; exact hx⟩, st', fun b hb => (hf b hb).1⟩⟩
  done := by
    intro X hP hw hK i pins s σ H E hc I hf st hg
    subst hP hw hK
    obtain ⟨xs, hq, hx⟩ := hg
    obtain ⟨its, rv, p, hz⟩ := I.list hq
    obtain ⟨f0, f1, f2, f3, f4, f5⟩ := hf it (by simp)
    have hl := rv.length
    obtain ⟨q, hqm, hot⟩ := hc.at I
    exact pyNext_list_end_hot hot st p.isList (by simp; omega) (f5 q hqm) fun h' eb => ⟨rfl, I.turned (t' := s.toks) (fun b o hb e => eb b o hb e) f0 f1 f3 f4 f5⟩
  self := fun _ _ _ _ _ st h => wpAny_pyIter_listiter st h
def PIEP (X : Cx) (pins : List (Addr × Obj)) (σ : St) (tg : Expr) (R : L2.It → Hp → Prop) (itv : Value) (s2 : Shared) : Prop :=
  ∃ (it : Addr) (fp : List Addr) (tn : Nat → Heap → Prop) (J : L2.It) (H' : Hp), itv = .ref it ∧ Inv X pins σ H' s2 ∧ TurnP X.prog X.w X.K tg J fp it tn ∧ tn 0 s2.heap ∧ (∀ b ∈ fp, FpOk X pins H' b) ∧ R J H'
structure PIP (X : Cx) (tg iter : Expr) (wi : TI) : Prop where
  run : ∀ (pins : List (Addr × Obj)) (s : Shared) (σ : St) (H : Hp) (R : L2.It → Hp → Prop), Inv X pins σ H s → wi σ H R →
    wpAny (model X.prog X.w) X.A (eval iter X.env) (fun v s1 => wpAny (model X.prog X.w) X.A (pyIter v) (PIEP X pins σ tg R) X.xe s1) X.xe s
section
variable {X : Cx} {tg : Expr}
theorem pip_list {l : Expr} {tl : TE} (hl : PE X l tl) : PIP X tg l (iList X.K tl) := by
  refine ⟨fun pins s σ H R I h => ?_⟩
  refine thn (hl.run pins s σ H _ I h) fun v s1 ⟨x, H1, I1, r1, q1⟩ => ?_
  obtain ⟨a, e, ⟨xs, hq⟩, q⟩ := q1
  subst e
  cases r1
  obtain ⟨its, rv, p, hz⟩ := I1.list hq
  refine wpAny_pyIter_list p.isList ?_
  refine ⟨s1.heap.objs.size, [s1.heap.objs.size], _, _, H1, rfl, I1.kept (t' := s1.toks) fun b o e => Heap.get?_push_of_some _ e, turn_listP a _, ⟨_, Heap.get?_push_size _ rfl, rfl, rfl⟩, fun b hb => ?_, q⟩
  have e : b = s1.heap.objs.size := by simpa using hb
  subst e
  exact I1.fpOk (Nat.le_refl _) (I1.hok.fresh (Nat.le_refl _))
end
section
variable {X : Cx}
theorem lc_coreP {pins : List (Addr × Obj)} {s : Shared} {σ : St} {H : Hp} {Q : VK} {elt tg iter : Expr} {ifs : List Expr} {scope : Scope} {own : List (Str × Nat)} {pos pos' : Pos} {wi : TI} {g : TG} {tt : TT} {te : TE} {use : Option (Value → Sem Unit)} {Qf : Value → Shared → Prop}
    (hc : L2H.HotC X) (hN : X.N.Nodup) (I : Inv X pins σ H s) (hi : PIP X tg iter wi) (ok : BlkOk X.N X.env.scope scope own)
    (hg : ∀ (s : Shared) (H : Hp) (C : Addr) (cl : List (Str × Addr)) (fp : List Addr), PG (X.blk s H scope (compEnvC scope cl C X.env) fp) tg g) (ht : ∀ (s : Shared) (H : Hp) (C : Addr) (cl : List (Str × Addr)) (fp : List Addr), PTs (X.blk s H scope (compEnvC scope cl C X.env) fp) ifs tt)
    (he : ∀ (s : Shared) (H : Hp) (C : Addr) (cl : List (Str × Addr)) (fp : List Addr), PE (X.blk s H scope (compEnvC scope cl C X.env) fp) elt te) (hs : ∀ x, foldedSetIterable iter X.env x = pure x)
    (h : tLc wi g tt te (own.map (·.2)) σ H Q)
    (hRR : ∀ D C s' m H', Inv X pins σ H' s' → Q (.ref D) H' → s'.heap.Ns C m → FpOk X pins H' C → compPost (model X.prog X.w) X.A X.xe use Qf (.ref D) C (.ok .next) s') :
    wpAny (model X.prog X.w) X.A (comprehension (.ListComp elt [⟨tg, iter, ifs, 0⟩] scope pos) scope X.env pos' (newList []) false (eval iter X.env) use) Qf X.xe s := by
  have hfree : ∀ y ∈ scope.names, y.2 = .free → ∃ c, X.env.cells.lookup y.1 = some c := fun y hy e => by
    rcases ok.free y hy e with k | k
    · exact I.ok.has _ (.inl k)
    · exact I.ok.has _ (.inr k)
  refine wpAny_comprehension_free (use := use) rfl hs (closure_ok hfree) ok.kind (fun y hy e => by rw [ok.uniq y hy, e])
    (thn (hi.run pins s σ H _ I h) fun xv s1 hx => thn hx fun itv s2 h2 => ?_)
  obtain ⟨it, fp, tn, J, H2, e, I2, T, st2, f2, q⟩ := h2
  subst e
  refine wpAny_newObj_type (newEnv_comp ?_) (by show 0 ≤ sizeLine; decide)
  generalize hD : s2.heap.objs.size = D
  have hDn : H2 D = none := I2.hok.fresh (Nat.le_of_eq hD)
  obtain ⟨W, ⟨m0, w0⟩, turn⟩ := q D hDn
  -- the new list
  generalize hs3 : ({ s2 with heap := s2.heap.push { cls := .type "list", data := .seq ([] : List Value).toArray } } : Shared) = s3
  have I3 : Inv X pins σ (upd H2 D (.lst [])) s3 := by
    rw [← hs3]
    refine I2.laid (t' := s2.toks) (fun b o e => Heap.get?_push_of_some _ e) (Nat.le_of_eq hD) ⟨Nat.zero_le _, [], 0, .nil, ?_⟩
    rw [← hD]
    exact Heap.get?_push_size _ rfl
  have h3 : s3.heap = s2.heap.push { cls := .type "list", data := .seq ([] : List Value).toArray } := by rw [← hs3]
  have sz : ∀ b ∈ fp, b < s2.heap.objs.size := fun b hb => by
    obtain ⟨o, e, _⟩ := T.obj _ _ st2 b hb
    exact Heap.lt_size e
  have f3 : ∀ b ∈ fp, FpOk X pins (upd H2 D (.lst [])) b ∧ b < s3.heap.objs.size := fun b hb => by
    have hlt := sz b hb
    refine ⟨⟨?_, (f2 b hb).2⟩, by rw [h3, Heap.size_push]; exact Nat.lt_succ_of_lt hlt⟩
    rw [upd_ne (by rw [← hD]; exact Nat.ne_of_lt hlt)]
    exact (f2 b hb).1
  have st3 : tn 0 s3.heap := T.keep _ _ _ st2 fun b _ o e => by rw [h3]; exact Heap.get?_push_of_some _ e
  obtain ⟨p, hot, hpm⟩ := hc
  have P3 := I3.pin p (List.mem_append_left _ hpm)
  have I4 := block_start I3 ok hN f3
  have I4 := I4.pins_of (pins' := [p]) fun q hq => by
    have eq : q = p := by simpa using hq
    rw [eq]
    exact ⟨pushCells_keeps _ _ _ _ (Heap.get?_push_of_some _ P3.1), P3.2.1, Nat.ne_of_lt (Heap.lt_size P3.1), fun hm => (List.mem_cons.mp (I3.stkSub p.1 hm)).elim P3.2.2.1 P3.2.2.2.1, P3.2.2.2.2⟩
  have pg := hg s3 (upd H2 D (.lst [])) s3.heap.objs.size (cellsFrom (s3.heap.objs.size + 1) scope.names (cloFrom X.env.cells scope.names [])) fp
  have pt := ht s3 (upd H2 D (.lst [])) s3.heap.objs.size (cellsFrom (s3.heap.objs.size + 1) scope.names (cloFrom X.env.cells scope.names [])) fp
  have pe := he s3 (upd H2 D (.lst [])) s3.heap.objs.size (cellsFrom (s3.heap.objs.size + 1) scope.names (cloFrom X.env.cells scope.names [])) fp
  show codeAny _ _ (.compStart (.ListComp elt [⟨tg, iter, ifs, 0⟩] scope pos) 0 (.ref it) (.ref D) (compEnvC scope (cellsFrom (s3.heap.objs.size + 1) scope.names (cloFrom X.env.cells scope.names [])) s3.heap.objs.size X.env)) (compPost (model X.prog X.w) X.A X.xe use Qf (.ref D) s3.heap.objs.size) { s3 with heap := pushCells (s3.heap.push { cls := .type "dict", data := .dict #[] }) scope.names }
  have nfp : ∀ b ∈ fp, (upd H2 D (.lst [])) b = none := fun b hb => (f3 b hb).1.1
  generalize hce : compEnvC scope (cellsFrom (s3.heap.objs.size + 1) scope.names (cloFrom X.env.cells scope.names [])) s3.heap.objs.size X.env = ce at I4 pg pt pe ⊢
  have cL : ce.locals = s3.heap.objs.size := by subst hce; rfl
  generalize hH3 : upd H2 D (.lst []) = H3 at I3 I4 pg pt pe w0 nfp f3
  generalize hs4 : ({ s3 with heap := pushCells (s3.heap.push { cls := .type "dict", data := .dict #[] }) scope.names } : Shared) = s4 at I4 ⊢
  have st4 : tn 0 s4.heap := T.keep _ _ _ st3 fun b _ o e => by rw [← hs4]; exact pushCells_keeps _ _ _ _ (Heap.get?_push_of_some _ e)
  have stat : ∀ {σ' : St} {H' : Hp} {s' : Shared}, Inv (X.blk s3 H3 scope ce fp) [p] σ' H' s' → (∀ b ∈ fp, H' b = none) → ∀ b ∈ fp, FpOk (X.blk s3 H3 scope ce fp) [p] H' b := fun {σ' H' s'} I' hn b hb =>
    ⟨hn b hb, (I'.ok.exf b hb).1, I'.ok.exfs b hb, .inl hb, fun x c e => (I'.ok.exf b hb).2 x c e, fun q hq => by
      have eq : q = p := by simpa using (show q ∈ ([] : List (Addr × Obj)) ++ [p] from hq)
      rw [eq]
      exact (f3 b hb).1.2.2.2.2.2 p (List.mem_append_left _ hpm)⟩
  have hpP : HotP (X.blk s3 H3 scope ce fp) [p] := ⟨p, hot, by simp⟩
  have loop : codeAny (model X.prog X.w) X.A (.compLoop (.ListComp elt [⟨tg, iter, ifs, 0⟩] scope pos) 0 (.ref it) (.ref D) ce) (compPost (model X.prog X.w) X.A X.xe use Qf (.ref D) s3.heap.objs.size) s4 := by
    refine compLoop_any (fun n s' => ∃ i H', Inv (X.blk s3 H3 scope ce fp) [p] (wipe σ (own.map (·.2))) H' s' ∧ tn i s'.heap ∧ (∀ b ∈ fp, H' b = none) ∧ W i n H') ?_ m0 ⟨0, H3, I4, st4, nfp, w0⟩
    rintro n s5 ⟨i, H5, I5, st5, n5, w5⟩
    rcases turn i n H5 w5 with ⟨stop, qq⟩ | ⟨go, Nx, hNx, step⟩
    · have td := T.done (X.blk s3 H3 scope ce fp) rfl rfl rfl i [p] s5 _ H5 (fun _ _ => False) hpP I5 (stat I5 n5) st5 stop
      refine thnF td fun r s6 ⟨hr, I6⟩ => ?_
      subst hr
      -- back in the def's context
      have I7 : Inv X pins σ H5 s6 := I3.call' (ch := fp) I6.os I6.base I6.hok I6.bare fun b hb => ⟨(f3 b hb).1.2.2.2.1, (f3 b hb).1.2.1, (f3 b hb).1.2.2.2.2.1, (f3 b hb).1.2.2.2.2.2⟩
      have nC : H5 s3.heap.objs.size = none := by
        have z : H5 ce.locals = none := I6.free
        rw [cL] at z
        exact z
      obtain ⟨m, hn, _⟩ := I6.loc
      have hn : s6.heap.Ns ce.locals m := hn
      rw [cL] at hn
      exact hRR D s3.heap.objs.size s6 m H5 I7 qq hn (I3.fpOk (Nat.le_refl _) nC)
    · have ti := T.item (X.blk s3 H3 scope ce fp) rfl rfl rfl i [p] s5 _ H5 (fun _ _ => False) hpP I5 (stat I5 n5) st5 go
      refine thnF ti fun r s6 ⟨u, hr, h6⟩ => ?_
      subst hr
      refine thnF h6 fun _ s7 ⟨x, H7, I7, r7, y7, st7, n7⟩ => ?_
      have I7' := I7.pinned (stat I7 n7) (T.obj _ _ st7)
      refine thnF (pg.run _ s7 _ H7 x u _ I7' r7 (step x H7 y7)) fun _ s8 ⟨σ8, H8, I8, hw8, q8⟩ => ?_
      refine thnF (pt.run _ s8 σ8 H8 _ I8 q8) fun b s9 ⟨H9, I9, q9⟩ => ?_
      -- the turn's end
      have fin : ∀ {s' : Shared} {H' : Hp}, Inv (X.blk s3 H3 scope ce fp) ([p] ++ pinsAt fp s7.heap) σ8 H' s' → Nx H' → ∃ m, m < n ∧ ∃ i H', Inv (X.blk s3 H3 scope ce fp) [p] (wipe σ (own.map (·.2))) H' s' ∧ tn i s'.heap ∧ (∀ b ∈ fp, H' b = none) ∧ W i m H' := fun {s' H'} I' nx => by
        obtain ⟨m', hm, w'⟩ := hNx H' nx
        have pin' : ∀ b ∈ fp, ∀ o, s7.heap.get? b = some o → s'.heap.get? b = some o ∧ H' b = none := fun b hb o e =>
          let z := I'.pin (b, o) (List.mem_append_right _ (List.mem_append_right _ (mem_pinsAt hb e)))
          ⟨z.1, z.2.1⟩
        have hl : (wipe σ (own.map (·.2))).length = σ8.length := by rw [← hw8, wipe_length]
        refine ⟨m', hm, i + 1, H', (I'.unpinned (pins := [p])).weak hl (fun j v e => ?_), T.keep _ _ _ st7 fun b hb o e => (pin' b hb o e).1, fun b hb => ?_, w'⟩
        · rw [← hw8] at e
          exact (wipe_some e).1
        · obtain ⟨o, e, _⟩ := T.obj _ _ st7 b hb
          exact (pin' b hb o e).2
      cases b with
      | false =>
        simp only [Bool.false_eq_true, if_false] at q9 ⊢
        exact fin I9 q9
      | true =>
        simp only [if_true] at q9 ⊢
        refine thnF (pe.run _ s9 σ8 H9 _ I9 q9) fun z s10 ⟨yv, H10, I10, r10, acc, hD10, hz10, nx⟩ => ?_
        exact app_ok (X := X.blk s3 H3 scope ce fp) I10 hD10 hz10 r10 fun s11 I11 => fin I11 nx
  exact codeAny_compStart_list loop (T.self X.A 0 _ _ _ st4 loop)
theorem pe_lcP {elt tg iter : Expr} {ifs : List Expr} {scope : Scope} {own : List (Str × Nat)} {pos : Pos} {wi : TI} {g : TG} {tt : TT} {te : TE} (hc : L2H.HotC X) (hN : X.N.Nodup) (hi : PIP X tg iter wi) (ok : BlkOk X.N X.env.scope scope own)
    (hg : ∀ (s : Shared) (H : Hp) (C : Addr) (cl : List (Str × Addr)) (fp : List Addr), PG (X.blk s H scope (compEnvC scope cl C X.env) fp) tg g) (ht : ∀ (s : Shared) (H : Hp) (C : Addr) (cl : List (Str × Addr)) (fp : List Addr), PTs (X.blk s H scope (compEnvC scope cl C X.env) fp) ifs tt)
    (he : ∀ (s : Shared) (H : Hp) (C : Addr) (cl : List (Str × Addr)) (fp : List Addr), PE (X.blk s H scope (compEnvC scope cl C X.env) fp) elt te) (hs : ∀ x, foldedSetIterable iter X.env x = pure x := by intro _; rfl) :
    PE X (.ListComp elt [⟨tg, iter, ifs, 0⟩] scope pos) (tLc wi g tt te (own.map (·.2))) := by
  refine ⟨fun pins s σ H Q I h => ?_⟩
  rw [eval_ListComp]
  refine lc_coreP hc hN I hi ok hg ht he hs h fun D C s' m H' I' q hn f => ⟨m, hn, fun h'' sb => ?_⟩
  obtain ⟨f0, f1, f2, f3, f4, f5⟩ := f
  exact ⟨.ref D, H', I'.turned (t' := s'.toks) (fun b o hb e => (sb.2 b hb).trans e) f0 f1 f3 f4 f5, rfl, q⟩
end
end Sim
set_option Elab.async false
set_option linter.all false
set_option autoImplicit false
set_option maxRecDepth 100000
set_option maxHeartbeats 2000000
/-! Sim1x: the def that tells which classes an exception has, called while it is handled. -/
namespace Sim
open PySem PySem.Spec PyProof.Rows L2
/-- what is tracked stays -/
def ExtH (H H' : Hp) : Prop := ∀ b v, H b = some v → H' b = some v
theorem ExtH.refl (H : Hp) : ExtH H H := fun _ _ h => h
theorem ExtH.trans {H H1 H2 : Hp} (a : ExtH H H1) (b : ExtH H1 H2) : ExtH H H2 := fun c v h => b c v (a c v h)
theorem ExtH.new {H : Hp} {p : Addr} {o : HO} (h : H p = none) : ExtH H (upd H p o) := fun b v e => by
  rw [upd_ne (fun z => by rw [z, h] at e; cases e)]
  exact e
theorem Rd_ext {H H' : Hp} {a : Addr} {u : HO} (r : Rd H a u) (e : ExtH H H') : Rd H' a u := by
  rcases r with r | ⟨o, r⟩
  · exact .inl (e _ _ r)
  · exact .inr ⟨o, e _ _ r⟩
theorem SqT_ext {K : PySem.W.Frag} {H H' : Hp} {a : Addr} {xs : List V} (r : SqT K H a xs) (e : ExtH H H') : SqT K H' a xs := by
  rcases r with r | r
  · exact .inl (Rd_ext r e)
  · exact .inr r
/-- pairs of a name and a truth -/
def EntR (K : PySem.W.Frag) (H : Hp) : List (Str × Bool) → List V → Prop
  | [], [] => True
  | (n, b) :: bs, x :: xs => (∃ t, x = .ref t ∧ SqT K H t [.str n, .bl b]) ∧ EntR K H bs xs
  | _, _ => False
theorem EntR.ext {K : PySem.W.Frag} {H H' : Hp} (e : ExtH H H') : ∀ {bs : List (Str × Bool)} {xs : List V}, EntR K H bs xs → EntR K H' bs xs
  | [], [], _ => trivial
  | (n, b) :: bs, x :: xs, ⟨⟨t, h1, h2⟩, h⟩ => ⟨⟨t, h1, SqT_ext h2 e⟩, EntR.ext e h⟩
  | [], _ :: _, h => h.elim
  | _ :: _, [], h => h.elim
theorem EntR.len {K : PySem.W.Frag} {H : Hp} : ∀ {bs : List (Str × Bool)} {xs : List V}, EntR K H bs xs → bs.length = xs.length
  | [], [], _ => rfl
  | (n, b) :: bs, x :: xs, ⟨_, h⟩ => by rw [List.length_cons, List.length_cons, EntR.len h]
  | [], _ :: _, h => h.elim
  | _ :: _, [], h => h.elim
theorem EntR.get {K : PySem.W.Frag} {H : Hp} : ∀ {bs : List (Str × Bool)} {xs : List V} {i : Nat} {n : Str} {b : Bool}, EntR K H bs xs → bs[i]? = some (n, b) → ∃ t, xs[i]? = some (.ref t) ∧ SqT K H t [.str n, .bl b]
  | [], [], i, n, b, _, h => by simp at h
  | (n0, b0) :: bs, x :: xs, i, n, b, ⟨⟨t, h1, h2⟩, h⟩, e => by
    cases i with
    | zero =>
      simp at e
      obtain ⟨rfl, rfl⟩ := e
      exact ⟨t, by rw [h1]; rfl, h2⟩
    | succ i =>
      obtain ⟨t', g1, g2⟩ := EntR.get h (show bs[i]? = some (n, b) by simpa using e)
      exact ⟨t', by simpa using g1, g2⟩
  | [], _ :: _, _, _, _, h, _ => h.elim
  | _ :: _, [], _, _, _, h, _ => h.elim
/-- the written entries -/
inductive EntsI (K : PySem.W.Frag) (mg : Str → Option Value) (D : Addr) (sc : Scope) (x : Str) : List Expr → List (Str × Bool) → Prop
  | nil : EntsI K mg D sc x [] []
  | cons {n cn : Str} {cA : Addr} {b : Bool} {p1 p2 p3 p4 p5 p6 : Pos} {es : List Expr} {bs : List (Str × Bool)} (hm : mg cn = some (.ref cA)) (hk : PySem.W.kitOne K (.ref D) (.ref cA) = some b) (ho : okN cn = true) (hg : glB sc cn = true) (r : EntsI K mg D sc x es bs) :
    EntsI K mg D sc x (.Tuple [.Constant (.str n) 0 p1, .Call (.Name "isinstance" p2) [.Name x p3, .Name cn p4] [] p5] 0 p6 :: es) ((n, b) :: bs)
theorem EntsI.len {K : PySem.W.Frag} {mg : Str → Option Value} {D : Addr} {sc : Scope} {x : Str} {es : List Expr} {bs : List (Str × Bool)} (h : EntsI K mg D sc x es bs) : es.length = bs.length := by
  induction h with
  | nil => rfl
  | cons _ _ _ _ _ ih => rw [List.length_cons, List.length_cons, ih]
theorem EntsI.plain {K : PySem.W.Frag} {mg : Str → Option Value} {D : Addr} {sc : Scope} {x : Str} {es : List Expr} {bs : List (Str × Bool)} (h : EntsI K mg D sc x es bs) (env : Env) : True := trivial
section
variable {X : Cx} {D a dx : Addr} {oe : Obj} {i : Nat} {x : Str}
/-- what the entries' run wishes -/
def tEs (K : PySem.W.Frag) (a dx : Addr) (i : Nat) (bs : List (Str × Bool)) : TA := fun σ H Q => σ[i]? = some (some (.ref a)) ∧ (∃ fs, H dx = some (.xd fs)) ∧ ∀ H' xs, ExtH H H' → EntR K H' bs xs → Q xs H'
theorem pa_ents (C : ExcC X.K D) (hpn : (a, oe) ∈ X.pn) (hz : Zc (.ref D) (some dx) oe) (hf : ∃ vs, oe.data = .fields vs) (hN : X.N[i]? = some x) (hv : Vis X.env.scope x) (hx : okN x = true) (hgi : glB X.env.scope "isinstance" = true) (hmi : X.mg "isinstance" = none) {es : List Expr} {bs : List (Str × Bool)} (h : EntsI X.K X.mg D X.env.scope x es bs) :
    PA X es (tEs X.K a dx i bs) := by
  induction h with
  | nil => exact ⟨fun pos pins s σ H Q I ⟨h1, h2, h3⟩ => pa_nil.run pos pins s σ H Q I (h3 H [] (ExtH.refl H) trivial)⟩
  | @cons n cn cA b p1 p2 p3 p4 p5 p6 es bs hm hk ho hg r ih =>
    obtain ⟨d1, d2, d3⟩ := okN_dbg hx
    obtain ⟨e1, e2, e3⟩ := okN_dbg ho
    have pe := pe_tup (x1 := 0) (pos := p6) (pa_cons (pe_str (X := X) (x := n) (j := 0) (pos := p1)) (pa_cons (pe_callB (p := p2) (pos := p5) (call_isX C hpn hz hf) (glB_gl rfl hgi) hmi (by rfl) (pa_cons (pe_var (pos := p3) hN hv d1 d2) (pa_cons (pe_glob (pos := p4) (v := .ref cA) (glB_gl rfl hg) hm rfl e1) pa_nil))) pa_nil))
    refine ⟨fun pos pins s σ H Q I h => (pa_cons pe ih).run pos pins s σ H Q I ?_⟩
    obtain ⟨h1, ⟨fs, h2⟩, h3⟩ := h
    refine ⟨_, h1, .ref cA, .ref cA, b, fs, rfl, fun u hu => hu, hk, h2, (show (2 : Nat) ≤ sizeLine by decide), fun p hp => ?_⟩
    refine ⟨h1, ⟨fs, ExtH.new hp _ _ h2⟩, fun H' xs he hr => h3 H' _ ((ExtH.new hp).trans he) ⟨⟨p, rfl, SqT_ext (show SqT X.K (upd H p (.tup [.str n, .bl b])) p [.str n, .bl b] from .inl (.inl upd_same)) he⟩, hr⟩⟩
end
/-- a def's run, the handled exception given -/
theorem code_ofH {CX : CXT} {P : Program} {w : World} {K : PySem.W.Frag} {mg : Str → Option Value} {base : Heap} {k : Nat} {f : Addr} {name qual : Str} {params : Arguments} {body : List Stmt} {scope : Scope} {dV kV doc pm cdv ct oc : Value} {an od : Option Addr}
    {osl : Array (Option Value)} {N ps : List Str} (lk : K.lookup f = some ⟨oc, od, .func (PySem.W.fnOf name qual params body scope dV kV doc pm an cdv ct), osl⟩) (hcd : PySem.W.codeIn K cdv qual = true) (S : FnScope N ps scope)
    {A : Around} {outer : List Env} {s : Shared} {H : Hp} {args : Args} {us : List Value} {vs : List V} {Q : VK} {E : XK} {p : Addr × Obj} (hr : L2H.RoomH (k + 1) A) (hpin : L2H.PinOk outer H s p) (e0 : Env0 P w K mg base A outer s H)
    (hb : BindsTo s (PySem.W.fnOf name qual params body scope dV kV doc pm an cdv ct) args (ps.zip us)) (r : Vals vs us) (hl : vs.length = ps.length)
    (hbody : L2H.RoomH k (A.deeper (envOfC qual scope s.heap.objs.size f cdv)) → ∃ t, PSs (L2H.cxH CX P w K mg base N qual scope f cdv A outer s H E p) body t ∧ t { nx := fun _ H' => Q .non H', rt := Q } (L2.start N vs) H) :
    codeAny (model P w) A (.call (.ref f) args) (CR CX outer P w H s Q E) s := by
  have KX : K.In s.heap := e0.mod.kin.keeps fun b o e => (e0.bs b o e).1
  have lim : s.heap.NoLimit := e0.mod.nolimit.keeps fun b o e => (e0.bs b o e).1
  have hkind : ∀ y ∈ ps.zip us, scope.names.lookup y.1 = some .local ∨ (scope.names.lookup y.1 = some .cell ∧ ((cellsFrom (s.heap.objs.size + 1) scope.names []).lookup y.1).isSome = true) := fun ⟨n, v⟩ hy => by
    rcases S.par n (List.of_mem_zip hy).1 with q | q
    · exact .inl q
    · exact .inr ⟨q, PySem.W.cellsFrom_some _ _ _ (.inl q)⟩
  refine codeAny_call_function hr.depth (KX _ _ lk) rfl S.co S.gen rfl (PySem.W.codeRec_of KX hcd) (hb _ _ _ _ ?_)
  refine wpAny_newFunctionEnv_cells S.kind hkind fun env he s1 x => ?_
  subst he
  refine ⟨lim.keeps x.toInCall.keep, codeAny_func ?_⟩
  obtain ⟨t, ht, hq⟩ := hbody (hr.deeper _)
  have I := L2H.inv_startH (CX := CX) (E := E) S hpin e0 hl r x
  refine wpAny_mono (ht.run [] s1 (L2.start N vs) H _ I hq) (fun fl s' hs => ?_) fun e s' hs => hs
  have fin : ∀ {σ' : L2.St} {H' : Hp} {v : V} {u : Value}, Inv (L2H.cxH CX P w K mg base N qual scope f cdv A outer s H E p) [] σ' H' s' → RelV v u → Q v H' → CE outer P w H s Q u s' :=
    fun {σ' H' v u} J rv q => ⟨v, H', J.os, J.bare, J.base, J.hok, rv, q⟩
  cases fl with
  | ret u =>
    obtain ⟨v, σ', H', J, rv, q⟩ := hs
    exact fin J rv q
  | next =>
    obtain ⟨σ', H', J, q⟩ := hs
    exact fin (v := V.non) (u := Value.none) J rfl q
  | brk =>
    obtain ⟨_, _, _, q⟩ := hs
    exact False.elim q
  | cont =>
    obtain ⟨_, _, _, q⟩ := hs
    exact False.elim q
/-- facts of the def that tells the classes -/
structure ClsDef (K : PySem.W.Frag) (mg : Str → Option Value) (sc : Scope) (es : List Expr) (x : Str) (cf : Addr) (fd : FuncData) : Prop where
  fn : ∃ (name qual : Str) (params : Arguments) (dV kV doc pm cdv ct oc : Value) (an od : Option Addr) (osl : Array (Option Value)) (p1 p2 : Pos), fd = PySem.W.fnOf name qual params [.Return (some (.List es p1)) p2] sc dV kV doc pm an cdv ct ∧
    K.lookup cf = some ⟨oc, od, .func fd, osl⟩ ∧ PySem.W.codeIn K cdv qual = true
  fsc : FnScope [x] [x] sc
  vis : Vis sc x
  ok : okN x = true
  bnd : Binds K fd [x] []
  isi : glB sc "isinstance" = true
  isn : mg "isinstance" = none
  kp : PySem.W.keepIn K (.ref cf) = true
  few : es.length ≤ 1000
/-- the classes' list, called where the exception is handled -/
def tCl (K : PySem.W.Frag) (a dx : Addr) (i : Nat) (bs : List (Str × Bool)) : TE := fun σ H Q => σ[i]? = some (some (.ref a)) ∧ (∃ fs, H dx = some (.xd fs)) ∧ ∀ H' l xs, ExtH H H' → H' l = some (.lst xs) → EntR K H' bs xs → Q (.ref l) H'
theorem pe_classes {X : Cx} {D a dx cf : Addr} {oe : Obj} {k i : Nat} {x y cn : Str} {p q pos : Pos} {sc : Scope} {es : List Expr} {fd : FuncData} {bs : List (Str × Bool)} (F : ClsDef X.K X.mg sc es x cf fd) (E : EntsI X.K X.mg D sc x es bs) (C : ExcC X.K D) (hr : L2H.RoomH (k + 1) X.A) (hot : L2H.Hot1 X.A (a, oe)) (hpn : (a, oe) ∈ X.pn) (hz : Zc (.ref D) (some dx) oe) (hf : ∃ vs, oe.data = .fields vs)
    (hN : X.N[i]? = some y) (hv : Vis X.env.scope y) (hy : okN y = true) (hg : Gl X cn) (hm : X.mg cn = some (.ref cf)) (hcn : okN cn = true) : PE X (.Call (.Name cn p) [.Name y q] [] pos) (tCl X.K a dx i bs) := by
  obtain ⟨d1, d2, d3⟩ := okN_dbg hy
  obtain ⟨c1, c2, c3⟩ := okN_dbg hcn
  have hA := pa_cons (pe_var (pos := q) hN hv d1 d2) (pa_nil (X := X))
  refine ⟨fun pins s σ H Q I h => ?_⟩
  obtain ⟨h1, ⟨fs, h2⟩, h3⟩ := h
  refine wpAny_Call_Name_kw (ld_glob I hg hm ?_ c1)
  refine PySem.W.callWith_K (h₀ := X.base) I.ok.mod.kin F.kp (thn (hA.run pos pins s σ H (fun vs H1 => vs = [.ref a] ∧ H1 = H) I ⟨_, h1, rfl, rfl⟩) fun us s1 ⟨vs, H1, I1, r, e1, e2⟩ => ⟨I1.kIn, ?_⟩) (by rfl) (by rfl)
  subst e1
  rw [e2] at I1
  have hl : us.length = 1 := by rw [← r.length]; rfl
  have b := F.bnd s1 us I1.kIn (by rw [List.append_nil]; exact hl)
  rw [List.append_nil] at b
  have P1 := I1.pin (a, oe) (List.mem_append_left _ hpn)
  have hpin : L2H.PinOk X.stack H s1 (a, oe) := ⟨P1.1, P1.2.1, fun hm => (List.mem_cons.mp (I1.stkSub a hm)).elim P1.2.2.1 P1.2.2.2.1, P1.2.2.2.2⟩
  obtain ⟨name, qual, params, dV, kV, doc, pm, cdv, ct, oc, an, od, osl, p1, p2, efd, lk, hcd⟩ := F.fn
  subst efd
  refine wpAny_call (codeAny_mono (code_ofH (CX := fun _ _ _ _ _ _ => False) (N := [x]) (Q := Q) (E := fun _ _ _ => False) lk hcd F.fsc hr hpin I1.env0 b r rfl fun hr' => ?_) fun rr s' hq => ?_)
  · have hP := pa_ents (X := L2H.cxH (fun _ _ _ _ _ _ => False) X.prog X.w X.K X.mg X.base [x] qual sc cf cdv X.A X.stack s1 H (fun _ _ _ => False) (a, oe)) (i := 0) (x := x) (es := es) (bs := bs) C (List.mem_singleton.mpr rfl) hz hf rfl F.vis F.ok F.isi F.isn E
    refine ⟨_, pss_one (ps_ret (pe_lst hP)), ?_⟩
    refine ⟨rfl, ⟨fs, h2⟩, fun H' xs he hx => ⟨?_, fun l hl => h3 _ l xs (he.trans (ExtH.new hl)) upd_same (hx.ext (ExtH.new hl))⟩⟩
    rw [← hx.len, ← E.len]
    exact Nat.le_trans F.few (by decide)
  · cases rr with
    | error e => exact (show False from hq).elim
    | ok fl =>
      cases fl with
      | ret u => exact I1.after hq
      | next => exact False.elim hq
      | brk => exact False.elim hq
      | cont => exact False.elim hq
end Sim
set_option Elab.async false
set_option linter.all false
set_option autoImplicit false
set_option maxRecDepth 100000
set_option maxHeartbeats 2000000
/-! Sim1y: the def that hears a deed: what it tells, or the refusal's names. -/
namespace Sim
open PySem PySem.Spec PyProof.Rows L2 LamX
abbrev nmV (bs : List (Str × Bool)) : List V := ((bs.filter (·.2)).map (·.1)).map V.str
theorem nmV_take {bs : List (Str × Bool)} {i : Nat} {n : Str} {b : Bool} (h : bs[i]? = some (n, b)) : nmV (bs.take (i + 1)) = if b = true then nmV (bs.take i) ++ [.str n] else nmV (bs.take i) := by
  have e : bs.take (i + 1) = bs.take i ++ [(n, b)] := by rw [List.take_add_one, h]; rfl
  rw [e]
  unfold nmV
  rw [List.filter_append, List.map_append, List.map_append]
  cases b <;> simp
theorem nmV_le (bs : List (Str × Bool)) : (nmV bs).length ≤ bs.length := by
  unfold nmV
  rw [List.length_map, List.length_map]
  exact List.length_filter_le _ _
/-- the names of the classes that hold, as a list -/
def tNm (a dx : Addr) (bs : List (Str × Bool)) : TE := fun σ H Q => 2 < σ.length ∧ σ[1]? = some (some (.ref a)) ∧ (∃ fs, H dx = some (.xd fs)) ∧ ∀ H' l, ExtH H H' → H' l = some (.lst (nmV bs)) → Q (.ref l) H'
theorem pe_names {X : Cx} {a dx : Addr} {bs : List (Str × Bool)} {it : Expr} {ln : Str} {csc : Scope} {p1 p2 p3 p4 p5 p6 p7 pos : Pos} (hot : L2H.HotC X) (hu : X.A.units + 1 < cLine) (hnd : X.N.Nodup) (hN : X.N[2]? = some ln) (hl : okN ln = true) (hit : PE X it (tCl X.K a dx 1 bs)) (ok : BlkOk X.N X.env.scope csc [(ln, 2)])
    (hloc : (relS csc X.env.scope).names.lookup ln = some .local) (hs : ∀ x, foldedSetIterable it X.env x = pure x) (hb : bs.length ≤ 1000) :
    PE X (.ListComp (.Subscript (.Name ln p1) (.Constant (.int 0) 0 p2) p3) [⟨.Name ln p4, it, [.Subscript (.Name ln p5) (.Constant (.int 1) 0 p6) p7], 0⟩] csc pos) (tNm a dx bs) := by
  obtain ⟨d1, d2, d3⟩ := okN_dbg hl
  have ixt : ∀ (s : Shared) (H : Hp) (C : Addr) (cl : List (Str × Addr)) (fp : List Addr), IxR (X.blk s H csc (compEnvC csc cl C X.env) fp) (rIxT X.K) := fun s H C cl fp => ix_tup (X := X.blk s H csc (compEnvC csc cl C X.env) fp)
  have P := pe_lcP (pos := pos) (elt := .Subscript (.Name ln p1) (.Constant (.int 0) 0 p2) p3) (tg := .Name ln p4) (ifs := [.Subscript (.Name ln p5) (.Constant (.int 1) 0 p6) p7]) hot hnd (pip_list (tg := .Name ln p4) hit) ok
    (g := gName 2) (tt := fun σ H Q => tOp (rIxT X.K) (tVar 2) (tC (.int 1)) σ H fun x H' => ∃ k, TruV X.K x H' k ∧ Q k H') (te := tOp (rIxT X.K) (tVar 2) (tC (.int 0))) (fun s H C cl fp => pg_name (X := X.blk s H csc (compEnvC csc cl C X.env) fp) hnd hN (.inl hloc) (.inr hloc))
    (fun s H C cl fp => pts_one (pt_truth (X := X.blk s H csc (compEnvC csc cl C X.env) fp) (pe_ix (pos := p7) (ixt s H C cl fp) (pe_var (pos := p5) (i := 2) hN (.inl hloc) d1 d2) (pe_int (i := 1) (j := 0) (pos := p6)) (fun _ _ => rfl)) (fun _ => rfl)))
    (fun s H C cl fp => pe_ix (X := X.blk s H csc (compEnvC csc cl C X.env) fp) (pos := p3) (ixt s H C cl fp) (pe_var (pos := p1) (i := 2) hN (.inl hloc) d1 d2) (pe_int (i := 0) (j := 0) (pos := p2)) (fun _ _ => rfl)) hs
  refine ⟨fun pins s σ H Q I h => P.run pins s σ H Q I ?_⟩
  obtain ⟨h0, h1, h2, h3⟩ := h
  refine ⟨h1, h2, fun H1 l xs e1 hl1 hx => ⟨l, rfl, ⟨xs, .inl (.inl hl1)⟩, fun D hD => ?_⟩⟩
  refine ⟨fun i m H' => m = bs.length - i ∧ i ≤ bs.length ∧ ExtH H1 H' ∧ H' D = some (.lst (nmV (bs.take i))), ⟨bs.length, rfl, Nat.zero_le _, ExtH.new hD, by rw [upd_same]; rfl⟩, ?_⟩
  rintro i m H' ⟨rfl, hle, he, hacc⟩
  have sq : SqL X.K H' l xs := .inl (.inl (he _ _ hl1))
  have hlen := hx.len
  by_cases hi : i < bs.length
  · obtain ⟨⟨n, b⟩, hnb⟩ : ∃ q, bs[i]? = some q := ⟨_, List.getElem?_eq_getElem hi⟩
    obtain ⟨t, ht, hq⟩ := (hx.ext he).get hnb
    refine .inr ⟨⟨xs, _, sq, ht⟩, fun H2 => ExtH H1 H2 ∧ H2 D = some (.lst (nmV (bs.take (i + 1)))), fun H2 ⟨g1, g2⟩ => ⟨_, by omega, rfl, hi, g1, g2⟩, fun x H2 ⟨eH, ey⟩ => ?_⟩
    rw [eH]
    have ex : x = .ref t := Option.some.inj ((ey xs sq).symm.trans ht)
    rw [ex]
    have hset : ((wipe σ ([(ln, 2)].map (·.2))).set 2 (some (V.ref t)))[2]? = some (some (V.ref t)) := by
      show ((σ.set 2 none).set 2 (some (V.ref t)))[2]? = _
      rw [List.getElem?_set_self (by rw [List.length_set]; exact h0)]
    refine ⟨?_, _, hset, t, _, 1, .bl b, rfl, rfl, hq, rfl, b, rfl, ?_⟩
    · show ((σ.set 2 none).set 2 (some (V.ref t))).set 2 none = σ.set 2 none
      rw [List.set_set, List.set_set]
    · have e := nmV_take hnb
      cases b with
      | false =>
        simp only [Bool.false_eq_true, if_false] at e ⊢
        exact ⟨he, by rw [e]; exact hacc⟩
      | true =>
        simp only [if_true] at e ⊢
        refine ⟨_, hset, t, _, 0, .str n, rfl, rfl, hq, rfl, _, hacc, ?_, fun c v z => ?_, by rw [upd_same, e]⟩
        · have := nmV_le (bs.take i)
          have h4 : (bs.take i).length ≤ bs.length := by rw [List.length_take]; exact Nat.min_le_right _ _
          have : (nmV (bs.take i)).length ≤ 1000 := by omega
          exact Nat.lt_of_le_of_lt this (by decide)
        · rw [upd_ne (fun q => by rw [q, hD] at z; cases z)]
          exact he _ _ z
  · have ei : i = bs.length := Nat.le_antisymm hle (Nat.not_lt.mp hi)
    refine .inl ⟨⟨xs, sq, by omega⟩, h3 H' D (e1.trans he) ?_⟩
    rw [hacc, ei, List.take_length]
/-- facts of the hearing def -/
structure HearK (K : PySem.W.Frag) (mg : Str → Option Value) (G : Wd) (g : List (Str × Nat)) (rs : List Nat) (RA : Addr) (cn : Str) : Prop where
  cd : ∃ (sc : Scope) (es : List Expr) (x : Str) (cf : Addr) (fd : FuncData), ClsDef K mg sc es x cf fd ∧ mg cn = some (.ref cf) ∧ ∀ j ∈ rs, EntsI K mg (G.cls j) sc x es (g.map fun p => (p.1, p.2 == j))
  exc : ∀ j ∈ rs, ExcC K (G.cls j) ∧ XfC K (G.cls j) ∧ PySem.W.findIn K (.ref (G.cls j)) "what" = some none ∧ PySem.W.exmOne K (.ref (G.cls j)) (.ref RA) = some true
  rf : mg "Refused" = some (.ref RA)
  sz : (g.map (·.1.length)).sum + g.length ≤ 16777216
  few : g.length ≤ 1000
theorem sum_filter (g : List (Str × Nat)) (q : Str × Nat → Bool) : (((g.filter q).map (·.1)).map (·.length)).sum + ((g.filter q).map (·.1)).length ≤ (g.map (·.1.length)).sum + g.length := by
  induction g with
  | nil => exact Nat.le_refl _
  | cons p g ih =>
    rw [List.filter_cons]
    split
    · simp only [List.map_cons, List.sum_cons, List.length_cons] at ih ⊢
      omega
    · simp only [List.map_cons, List.sum_cons, List.length_cons] at ih ⊢
      omega
theorem nmV_g (g : List (Str × Nat)) (j : Nat) : nmV (g.map fun p => (p.1, p.2 == j)) = ((g.filter fun p => p.2 == j).map (·.1)).map V.str := by
  unfold nmV
  rw [List.filter_map, List.map_map, List.map_map, List.map_map]
  rfl
/-- what the suite wishes -/
def tsH (G : Wd) (g : List (Str × Nat)) (rs : List Nat) (a : Addr) (cls : Value) (d : Option Addr) : TS := fun D σ H => ∃ j dx fs v, cls = .ref (G.cls j) ∧ d = some dx ∧ j ∈ rs ∧ 2 < σ.length ∧ σ[1]? = some (some (.ref a)) ∧ H dx = some (.xd fs) ∧ fs.lookup ("what" : Str) = some v ∧
  ∀ H' t, ExtH H H' → H' t = some (.tup [.str (Txt.join blank ((g.filter fun p => p.2 == j).map (·.1))), v]) → D.rt (.ref t) H'
theorem pss_suite {X : Cx} {a : Addr} {oe : Obj} {cls : Value} {d : Option Addr} {pn : List (Addr × Obj)} {G : Wd} {g : List (Str × Nat)} {rs : List Nat} {RA : Addr} {cn y ln : Str} {k : Nat} {csc : Scope} {p1 p2 p3 p4 p5 p6 p7 p8 p9 q1 q2 q3 q4 q5 q6 q7 q8 r0 : Pos}
    (HK : HearK X.K X.mg G g rs RA cn) (hr : Room (k + 1) X.A) (hz : L2N.Zn cls d oe) (hf : ∃ vs, oe.data = .fields vs) (hnd : X.N.Nodup) (hN1 : X.N[1]? = some y) (hN : X.N[2]? = some ln) (hy : okN y = true) (hl : okN ln = true) (hcn : okN cn = true) (hv : Vis X.env.scope y)
    (hgc : glB X.env.scope cn = true) (ok : BlkOk X.N X.env.scope csc [(ln, 2)]) (hloc : (relS csc X.env.scope).names.lookup ln = some .local) (hline : (q1.endLine == q2.line) = true) :
    PSs (X.suite a ((a, oe) :: pn)) [.Return (some (.Tuple [.Call (.Attribute (.Constant (.str " ") 0 q3) "join" q1) [.ListComp (.Subscript (.Name ln p1) (.Constant (.int 0) 0 p2) p3) [⟨.Name ln p4, .Call (.Name cn p8) [.Name y p9] [] q4, [.Subscript (.Name ln p5) (.Constant (.int 1) 0 p6) p7], 0⟩] csc q5] [] q2, .Attribute (.Name y q6) "what" q7] 0 q8)) r0] (tsH G g rs a cls d) := by
  refine ⟨fun pins s σ H D I h => ?_⟩
  obtain ⟨j, dx, fs, v, rfl, rfl, hj, hlen, h1, hx, hw, hq⟩ := h
  obtain ⟨sc, es, x, cf, fd, CD, hmc, hE⟩ := HK.cd
  obtain ⟨EC, XF, hno, _⟩ := HK.exc j hj
  have hot : L2H.Hot1 (X.suite a ((a, oe) :: pn)).A (a, oe) := by
    obtain ⟨vs, hd⟩ := hf
    exact ⟨rfl, vs, hd, hz.2.2 vs hd⟩
  have hu := hr.un
  have P1 := pe_names (X := X.suite a ((a, oe) :: pn)) (a := a) (dx := dx) (bs := g.map fun p => (p.1, p.2 == j)) (p1 := p1) (p2 := p2) (p3 := p3) (p4 := p4) (p5 := p5) (p6 := p6) (p7 := p7) (pos := q5) ⟨_, hot, List.mem_cons_self⟩ (by show X.A.units + 1 < cLine; omega) hnd hN hl
    (pe_classes (X := X.suite a ((a, oe) :: pn)) (p := p8) (q := p9) (pos := q4) (k := k) CD (hE j hj) EC ⟨hr.dp, hr.un⟩ hot List.mem_cons_self hz.zc hf hN1 hv hy (glB_gl rfl hgc) hmc hcn) ok hloc (fun _ => rfl) (by rw [List.length_map]; exact HK.few)
  have P2 := pe_bm (X := X.suite a ((a, oe) :: pn)) (apos := q1) (cpos := q2) F.plainAttrs_str F.slot_str_join F.type_str_join mt_join (pe_str (x := (" " : Str)) (j := 0) (pos := q3)) (pa_cons P1 pa_nil) (by rfl) (by rfl) hline
  obtain ⟨d1, d2, d3⟩ := okN_dbg hy
  have P3 := pe_xf (X := X) (a := a) (C := G.cls j) (oe := oe) (cls := .ref (G.cls j)) (d := some dx) (pn := pn) (pos := q7) (n := ("what" : Str)) XF hno hz.zc hf (pe_var (X := X.suite a ((a, oe) :: pn)) (i := 1) (pos := q6) hN1 hv d1 d2)
  refine (pss_one (ps_ret (pe_tup (x1 := 0) (pos := q8) (pa_cons P2 (pa_cons P3 pa_nil))))).run pins s σ H D I ?_
  refine ⟨rfl, hlen, h1, ⟨fs, hx⟩, fun H' l he hl' => ⟨_, l, (g.filter fun p => p.2 == j).map (·.1), rfl, rfl, .inl (.inl (.inl ?_)), ?_, _, h1, rfl, rfl, dx, fs, v, rfl, he _ _ hx, hw, (show (2 : Nat) ≤ sizeLine by decide), fun t ht => hq _ t (he.trans (ExtH.new ht)) upd_same⟩⟩
  · rw [← nmV_g]
    exact hl'
  · have h2 := sum_filter g (fun p => p.2 == j)
    have h3 := HK.sz
    rw [show Str.length (" " : Str) = 1 from by decide +kernel, Nat.mul_one]
    omega
theorem repL_args {K : PySem.W.Frag} {CL : CLT} {μ : List Addr} {H : Hp} {N : List Str} {n : Nat} {ds : List D} {vs : List V} (hN : N.length = n) (ra : RepAs K CL μ H ds vs) : RepL K CL μ H (argsL n ds) (L2.start N vs) := by
  refine ⟨by unfold argsL L2.start; simp only [List.length_append, List.length_map, List.length_replicate]; rw [ra.1, hN], fun i d h => ?_⟩
  unfold argsL at h
  unfold L2.start
  by_cases hi : i < ds.length
  · rw [List.getElem?_append_left (by rw [List.length_map]; exact hi), List.getElem?_map] at h
    cases e : ds[i]? with
    | none => rw [e] at h; cases h
    | some x =>
      rw [e] at h
      cases h
      obtain ⟨v, h1, h2⟩ := ra.2 i d e
      refine ⟨v, ?_, h2⟩
      rw [List.getElem?_append_left (by rw [List.length_map, ← ra.1]; exact hi), List.getElem?_map, h1]
      rfl
  · rw [List.getElem?_append_right (by rw [List.length_map]; omega), List.getElem?_replicate] at h
    split at h <;> cases h
theorem ExtH.step {μ : List Addr} {H H' : Hp} (e : ExtH H H') : Step μ H μ H' :=
  ⟨⟨[], by simp, fun _ h => by simp at h⟩, fun b h => by
    (cases q : H b with
    | none => rfl
    | some v => (rw [e _ _ q] at h; cases h)), fun b o h _ _ => e _ _ h, fun b xs h => e _ _ h, fun b o u h => e _ _ h, fun b φ h => e _ _ h⟩
theorem ExtH.rel {K : PySem.W.Frag} {G : Wd} {CL : CLT} {μ : List Addr} {S : Store} {H H' : Hp} (e : ExtH H H') (R : RelG K G CL μ S H) : RelG K G CL μ S H' := by
  refine ⟨R.len, R.nd, fun r mo h => ?_, fun p hp => ?_⟩
  · obtain ⟨a, h1, h2⟩ := R.obj r mo h
    obtain ⟨o, ho, _, _⟩ := h2.is
    exact ⟨a, h1, h2.keep e.step (by rw [e _ _ ho, ho])⟩
  · obtain ⟨ps, h1, h2, h3⟩ := R.tabs p hp
    refine ⟨ps, e _ _ h1, h2, fun pos cv hc => ?_⟩
    obtain ⟨c, e1, e2⟩ := h3 pos cv hc
    exact ⟨c, e1, e _ _ e2⟩
/-- the told pair -/
def toldM (told : Str) (c : M D) : M D := bd (bd (Sim.ok (.str told)) fun d => bd (bd c fun e => bd (Sim.ok []) fun es => Sim.ok (e :: es)) fun es => Sim.ok (d :: es)) fun ds => Sim.ok (.tup ds)
theorem toldM_eq (told : Str) (c : M D) (S : Store) : toldM told c S = match c S with
    | some (.val d, S1) => some (.val (.tup [.str told, d]), S1)
    | some (.exc x, S1) => some (.exc x, S1)
    | none => none := by
  unfold toldM Sim.bd Sim.ok
  dsimp only
  cases c S with
  | none => rfl
  | some p =>
    obtain ⟨r, S1⟩ := p
    cases r <;> rfl
section
variable {P : Program} {w : World} {K : PySem.W.Frag} {mg : Str → Option Value} {base : Heap} {G : Wd} {prg : Nat → Option Fd} {Wf : Nat} {gl : GL}
theorem heard_ok {n f : Nat} {told : Str} {g : List (Str × Nat)} {rs : List Nat} {RA a : Addr} {cn dd y ln : Str} {csc sc : Scope} {name qual : Str} {params : Arguments} {dV kV doc pm cdv ct oc : Value} {an od : Option Addr} {osl : Array (Option Value)} {p1 p2 p3 p4 p5 p6 p7 p8 p9 q1 q2 q3 q4 q5 q6 q7 q8 r0 r1 r2 r3 r4 r5 r6 r7 r8 : Pos}
    (hP : prg f = some ⟨1, 3, .cons (.heard 0 told g rs) .nil, []⟩)
    (lk : K.lookup a = some ⟨oc, od, .func (PySem.W.fnOf name qual params [.Try [.Return (some (.Tuple [.Constant (.str told) 0 r1, .Call (.Name dd r2) [] [] r3] 0 r4)) r5] [.ExceptHandler (some (.Name "Refused" r6)) (some y) [.Return (some (.Tuple [.Call (.Attribute (.Constant (.str " ") 0 q3) "join" q1) [.ListComp (.Subscript (.Name ln p1) (.Constant (.int 0) 0 p2) p3) [⟨.Name ln p4, .Call (.Name cn p8) [.Name y p9] [] q4, [.Subscript (.Name ln p5) (.Constant (.int 1) 0 p6) p7], 0⟩] csc q5] [] q2, .Attribute (.Name y q6) "what" q7] 0 q8)) r0] r7] [] [] r8] sc dV kV doc pm an cdv ct), osl⟩)
    (hcd : PySem.W.codeIn K cdv qual = true) (S : FnScope [dd, y, ln] [dd] sc) (hd : okN dd = true) (hy : okN y = true) (hl : okN ln = true) (hcn : okN cn = true) (hvd : Vis sc dd) (hvy : sc.names.lookup y = some .local) (hgr : glB sc "Refused" = true) (hgc : glB sc cn = true)
    (ok : BlkOk [dd, y, ln] sc csc [(ln, 2)]) (hloc : (relS csc sc).names.lookup ln = some .local) (hline : (q1.endLine == q2.line) = true) (HK : HearK K mg G g rs RA cn) (F : ∀ m f, m + 1 = n → PgF P w K mg base G gl (orcN prg Wf m f) (m + 3)) :
    CloFn P w K mg base G prg gl (n + 4) a (PySem.W.fnOf name qual params [.Try [.Return (some (.Tuple [.Constant (.str told) 0 r1, .Call (.Name dd r2) [] [] r3] 0 r4)) r5] [.ExceptHandler (some (.Name "Refused" r6)) (some y) [.Return (some (.Tuple [.Call (.Attribute (.Constant (.str " ") 0 q3) "join" q1) [.ListComp (.Subscript (.Name ln p1) (.Constant (.int 0) 0 p2) p3) [⟨.Name ln p4, .Call (.Name cn p8) [.Name y p9] [] q4, [.Subscript (.Name ln p5) (.Constant (.int 1) 0 p6) p7], 0⟩] csc q5] [] q2, .Attribute (.Name y q6) "what" q7] 0 q8)) r0] r7] [] [] r8] sc dV kV doc pm an cdv ct) [dd] (callN prg Wf n f) := by
  refine ⟨fun A outer s H args us vs Q E CL hrm e0 hb r hlv C hsp => ?_⟩
  refine run_ofS (CX := L2N.CX P w) (N := [dd, y, ln]) lk hcd S hrm e0 hb r hlv fun hr' => ?_
  obtain ⟨μ, St, ds, R, ra, rr, S', e, h⟩ := hsp
  obtain ⟨hlen, o, L, e1, ho⟩ := runDef_out hP e
  have hlen : ds.length = 1 := hlen
  cases n with
  | zero =>
    exfalso
    have e2 : evSs (orcN prg Wf 0 f) Wf (.cons (.heard 0 told g rs) .nil) (argsL 3 ds) St = none := by
      unfold evSs evS
      cases getL (argsL 3 ds) 0 with
      | none => rfl
      | some d => cases d <;> rfl
    rw [e2] at e1
    cases e1
  | succ m =>
    have hst : (L2.start [dd, y, ln] vs).length = 3 := by
      unfold L2.start
      rw [List.length_append, List.length_map, List.length_replicate, hlv]
      rfl
    have hz : (cxOf (L2N.CX P w) P w K mg base [dd, y, ln] qual sc a cdv A outer s H E).N = [dd, y, ln] := rfl
    refine ⟨_, pss_one (L2N.ps_try_as (X := cxOf (L2N.CX P w) P w K mg base [dd, y, ln] qual sc a cdv A outer s H E) (x := ("Refused" : Str)) (n := y) (c := .ref RA) (i := 1) (np := r6) (pos := r8) (pos' := r7) (Wout := fun cls d _ H' => E cls d H')
      (tb := fun W => tRet (LE K G CL W fun L => toldM told (match getL L 0 with
        | some (.clo f j caps) => runClo prg (orcN prg Wf m) f j caps
        | _ => stk))) (ts := tsH G g rs) rfl rfl S.nd rfl hvy ⟨glB_gl rfl hgr, by decide +kernel, .inl HK.rf⟩ (L2N.takes_of rfl rfl rfl rfl)
      (fun W pn xe tk hp => pss_one (ps_ret ?_)) fun a' oe cls d pn hz hf => pss_suite (X := cxOf (L2N.CX P w) P w K mg base [dd, y, ln] qual sc a cdv A outer s H E) (RA := RA) HK hr' hz hf S.nd rfl rfl hy hl hcn (.inl hvy) hgc ok hloc hline), ?_⟩
    · have hclo := pe_clo (Z := (cxOf (L2N.CX P w) P w K mg base [dd, y, ln] qual sc a cdv A outer s H E).tr pn xe) (W := W) (CL := CL) (x := dd) (sl := 0) (p1 := r2) (p2 := r3) rfl rfl rfl rfl rfl (hr'.mono (by omega)) tk rfl rfl rfl C (fun f => F m f rfl) rfl hvd (okN_dbg hd).1 (okN_dbg hd).2.1
      have hlk : LenOk (fun L => bd (Sim.ok (.str told)) fun d => bd (bd (match getL L 0 with
        | some (.clo f j caps) => runClo prg (orcN prg Wf m) f j caps
        | _ => stk) fun e => bd (Sim.ok []) fun es => Sim.ok (e :: es)) fun es => Sim.ok (d :: es)) := by
        intro L S ds S' hq
        obtain ⟨d, S1, h1, h2⟩ := bd_some hq
        obtain ⟨es, S2, h3, h4⟩ := bd_some h2
        obtain ⟨e', S3, h5, h6⟩ := bd_some h3
        obtain ⟨e2, S4, h7, h8⟩ := bd_some h6
        unfold Sim.ok at h1 h4 h7 h8
        cases h1
        cases h7
        cases h8
        cases h4
        exact (show (2 : Nat) ≤ LIM by decide)
      exact sim_tup (X := (cxOf (L2N.CX P w) P w K mg base [dd, y, ln] qual sc a cdv A outer s H E).tr pn xe) (G := G) (CL := CL) (W := W) hlk (sim_cons rfl (sim_const pe_str fun _ _ => .str _) (sim_cons rfl hclo sim_nil))
    · refine ⟨μ, _, St, R, repL_args (n := 3) rfl ra, ?_⟩
      unfold evSs evS at e1
      have hcl : (orcN prg Wf (m + 1) f).clo = fun g i vs => runClo prg (orcN prg Wf m) g i vs := rfl
      rw [hcl] at e1
      dsimp only at e1
      cases hL : getL (argsL 3 ds) 0 with
      | none => rw [hL] at e1; cases e1
      | some d0 =>
        rw [hL] at e1
        cases d0 with
        | clo fc j caps =>
          dsimp only at e1 ⊢
          cases hc : runClo prg (orcN prg Wf m) fc j caps St with
          | none => rw [hc] at e1; cases e1
          | some p =>
            obtain ⟨rc, S1⟩ := p
            rw [hc] at e1
            cases rc with
            | val d =>
              cases e1
              cases ho
              refine ⟨_, _, by rw [toldM_eq, hL]; dsimp only; rw [hc], h⟩
            | exc x =>
              dsimp only at e1
              by_cases hg : rs.contains x.cls = true
              · rw [if_pos hg] at e1
                cases e1
                cases ho
                refine ⟨_, _, by rw [toldM_eq, hL]; dsimp only; rw [hc], fun μ' H' dx s1 R1 rx => ?_⟩
                have hj : x.cls ∈ rs := List.contains_iff_mem.mp hg
                obtain ⟨fs, v, g1, g2, g3⟩ := rx
                refine ⟨true, (HK.exc _ hj).2.2.2, fun _ ax hax => ⟨x.cls, dx, fs, v, rfl, rfl, hj, ?_, ?_, g1, g2, fun H2 t he ht => ?_⟩, fun z => by cases z⟩
                · rw [List.length_set, hst]
                  decide
                · rw [List.getElem?_set_self (by rw [hst]; decide)]
                · refine h μ' H2 (.ref t) (s1.trans he.step) (he.rel R1) (.tup ht (.cons ?_ (.cons (g3.step he.step) .nil)))
                  rw [TL.join_eq]
                  exact .str _
              · rw [if_neg hg] at e1
                cases e1
        | _ => cases e1
end
end Sim
set_option Elab.async false
set_option linter.all false
set_option autoImplicit false
set_option maxRecDepth 100000
set_option maxHeartbeats 2000000
/-! Sim1z: whole defs checked. -/
namespace Sim
open PySem PySem.Spec PyProof.Rows L2 LamX
/-- parameters without defaults -/
def argsOf (a : Arguments) : Option (List Str) := match a with
  | ⟨[], l, none, [], [], none, []⟩ => some (l.map (·.arg))
  | _ => none
def noArgs : Arguments := ⟨[], [], none, [], [], none, []⟩
def isNoArgs (a : Arguments) : Bool := match a with
  | ⟨[], [], none, [], [], none, []⟩ => true
  | _ => false
def chkCL0 : Nat → Arguments → Expr → Scope → Bool := fun _ _ _ _ => false
def ccOf (gl : GL) (N : List Str) (sc : Scope) (clo : Bool) (k : Nat → Arguments → Expr → Scope → Bool) : CC := { N := N, sc := sc, fnc := (sc.names.filter fun y => decide (y.2 = .cell)).map (·.1), clo := clo, blk := false, gl := gl, chkL := k }
/-- a lambda of a def -/
def chkLam (gl : GL) (N : List Str) (sc : Scope) (d : Fd) : Nat → Arguments → Expr → Scope → Bool := fun i ps body lsc => match d.lams[i]? with
  | some (_, e) => isNoArgs ps && decide (N.length = d.nl) && decide N.Nodup && lamSB sc lsc && chkE false (inLam (ccOf gl N sc false chkCL0) lsc) e body
  | none => false
def chkDef (gl : GL) (N : List Str) (clo : Bool) (d : Fd) (args : Arguments) (body : List Stmt) (sc : Scope) : Bool := match argsOf args with
  | some ps => fnScopeB N ps sc && decide (N.length = d.nl) && decide (ps.length = d.np) && chkSs (ccOf gl N sc clo (if clo then chkCL0 else chkLam gl N sc d)) d.body body
  | none => false
/-- the def of a statement -/
def glOf (slots : List (Nat × Str × List Str × Bool)) (clss : List (Str × Nat)) (globs : List (Str × D)) (blts : List Str) : GL := { funs := (slots.filter fun s => !s.2.2.2).map fun s => (s.1, s.2.1), cfuns := (slots.filter fun s => s.2.2.2).map fun s => (s.1, s.2.1), clss := clss, globs := globs, blts := blts }
/-! ### binding -/
theorem fmap_congr {α β : Type} {f g : α → Option β} : ∀ {l : List α}, (∀ x ∈ l, f x = g x) → l.filterMap f = l.filterMap g
  | [], _ => rfl
  | x :: l, h => by
    rw [List.filterMap_cons, List.filterMap_cons, h x List.mem_cons_self, fmap_congr (l := l) fun y hy => h y (List.mem_cons_of_mem _ hy)]
theorem zip_find : ∀ {ps : List Str} {us : List Value}, ps.Nodup → us.length = ps.length → (ps.filterMap fun n => ((ps.zip us).lookup n).map fun v => (n, v)) = ps.zip us
  | [], _, _, _ => rfl
  | p :: ps, [], _, h => by simp at h
  | p :: ps, u :: us, nd, h => by
    obtain ⟨n1, n2⟩ := List.nodup_cons.mp nd
    have ih := zip_find (us := us) n2 (by simpa using h)
    rw [List.zip_cons_cons, List.filterMap_cons, List.lookup_cons, beq_self_eq_true]
    show (p, u) :: _ = _
    congr 1
    refine Eq.trans ?_ ih
    refine fmap_congr fun n hn => ?_
    rw [List.lookup_cons]
    cases e : n == p with
    | true => rw [beq_iff_eq.mp e] at hn; exact absurd hn n1
    | false => rfl
theorem zip_some : ∀ {ps : List Str} {us : List Value}, us.length = ps.length → ∀ {n : Str}, n ∈ ps → ((ps.zip us).lookup n).isSome = true
  | [], _, _, _, h => by cases h
  | p :: ps, [], h, _, _ => by simp at h
  | p :: ps, u :: us, h, n, hn => by
    rw [List.zip_cons_cons, List.lookup_cons]
    cases e : n == p with
    | true => rfl
    | false =>
      rcases List.mem_cons.mp hn with rfl | hn
      · rw [beq_self_eq_true] at e; cases e
      · exact zip_some (by simpa using h) hn
theorem bind_plain {l : List Arg} {fd : FuncData} {us : List Value} (nd : (l.map (·.arg)).Nodup) (hp : fd.params = ⟨[], l, none, [], [], none, []⟩) (hd : fd.defaults = .none) (hl : us.length = l.length) : bindArgs fd ⟨us, []⟩ = pure ((l.map (·.arg)).zip us) := by
  unfold bindArgs
  rw [hp, hd]
  have h1 : seqItems? Value.none = pure (none : Option (Array Value)) := rfl
  have hz := zip_find nd (us := us) (by simpa using hl)
  have hs : ∀ n ∈ l.map (·.arg), (((l.map (·.arg)).zip us).lookup n).isSome = true := fun n hn => zip_some (by simpa using hl) hn
  generalize hps : l.map (·.arg) = ps at *
  have hpl : ps.length = l.length := by rw [← hps, List.length_map]
  simp [h1, hps]
  rw [if_neg (by omega), if_neg ?_]
  · simp [hz]
  · simp
    intro n hn
    have hn : n ∈ ps := by
      have := List.mem_of_mem_take hn
      rw [hps] at this
      exact this
    obtain ⟨v, hv⟩ := Option.isSome_iff_exists.mp (hs n hn)
    exact ⟨v, PySem.mem_of_lookup hv⟩
theorem argsOf_eq {a : Arguments} {ps : List Str} (h : argsOf a = some ps) : ∃ l, a = ⟨[], l, none, [], [], none, []⟩ ∧ ps = l.map (·.arg) := by
  unfold argsOf at h
  split at h
  · cases h
    exact ⟨_, rfl, rfl⟩
  · cases h
theorem noArgs_eq {a : Arguments} (h : isNoArgs a = true) : a = noArgs := by
  unfold isNoArgs at h
  split at h
  · rfl
  · cases h
theorem funD_binds {K : PySem.W.Frag} {x qual : Str} {params : Arguments} {body : List Stmt} {sc : Scope} {a : Addr} {fd : FuncData} {ps : List Str} (F : FunD K x qual params body sc [] [] a fd) (h : argsOf params = some ps) (nd : ps.Nodup) : Binds K fd ps [] := by
  obtain ⟨l, e, rfl⟩ := argsOf_eq h
  refine F.bindsN fun kV doc pm an cdv ct us hl => ?_
  exact bind_plain nd e rfl (by simpa using hl)
/-! ### all defs -/
abbrev lamQ (qual : Str) : Str := (envOfC qual ⟨.function, [], false, false, []⟩ 0 0 .none).qual ++ "<lambda>"
section
variable (P : Program) (w : World) (K : PySem.W.Frag) (mg : Str → Option Value) (base : Heap) (G : Wd) (prg : Nat → Option Fd) (Wf : Nat) (gl : GL)
/-- what is known of a def -/
structure DefC (clo : Bool) (f : Nat) (x : Str) : Prop where
  it : ∃ (a : Addr) (d : Fd) (N : List Str) (qual : Str) (params : Arguments) (body : List Stmt) (sc : Scope) (fd : FuncData), prg f = some d ∧ mg x = some (.ref a) ∧ FunD K x qual params body sc [] [] a fd ∧ chkDef gl N clo d params body sc = true ∧
    (d.lams ≠ [] → ∃ cc PP : Addr, fd.code = .ref cc ∧ TabB base mg cc PP ∧ (PP, lamQ qual) ∈ G.T ∧ ∀ p ∈ G.T, p.1 = PP → p.2 = lamQ qual)
/-- the promise of a def -/
def Prom (k : Nat) (f : Nat) (x : Str) (m : List D → M D) : Prop := ∃ a fd ps, mg x = some (.ref a) ∧ PySem.W.keepIn K (.ref a) = true ∧ Binds K fd ps [] ∧ (∀ ds S r, m ds S = some r → ds.length = ps.length) ∧ FnOk P w K mg base (L2N.CX P w) k a fd ps (SpC K G ps.length m)
def PromC (k : Nat) (f : Nat) (x : Str) (m : List D → M D) : Prop := ∃ a fd ps, mg x = some (.ref a) ∧ PySem.W.keepIn K (.ref a) = true ∧ Binds K fd ps [] ∧ (∀ ds S r, m ds S = some r → ds.length = ps.length) ∧ CloFn P w K mg base G prg gl k a fd ps m
/-- the program's facts -/
structure AllK : Prop where
  blt : ∀ x, gl.blts.contains x = true → mg x = none
  glob : ∀ x d, gl.globs.lookup x = some d → ∃ u v, mg x = some u ∧ RelV v u ∧ ∀ μ H, Rep K CLF μ H d v
  raise : ∀ c : CC, c.gl = gl → RaiseAll P w K mg base G c
  fns : ∀ f x, gl.funs.lookup f = some x → DefC K mg base G prg gl false f x
  cfns : ∀ f x, gl.cfuns.lookup f = some x → DefC K mg base G prg gl true f x ∨
    ((∃ a fd ps, mg x = some (.ref a) ∧ PySem.W.keepIn K (.ref a) = true ∧ Binds K fd ps []) ∧ ∀ n, (∀ m f, m + 1 = n → PgF P w K mg base G gl (orcN prg Wf m f) (m + 3)) → PromC P w K mg base G prg gl (n + 4) f x (callN prg Wf n f))
end
section
variable {P : Program} {w : World} {K : PySem.W.Frag} {mg : Str → Option Value} {base : Heap} {G : Wd} {prg : Nat → Option Fd} {Wf : Nat} {gl : GL}
theorem callN_np {n f : Nat} {d : Fd} {ds : List D} {S : Store} {r : Ex D × Store} (hP : prg f = some d) (h : callN prg Wf n f ds S = some r) : ds.length = d.np := by
  obtain ⟨r, S'⟩ := r
  exact (runDef_out hP h).1
theorem chkDef_ps {N : List Str} {clo : Bool} {d : Fd} {params : Arguments} {body : List Stmt} {sc : Scope} (h : chkDef gl N clo d params body sc = true) : ∃ ps, argsOf params = some ps ∧ ps.Nodup ∧ ps.length = d.np ∧ fnScopeB N ps sc = true ∧ N.length = d.nl ∧ chkSs (ccOf gl N sc clo (if clo then chkCL0 else chkLam gl N sc d)) d.body body = true := by
  unfold chkDef at h
  split at h
  · rename_i ps hps
    simp only [Bool.and_eq_true, decide_eq_true_eq] at h
    obtain ⟨⟨⟨h1, h2⟩, h3⟩, h4⟩ := h
    have S := fnScopeB_ok h1
    exact ⟨ps, hps, by rw [← S.pre]; exact S.nd.sublist (List.take_sublist _ _), h3, h1, h2, h4⟩
  · cases h
theorem chkLam_ok {N : List Str} {sc : Scope} {d : Fd} {f i : Nat} {ps : Arguments} {body : Expr} {lsc : Scope} {clo : Bool} {kk : Nat → Arguments → Expr → Scope → Bool} (hP : prg f = some d) (h : chkLam gl N sc d i ps body lsc = true) : ∃ cs e, LamK prg f i (ccOf gl N sc clo kk) cs e ps body lsc := by
  unfold chkLam at h
  split at h
  · rename_i cs e hl
    simp only [Bool.and_eq_true, decide_eq_true_eq] at h
    obtain ⟨⟨⟨⟨h1, h2⟩, h3⟩, h4⟩, h5⟩ := h
    have ep := noArgs_eq h1
    subst ep
    have L := lamS_by h4
    refine ⟨cs, e, ⟨⟨d, hP, hl, h2⟩, rfl, rfl, rfl, rfl, h3, L.kind, L.co, L.gen, L.own⟩, h5, L, fun _ => rfl, fun _ _ _ _ _ => rfl⟩
  · cases h
theorem prom0 {f : Nat} {x : Str} {clo : Bool} (D0 : DefC K mg base G prg gl clo f x) (k : Nat) : Prom P w K mg base G k f x fun _ => stk := by
  obtain ⟨a, d, N, qual, params, body, sc, fd, hP, hm, FD, hc, _⟩ := D0.it
  obtain ⟨ps, h1, h2, h3, _⟩ := chkDef_ps hc
  exact ⟨a, fd, ps, hm, FD.kp, funD_binds FD h1 h2, fun ds S r h => (by cases h), fun vs H Q E h => h.1, fun A outer s H args us vs Q E p hr e0 hb h => by
    obtain ⟨_, _, _, _, _, _, h⟩ := h
    exact (LA.stk h).elim⟩
theorem lams_of {P : Program} {w : World} {base : Heap} {A : Around} {outer : List Env} {s : Shared} {H : Hp} {E : XK} {a cc PP : Addr} {N : List Str} {qual : Str} {sc : Scope} (TB : TabB base mg cc PP) (h1 : (PP, lamQ qual) ∈ G.T) (h2 : ∀ p ∈ G.T, p.1 = PP → p.2 = lamQ qual) :
    LamTab (cxOf (L2N.CX P w) P w K mg base N qual sc a (.ref cc) A outer s H E) G cc PP := ⟨rfl, TB, h1, h2⟩
/-- one def, from what it calls -/
theorem def_fn {n f : Nat} {x : Str} {a : Addr} {d : Fd} {N : List Str} {qual : Str} {params : Arguments} {body : List Stmt} {sc : Scope} {fd : FuncData} {ps : List Str} (A : AllK P w K mg base G prg Wf gl) (hP : prg f = some d) (FD : FunD K x qual params body sc [] [] a fd) (hc : chkDef gl N false d params body sc = true)
    (hl : d.lams ≠ [] → ∃ cc PP : Addr, fd.code = .ref cc ∧ TabB base mg cc PP ∧ (PP, lamQ qual) ∈ G.T ∧ ∀ p ∈ G.T, p.1 = PP → p.2 = lamQ qual) (hps : argsOf params = some ps) (F : PgF P w K mg base G gl (orcN prg Wf n f) (n + 3)) (Fc : CfF P w K mg base G prg gl (orcN prg Wf n f) (n + 3)) :
    FnOk P w K mg base (L2N.CX P w) (n + 4) a fd ps (SpC K G ps.length (callN prg Wf n f)) := by
  obtain ⟨ps', h1, h2, h3, h4, h5, h6⟩ := chkDef_ps hc
  rw [hps] at h1
  cases h1
  obtain ⟨oc, od, dV, kV, doc, pm, an, cdv, ct, osl, rfl, lk, hcd, _, _⟩ := FD.ex
  refine def_sound (c := ccOf gl N sc false (chkLam gl N sc d)) hP lk hcd h4 h5 h3 h6 F (A.raise _ rfl) fun A' outer s H E hr => ⟨?_, ?_⟩
  · by_cases hd : d.lams = []
    · intro f' i y ps' b lsc lp p pos l fs _ _ _ hk
      exfalso
      have hk : chkLam gl N sc d i ps' b lsc = true := hk
      unfold chkLam at hk
      rw [hd] at hk
      cases i <;> cases hk
    · obtain ⟨cc, PP, e1, e2, e3, e4⟩ := hl hd
      have e1 : cdv = .ref cc := e1
      subst e1
      exact lam_rule (P := P) (w := w) (K := K) (mg := mg) (base := base) (Wf := Wf) (n := n) (f0 := f) (k := n + 3) rfl rfl rfl rfl rfl rfl rfl hr (L2N.takes_of rfl rfl rfl rfl) rfl (lams_of e2 e3 e4) Fc fun i ps' b lsc hk => chkLam_ok hP hk
  · exact pass_rule rfl rfl rfl rfl rfl hr (L2N.takes_of rfl rfl rfl rfl) rfl rfl rfl (fun _ _ _ _ _ _ z => z.elim) Fc
theorem def_step {n f : Nat} {x : Str} (A : AllK P w K mg base G prg Wf gl) (D0 : DefC K mg base G prg gl false f x) (F : PgF P w K mg base G gl (orcN prg Wf n f) (n + 3)) (Fc : CfF P w K mg base G prg gl (orcN prg Wf n f) (n + 3)) : Prom P w K mg base G (n + 4) f x (callN prg Wf n f) := by
  obtain ⟨a, d, N, qual, params, body, sc, fd, hP, hm, FD, hc, hl⟩ := D0.it
  obtain ⟨ps, h1, h2, h3, _⟩ := chkDef_ps hc
  exact ⟨a, fd, ps, hm, FD.kp, funD_binds FD h1 h2, fun ds S r h => by rw [h3]; exact callN_np hP h, def_fn A hP FD hc hl h1 F Fc⟩
theorem cdef_step {n f : Nat} {x : Str} (A : AllK P w K mg base G prg Wf gl) (D0 : DefC K mg base G prg gl true f x) (F : PgF P w K mg base G gl (orcN prg Wf n f) (n + 3)) (Fc : CfF P w K mg base G prg gl (orcN prg Wf n f) (n + 3)) : PromC P w K mg base G prg gl (n + 4) f x (callN prg Wf n f) := by
  obtain ⟨a, d, N, qual, params, body, sc, fd, hP, hm, FD, hc, hl⟩ := D0.it
  obtain ⟨ps, h1, h2, h3, h4, h5, h6⟩ := chkDef_ps hc
  refine ⟨a, fd, ps, hm, FD.kp, funD_binds FD h1 h2, fun ds S r h => by rw [h3]; exact callN_np hP h, ?_⟩
  obtain ⟨oc, od, dV, kV, doc, pm, an, cdv, ct, osl, rfl, lk, hcd, _, _⟩ := FD.ex
  exact cdef_sound (c := ccOf gl N sc true chkCL0) hP lk hcd h4 h5 h3 h6 (fun _ _ _ _ => rfl) F Fc (A.raise _ rfl)
theorem promC0 {f : Nat} {x : Str} (h : ∃ a fd ps, mg x = some (.ref a) ∧ PySem.W.keepIn K (.ref a) = true ∧ Binds K fd ps []) (k : Nat) : PromC P w K mg base G prg gl k f x fun _ => stk := by
  obtain ⟨a, fd, ps, h1, h2, h3⟩ := h
  exact ⟨a, fd, ps, h1, h2, h3, fun ds S r h => (by cases h), ⟨fun A outer s H args us vs Q E CL _ _ _ _ _ _ h => by
    obtain ⟨_, _, _, _, _, h⟩ := h
    exact (LA.stk h).elim⟩⟩
theorem all_ok (A : AllK P w K mg base G prg Wf gl) : ∀ n, ((∀ f, PgF P w K mg base G gl (orcN prg Wf n f) (n + 3)) ∧ ∀ m f, m + 1 = n → PgF P w K mg base G gl (orcN prg Wf m f) (m + 3)) ∧ ∀ f, CfF P w K mg base G prg gl (orcN prg Wf n f) (n + 3)
  | 0 => by
    refine ⟨⟨fun f => ⟨A.blt, A.glob, fun g x hg => ?_⟩, fun m f h => by omega⟩, fun f => ⟨fun g x hg => ?_⟩⟩
    · exact prom0 (A.fns g x hg) 3
    · refine promC0 (f := g) ?_ 3
      rcases A.cfns g x hg with D0 | ⟨h, _⟩
      · obtain ⟨a, fd, ps, h1, h2, h3, _⟩ := prom0 (P := P) (w := w) D0 0
        exact ⟨a, fd, ps, h1, h2, h3⟩
      · exact h
  | n + 1 => by
    obtain ⟨⟨h1, h2⟩, h3⟩ := all_ok A n
    refine ⟨⟨fun f => ⟨A.blt, A.glob, fun g x hg => ?_⟩, fun m f h => ?_⟩, fun f => ⟨fun g x hg => ?_⟩⟩
    · exact def_step A (A.fns g x hg) (h1 g) (h3 g)
    · have e : m = n := by omega
      subst e
      exact h1 f
    · rcases A.cfns g x hg with D0 | ⟨_, h⟩
      · exact cdef_step A D0 (h1 g) (h3 g)
      · exact h n h2
theorem prom_all (A : AllK P w K mg base G prg Wf gl) (n : Nat) {f : Nat} {x : Str} (h : gl.funs.lookup f = some x) : Prom P w K mg base G (n + 4) f x (callN prg Wf n f) :=
  def_step A (A.fns f x h) ((all_ok A n).1.1 f) ((all_ok A n).2 f)
end
end Sim
set_option Elab.async false
set_option linter.all false
set_option autoImplicit false
set_option maxRecDepth 100000
set_option maxHeartbeats 2000000
/-! Sim2b: the exceptions' classes, by looks at the written part. -/
namespace Sim
open PySem PySem.Spec PyProof.Rows L2 LamX
/-! ### the forms of the two __init__ -/
theorem isR_ok {b : FuncBody} {p : List Pos} (h : isR b = some p) : b = .stmts (bodyR p) := by
  unfold isR at h
  split at h
  · split at h
    · rename_i hh
      obtain ⟨rfl, rfl, rfl, rfl, rfl, rfl, rfl, rfl, rfl⟩ := hh
      cases h
      rfl
    · cases h
  · cases h
theorem isB_ok {b : FuncBody} {wd : Str} {j : Nat} {p : List Pos} (h : isB b = some (wd, j, p)) : b = .stmts (bodyB wd j p) := by
  unfold isB at h
  split at h
  · split at h
    · rename_i hh
      obtain ⟨rfl, rfl, rfl⟩ := hh
      cases h
      rfl
    · cases h
  · cases h
/-! ### binding where all is given -/
theorem forIn_given {f : Str × Value → List (Str × Value) → Sem (ForInStep (List (Str × Value)))} : ∀ (l : List (Str × Value)) (slots : List (Str × Value)), (∀ p ∈ l, f p slots = pure (.yield slots)) → forIn l slots f = pure slots
  | [], slots, _ => rfl
  | p :: l, slots, h => by
    rw [List.forIn_cons, h p List.mem_cons_self, pure_bind]
    exact forIn_given l slots fun q hq => h q (List.mem_cons_of_mem _ hq)
theorem bind_given {l : List Arg} {dx : List Expr} {fd : FuncData} {us : List Value} (nd : (l.map (·.arg)).Nodup) (hp : fd.params = ⟨[], l, none, [], [], none, dx⟩) (hl : us.length = l.length) : ∃ k : Option (Array Value) → Sem (List (Str × Value)), bindArgs fd ⟨us, []⟩ = seqItems? fd.defaults >>= k ∧ ∀ o, k o = pure ((l.map (·.arg)).zip us) := by
  unfold bindArgs
  rw [hp]
  have hz := zip_find nd (us := us) (by simpa using hl)
  have hs : ∀ n ∈ l.map (·.arg), (((l.map (·.arg)).zip us).lookup n).isSome = true := fun n hn => zip_some (by simpa using hl) hn
  generalize hps : l.map (·.arg) = ps at *
  have hpl : ps.length = l.length := by rw [← hps, List.length_map]
  simp only [List.map_nil, List.nil_append, List.forIn_nil, pure_bind, hps]
  refine ⟨_, rfl, fun o => ?_⟩
  simp [hpl, hl]
  rw [if_neg ?_, forIn_given _ _ fun p hp => ?_]
  · simp [hz]
  · have hm : p.1 ∈ ps := List.mem_of_mem_drop (List.of_mem_zip hp).1
    rw [if_neg]
    have := hs _ hm
    rw [Option.isSome_iff_ne_none] at this
    simpa using this
  · simp
    intro n hn
    obtain ⟨v, hv⟩ := Option.isSome_iff_exists.mp (hs n (List.mem_of_mem_take hn))
    exact ⟨v, PySem.mem_of_lookup hv⟩
theorem binds_given {K : PySem.W.Frag} {fd : FuncData} {ps : List Str} (h : argsAll fd.params = some ps) (nd : ps.Nodup) (hd : dflOk K fd.defaults = true) : Binds K fd ps [] := by
  intro s us X hl
  rw [List.append_nil] at hl ⊢
  unfold argsAll at h
  split at h
  · rename_i l dx e
    cases h
    obtain ⟨k, h1, h2⟩ := bind_given (fd := fd) (us := us) nd e (by simpa using hl)
    refine BindsTo.of_looks fun M => ?_
    rw [h1]
    unfold dflOk at hd
    split at hd
    · rename_i e2
      rw [e2]
      exact PySem.W.Looks.of_pure (by show k none = _; exact h2 none)
    · rename_i T e2
      rw [e2]
      split at hd
      · rename_i its n _ lT
        exact looks_items X lT rfl (.of_pure (h2 _))
      · cases hd
    · cases hd
  · cases h
/-! ### a class's __init__ -/
theorem initF_ok {K : PySem.W.Frag} {C f : Addr} {fd : FuncData} (h : initF K C = some (f, fd)) : PySem.W.findIn K (.ref C) "__init__" = some (some (.ref f)) ∧ ∃ oc od osl, K.lookup f = some ⟨oc, od, .func fd, osl⟩ := by
  unfold initF at h
  split at h
  · rename_i g e
    split at h
    · rename_i oc od fd' osl lk
      cases h
      exact ⟨e, oc, od, osl, lk⟩
    · cases h
  · cases h
theorem fnShape_ok {fd : FuncData} {cc cda : Addr} {body : List Stmt} (h : fnShape fd = some (cc, cda)) (hb : fd.body = .stmts body) : fd = PySem.W.ksFn fd.name fd.qualname fd.params body fd.scope fd.defaults fd.kwdefaults fd.doc fd.pyModule fd.annotations (.ref cda) fd.closureTuple cc := by
  unfold fnShape at h
  split at h
  · rename_i n cc' cda' e1 e2
    split at h
    · rename_i hh
      obtain ⟨rfl, h2, h3⟩ := hh
      cases h
      obtain ⟨n1, n2, n3, n4, n5, n6, n7, n8, n9, n10, n11, n12, n13, n14, n15⟩ := fd
      simp only at e1 e2 h2 h3 hb
      subst e1 e2 h2 h3 hb
      rfl
    · cases h
  · cases h
theorem scIB_ok {N : List Str} {sc : Scope} (h : scIB N sc = true) : ScI N sc := by
  unfold scIB at h
  simp only [Bool.and_eq_true, decide_eq_true_eq, Bool.not_eq_true', List.all_eq_true] at h
  obtain ⟨⟨⟨⟨⟨h1, h2⟩, h3⟩, h4⟩, h5⟩, h6⟩ := h
  refine ⟨h1, h2, h3, h4, h5, fun y hy e => ?_, fun y hy e => ?_⟩
  · have := h6 y hy
    rw [e] at this
    cases this
  · have := h6 y hy
    rw [e] at this
    exact of_decide_eq_true this
theorem supKB_ok {P : Program} {K : PySem.W.Frag} {mg : Str → Option Value} {fd : FuncData} {f cda cc D : Addr} (h : supKB K P.main.file fd cda cc D = true) (hf : ∃ oc od osl, K.lookup f = some ⟨oc, od, .func fd, osl⟩) (hs : mg "super" = none) (ht : (P.main.scope.names.lookup ("super" : Str)).isSome = false) : SupK P K mg fd.scope f cda cc D := by
  unfold supKB at h
  simp only [Bool.and_eq_true, decide_eq_true_eq] at h
  obtain ⟨⟨⟨⟨⟨⟨⟨⟨h1, h2⟩, h3⟩, h4⟩, h5⟩, h6⟩, h7⟩, h8⟩, h9⟩ := h
  obtain ⟨oc, od, osl, lk⟩ := hf
  refine ⟨?_, ?_, ?_, Option.isSome_iff_exists.mp h4, hs, ht, He.eqO_ok h5, h6, h7, h8, h9⟩
  · split at h1
    · rename_i ar e
      exact ⟨oc, od, fd, osl, ar, lk, e, of_decide_eq_true h1⟩
    · cases h1
  · split at h2
    · rename_i lkc
      split at h2
      · rename_i e
        exact ⟨_, _, _, _, _, _, lkc, e, h2⟩
      · cases h2
    · cases h2
  · split at h3
    · rename_i lkc
      have := of_decide_eq_true h3
      subst this
      exact ⟨_, _, _, lkc⟩
    · cases h3
theorem oexB_ok {K : PySem.W.Frag} {C : Addr} (h : oexB K C = true) : OexC K C := by
  unfold oexB at h
  simp only [Bool.and_eq_true, decide_eq_true_eq] at h
  obtain ⟨⟨⟨⟨h1, h2⟩, h3⟩, h4⟩, h5⟩ := h
  refine ⟨?_, He.eqO_ok h2, h3, h4, h5⟩
  split at h1
  · rename_i t dd cd sl lk
    simp only [Bool.and_eq_true, decide_eq_true_eq, Bool.not_eq_true'] at h1
    obtain ⟨⟨⟨e1, e2⟩, e3⟩, e4⟩ := h1
    split at e4
    · rename_i C' bm k0 k1 k2 k3 n k5 em es
      simp only [Bool.and_eq_true, decide_eq_true_eq] at e4
      obtain ⟨⟨rfl, rfl⟩, e5⟩ := e4
      obtain ⟨m1, m2, m3, m4, m5, m6, m7, m8, m9, m10, m11⟩ := cd
      simp only at em e2 e3
      subst em e2 e3 e1
      have : sl = #[k0, k1, k2, k3, some (.builtin "ValueError.__new__"), k5] := by
        apply Array.ext'
        exact es
      subst this
      exact ⟨_, _, _, _, _, _, _, _, _, _, _, _, _, _, _, lk, e5⟩
    · cases e4
  · cases h1
theorem excRB_ok {P : Program} {w : World} {K : PySem.W.Frag} {mg : Str → Option Value} {base : Heap} {R : Addr} (h : excRB K P.main.file R = true) (hs : mg "super" = none) (ht : (P.main.scope.names.lookup ("super" : Str)).isSome = false) :
    ∃ g fd, initF K R = some (g, fd) ∧ FnOk P w K mg base (L2N.CX P w) 1 g fd ["self", "what", "word"] (spR K R) ∧ Binds K fd ["self", "what", "word"] [] ∧ PySem.W.typeIn K (.ref g) = some (.type "function") ∧ PySem.W.fnIn K g = true := by
  unfold excRB at h
  split at h
  · rename_i g fd hi
    split at h
    · rename_i p cc cda hp hf
      simp only [Bool.and_eq_true, decide_eq_true_eq] at h
      obtain ⟨⟨⟨⟨⟨⟨⟨h1, h2⟩, h3⟩, h4⟩, h5⟩, h6⟩, h7⟩, h8⟩ := h
      obtain ⟨_, lk⟩ := initF_ok hi
      have Z := supKB_ok (mg := mg) h4 lk hs ht
      obtain ⟨oc, od, osl, lk⟩ := lk
      obtain ⟨_, cl, cld, csl, lc⟩ : True ∧ _ := ⟨trivial, Z.cell⟩
      have e := fnShape_ok hf (isR_ok hp)
      refine ⟨g, fd, hi, ?_, binds_given h5 (by decide +kernel) h6, h7, h8⟩
      rw [e] at lk ⊢
      exact initR_ok (k := 0) h1 lk h2 (scIB_ok h3) lc Z
    · cases h
  · cases h
theorem excBB_ok {P : Program} {w : World} {K : PySem.W.Frag} {mg : Str → Option Value} {base : Heap} {R C : Addr} (hR : excRB K P.main.file R = true) (h : excBB K P.main.file R C = true) (hs : mg "super" = none) (ht : (P.main.scope.names.lookup ("super" : Str)).isSome = false) :
    ∃ f fd wd, PySem.W.findIn K (.ref C) "__init__" = some (some (.ref f)) ∧ PySem.W.typeIn K (.ref f) = some (.type "function") ∧ OexC K C ∧ FnOk P w K mg base (L2N.CX P w) 2 f fd ["self", "what"] (spB K C wd) ∧ Binds K fd ["self", "what"] [] := by
  obtain ⟨g', fdR, hg', FR, bR, tR, fR⟩ := excRB_ok (w := w) (base := base) hR hs ht
  unfold excBB at h
  split at h
  · rename_i f fd g fdR' hi hg
    rw [hg'] at hg
    cases hg
    split at h
    · rename_i wd j p cc cda hp hf
      simp only [Bool.and_eq_true, decide_eq_true_eq] at h
      obtain ⟨⟨⟨⟨⟨⟨⟨⟨⟨⟨⟨⟨⟨⟨⟨h1, h2⟩, h3⟩, h4⟩, h5⟩, h6⟩, h7⟩, h8⟩, h9⟩, h10⟩, h11⟩, h12⟩, h13⟩, h14⟩, h15⟩, h16⟩ := h
      obtain ⟨hfi, lk⟩ := initF_ok hi
      have Z := supKB_ok (mg := mg) h4 lk hs ht
      obtain ⟨oc, od, osl, lk⟩ := lk
      obtain ⟨_, cl, cld, csl, lc⟩ : True ∧ _ := ⟨trivial, Z.cell⟩
      have e := fnShape_ok hf (isB_ok hp)
      have O := oexB_ok h8
      have T : ClsK K C C (.ref g') := ⟨O, Option.isSome_iff_exists.mp h9, h10, He.eqO_ok h12⟩
      have T2 : ClsK K C R (.builtin "ValueError.__init__") := ⟨O, Option.isSome_iff_exists.mp h9, h11, He.eqO_ok h13⟩
      refine ⟨f, fd, wd, hfi, h7, O, ?_, binds_given h5 (by decide +kernel) h6⟩
      rw [e] at lk ⊢
      exact initB_ok (k := 1) h1 lk h2 (scIB_ok h3) lc Z T T2 h14 (He.eqO_ok h15) (He.eqO_ok h16) tR fR FR bR
    · cases h
  · cases h
theorem raise_all {P : Program} {w : World} {K : PySem.W.Frag} {mg : Str → Option Value} {base : Heap} {G : Wd} {gl : GL} {R : Addr} (hR : excRB K P.main.file R = true) (hs : mg "super" = none) (ht : (P.main.scope.names.lookup ("super" : Str)).isSome = false)
    (hC : ∀ x k, gl.clss.lookup x = some k → mg x = some (.ref (G.cls k)) ∧ excBB K P.main.file R (G.cls k) = true) : ∀ c : CC, c.gl = gl → RaiseAll P w K mg base G c := by
  intro c hc X W CL hP hw hK hm hb hcalm hr
  subst hP hw hK hm hb
  intro x k p pos a fa hx hg ho hp he
  rw [hc] at hx
  obtain ⟨m1, m2⟩ := hC x k hx
  obtain ⟨f, fd, wd, f1, f2, f3, f4, f5⟩ := excBB_ok (w := X.w) (base := X.base) hR m2 hs ht
  exact raise_ok (c := c) (k := 2) rfl f3 f1 f2 f4 hr f5 hg m1 (okN_dbg ho).1 hp he
end Sim
set_option Elab.async false
set_option linter.all false
set_option autoImplicit false
set_option maxRecDepth 100000
set_option maxHeartbeats 2000000
/-! Sim2c: what the head's end tells, and a law's end. -/
namespace Sim
open PySem PySem.Spec PyProof.Rows L2 LamX
/-! ### the hook: Bool looks, the defs, the code tables -/
/-! ### a program's card -/
def Card.gl (c : Card) : GL := glOf c.slots (c.clss.filter fun p => !(p.1 == ("Refused" : Str)) && c.rs.contains p.2) c.globs bltNames
def Card.G (c : Card) (K : PySem.W.Frag) : Wd where
  cls := fun k => match c.clss[k]? with
    | some (x, _) => He.ga K x
    | none => 0
  T := c.tf.map fun p => ((He.cT K p).2, lamQ p.1)
/-- the checks of the syntax -/
def findDef (P : Program) (x : Str) : Option (Str × Arguments × List Stmt × Scope) := (topDefs P).find? fun d => d.1 == x
def Card.chk1 (c : Card) (P : Program) (s : Nat × Str × List Str × Bool) : Bool := match c.prg s.1, findDef P s.2.1 with
  | some d, some (_, a, b, sc) => chkDef c.gl s.2.2.1 s.2.2.2 d a b sc && (d.lams.isEmpty || c.lams.contains s.2.1)
  | _, _ => false
section
variable {P : Program} {K : PySem.W.Frag} {mg : Str → Option Value} {h : Heap} {c : Card}
theorem gloB_ok (X : K.In h) (N : h.Ns mainGlobals mg) {x : Str} (e : gloB K x = true) : mg x = some (.ref (He.ga K x)) := He.glo_ok X N (x := x) e
theorem freeB_ok (X : K.In h) (N : h.Ns mainGlobals mg) {x : Str} (e : freeB K x = true) : mg x = none := He.free_ok X N (x := x) e
theorem findDef_ok {x : Str} {d : Str × Arguments × List Stmt × Scope} (e : findDef P x = some d) : d ∈ topDefs P ∧ d.1 = x := by
  unfold findDef at e
  exact ⟨List.mem_of_find?_eq_some e, by simpa using List.find?_some e⟩
theorem lookup_in {α β : Type} [BEq α] [LawfulBEq α] {a : α} {b : β} : ∀ {l : List (α × β)}, l.lookup a = some b → (a, b) ∈ l
  | [], h => by cases h
  | (x, y) :: r, h => by
    rw [List.lookup_cons] at h
    cases e : a == x with
    | true =>
      rw [e] at h
      cases h
      rw [beq_iff_eq.mp e]
      exact List.mem_cons_self
    | false =>
      rw [e] at h
      exact List.mem_cons_of_mem _ (lookup_in h)
theorem nodup_get {α : Type} {a : α} : ∀ {l : List α} {i j : Nat}, l.Nodup → l[i]? = some a → l[j]? = some a → i = j
  | [], i, j, _, h, _ => by simp at h
  | x :: l, 0, 0, _, _, _ => rfl
  | x :: l, 0, j + 1, nd, h1, h2 => by
    simp at h1
    have : a ∈ l := List.mem_of_getElem? (by simpa using h2)
    rw [← h1] at this
    exact absurd this (List.nodup_cons.mp nd).1
  | x :: l, i + 1, 0, nd, h1, h2 => by
    simp at h2
    have : a ∈ l := List.mem_of_getElem? (by simpa using h1)
    rw [← h2] at this
    exact absurd this (List.nodup_cons.mp nd).1
  | x :: l, i + 1, j + 1, nd, h1, h2 => by
    have e := nodup_get (i := i) (j := j) (List.nodup_cons.mp nd).2 (by simpa using h1) (by simpa using h2)
    rw [e]
theorem gl_funs {f : Nat} {x : Str} {clo : Bool} (e : ((c.slots.filter fun s => s.2.2.2 == clo).map fun s => (s.1, s.2.1)).lookup f = some x) : ∃ s ∈ c.slots, s.1 = f ∧ s.2.1 = x ∧ s.2.2.2 = clo := by
  obtain ⟨s, hs, e2⟩ := List.mem_map.mp (lookup_in e)
  obtain ⟨h1, h2⟩ := List.mem_filter.mp hs
  cases e2
  exact ⟨s, h1, rfl, rfl, by simpa using h2⟩
theorem cls_at {x : Str} {k : Nat} (hix : (c.clss.zipIdx.all fun q => q.1.2 == q.2) = true) (e : (x, k) ∈ c.clss) : c.clss[k]? = some (x, k) := by
  obtain ⟨i, hi⟩ := List.getElem?_of_mem e
  have h2 := List.all_eq_true.mp hix ((x, k), i) (by rw [List.mem_zipIdx_iff_getElem?]; exact hi)
  have h3 : k = i := by simpa using h2
  rw [h3] at hi ⊢
  exact hi
theorem lam_fact {base : Heap} {x : Str} {d : Fd} {a : Arguments} {b : List Stmt} {sc : Scope} {fd : FuncData} (x7 : (c.tf.map fun p => (He.cT K p).2).Nodup) (hT : ∀ p ∈ c.tf.map (He.cT K), TabB base mg p.1 p.2) (FD : FunD K x x a b sc [] [] (He.fAd K (x, none)) fd) (hk : (d.lams.isEmpty || c.lams.contains x) = true) :
    d.lams ≠ [] → ∃ cc PP : Addr, fd.code = .ref cc ∧ TabB base mg cc PP ∧ (PP, lamQ x) ∈ (c.G K).T ∧ ∀ p ∈ (c.G K).T, p.1 = PP → p.2 = lamQ x := by
  intro hl
  rw [Bool.or_eq_true] at hk
  have hin : x ∈ c.lams := by
    rcases hk with z | z
    · exact absurd (List.isEmpty_iff.mp z) hl
    · simpa using z
  have hp : (x, none) ∈ c.tf := List.mem_map.mpr ⟨_, hin, rfl⟩
  obtain ⟨oc, od, dV, kV, doc, pm, an, cdv, ct, osl, e, lk, hcd, _, _⟩ := FD.ex
  obtain ⟨cc, rfl⟩ := He.codeIn_ref hcd
  have e1 : fd.code = .ref cc := by rw [e]
  have e2 : He.codeOf K (x, none) = cc := He.codeOf_eq lk e1
  refine ⟨cc, (He.cT K (x, none)).2, e1, ?_, List.mem_map.mpr ⟨_, hp, rfl⟩, fun p hp2 e3 => ?_⟩
  · have := hT _ (List.mem_map.mpr ⟨_, hp, rfl⟩)
    rw [show (He.cT K (x, none)).1 = cc from e2] at this
    exact this
  · obtain ⟨q, hq, rfl⟩ := List.mem_map.mp hp2
    have e4 : q = (x, none) := by
      obtain ⟨i, hi⟩ := List.getElem?_of_mem hq
      obtain ⟨j, hj⟩ := List.getElem?_of_mem hp
      have e5 : (c.tf.map fun p => (He.cT K p).2)[i]? = some (He.cT K (x, none)).2 := by rw [List.getElem?_map, hi]; exact congrArg some e3
      have e6 : (c.tf.map fun p => (He.cT K p).2)[j]? = some (He.cT K (x, none)).2 := by rw [List.getElem?_map, hj]; rfl
      have ij : i = j := nodup_get x7 e5 e6
      rw [ij, hj] at hi
      exact (Option.some.inj hi).symm
    rw [e4]
abbrev DefsAt (c : Card) (P : Program) (K : PySem.W.Frag) : Prop := ∀ d ∈ c.fn P, ∃ fd, FunD K d.name d.qual d.params d.body d.scope (d.dvs K) (d.kws K) (He.fAd K d.at_) fd
theorem defC_of {base : Heap} {clo : Bool} {s : Nat × Str × List Str × Bool} (X : K.In h) (N : h.Ns mainGlobals mg) (S : DefsAt c P K) (hex : c.exK P K = true) (hT : ∀ p ∈ c.tf.map (He.cT K), TabB base mg p.1 p.2) (hs : s ∈ c.slots) (hclo : s.2.2.2 = clo) (hk : c.chk1 P s = true) :
    DefC K mg base (c.G K) c.prg c.gl clo s.1 s.2.1 := by
  unfold Card.exK at hex
  simp only [Bool.and_eq_true, decide_eq_true_eq, List.all_eq_true] at hex
  obtain ⟨⟨⟨⟨⟨⟨x1, x2⟩, x3⟩, x4⟩, x5⟩, x6⟩, x7⟩ := hex
  unfold Card.chk1 at hk
  split at hk
  · rename_i d nm a b sc hd hf
    rw [Bool.and_eq_true] at hk
    obtain ⟨m1, m2⟩ := findDef_ok hf
    have m2 : nm = s.2.1 := m2
    obtain ⟨fd, FD⟩ := S (toDefD (nm, a, b, sc)) (List.mem_map.mpr ⟨_, m1, rfl⟩)
    have FD : FunD K nm nm a b sc [] [] (He.fAd K (nm, none)) fd := FD
    rw [m2] at FD
    exact ⟨He.ga K s.2.1, d, s.2.2.1, s.2.1, a, b, sc, fd, hd, gloB_ok X N (x6 s hs), FD, by rw [← hclo]; exact hk.1, lam_fact x7 hT FD hk.2⟩
  · cases hk
theorem allK_of {w : World} {base : Heap} (X : K.In h) (N : h.Ns mainGlobals mg) (S : DefsAt c P K) (hex : c.exK P K = true) (hT : ∀ p ∈ c.tf.map (He.cT K), TabB base mg p.1 p.2) (ht : (P.main.scope.names.lookup ("super" : Str)).isSome = false) (hix : (c.clss.zipIdx.all fun q => q.1.2 == q.2) = true)
    (hchk : ∀ s ∈ c.slots, c.chk1 P s = true ∨ (s.2.2.2 = true ∧ (∃ a fd ps, mg s.2.1 = some (.ref a) ∧ PySem.W.keepIn K (.ref a) = true ∧ Binds K fd ps []) ∧ ∀ n, (∀ m f, m + 1 = n → PgF P w K mg base (c.G K) c.gl (orcN c.prg c.Wf m f) (m + 3)) → PromC P w K mg base (c.G K) c.prg c.gl (n + 4) s.1 s.2.1 (callN c.prg c.Wf n s.1))) :
    AllK P w K mg base (c.G K) c.prg c.Wf c.gl := by
  have hex0 := hex
  unfold Card.exK at hex
  simp only [Bool.and_eq_true, decide_eq_true_eq, List.all_eq_true] at hex
  obtain ⟨⟨⟨⟨⟨⟨x1, x2⟩, x3⟩, x4⟩, x5⟩, x6⟩, x7⟩ := hex
  refine ⟨fun x hx => freeB_ok X N (x2 x (List.contains_iff_mem.mp (show bltNames.contains x = true from hx))), fun x d hx => ?_, raise_all x4 (freeB_ok X N x1) ht fun x k hx => ?_, fun f x hf => ?_, fun f x hf => ?_⟩
  · have hg := x3 _ (PySem.mem_of_lookup hx)
    unfold globB at hg
    split at hg
    · rename_i v u e1 e2
      refine ⟨u, v, PySem.W.mg_of X N e2, He.relB_ok hg, fun μ H => ?_⟩
      have e1 : dV d = some v := e1
      cases d <;> cases e1
      · exact .non
      · exact .bl _
      · exact .int _
      · exact .str _
    · cases hg
  · obtain ⟨h1, h2⟩ := List.mem_filter.mp (PySem.mem_of_lookup hx)
    have h3 := x5 _ h1
    rw [Bool.or_eq_true] at h3
    have e : (c.G K).cls k = He.ga K x := by
      show (match c.clss[k]? with | some (x, _) => He.ga K x | none => 0) = _
      rw [cls_at hix h1]
    rw [e]
    refine ⟨gloB_ok X N h3.1, ?_⟩
    rw [Bool.and_eq_true] at h2
    rcases h3.2 with z | z
    · rw [Bool.or_eq_true] at z
      rcases z with z | z
      · have h21 : (!((x, k).1 == ("Refused" : Str))) = true := h2.1
        rw [z] at h21
        cases h21
      · have h22 : c.rs.contains (x, k).2 = true := h2.2
        rw [h22] at z
        cases z
    · exact z
  · obtain ⟨s, hs, rfl, rfl, e⟩ := gl_funs (clo := false) (by
      have hf : ((c.slots.filter fun s => !s.2.2.2).map fun s => (s.1, s.2.1)).lookup f = some x := hf
      have : (fun s : Nat × Str × List Str × Bool => s.2.2.2 == false) = fun s => !s.2.2.2 := by
        funext s
        cases s.2.2.2 <;> rfl
      rw [this]
      exact hf)
    rcases hchk s hs with z | ⟨z, _⟩
    · exact defC_of X N S hex0 hT hs e z
    · rw [e] at z
      cases z
  · obtain ⟨s, hs, rfl, rfl, e⟩ := gl_funs (clo := true) (by
      have hf : ((c.slots.filter fun s => s.2.2.2).map fun s => (s.1, s.2.1)).lookup f = some x := hf
      have : (fun s : Nat × Str × List Str × Bool => s.2.2.2 == true) = fun s => s.2.2.2 := by
        funext s
        cases s.2.2.2 <;> rfl
      rw [this]
      exact hf)
    rcases hchk s hs with z | ⟨_, z⟩
    · exact .inl (defC_of X N S hex0 hT hs e z)
    · exact .inr z
end
end Sim
set_option Elab.async false
set_option linter.all false
set_option autoImplicit false
set_option maxRecDepth 100000
set_option maxHeartbeats 2000000
/-! Sim2d: a law's promise, from what its def computes. -/
namespace Sim
open PySem PySem.Spec PyProof.Rows L2 LamX
section
variable {P : Program} {w : World} {K : PySem.W.Frag} {mg : Str → Option Value} {base : Heap} {G : Wd} {k : Nat} {fa : Addr} {fd : FuncData} {x : Str} {m : List D → M D}
/-- the law's promise -/
def spL (K : PySem.W.Frag) (T : List (Addr × Str)) (n : Nat) : Sp := fun vs H Q _ => ∃ (a : Addr) (ns : List Int), vs = [.ref a] ∧ ns.length ≤ n ∧ (∀ z ∈ ns, Builtin.Int.intBits z ≤ 1048576) ∧ Tabs T H ∧ SqL K H a (ns.map V.int) ∧ ∀ H', Q (.bl true) H'
/-- a list that is owned, frozen -/
theorem env_frz {A : Around} {outer : List Env} {s : Shared} {H : Hp} {a : Addr} {xs : List V} {o : Obj} (e0 : Env0 P w K mg base A outer s H) (ha : H a = some (.lst xs)) (ho : s.heap.get? a = some o) : Env0 P w K mg base A outer s (upd H a (.frz o (.lst xs))) := by
  have ne : ∀ b, H b = none → b ≠ a := fun b hb z => by rw [z, ha] at hb; cases hb
  refine ⟨e0.frames, e0.mod, fun b u e => ⟨(e0.bs b u e).1, by rw [upd_ne (ne b (e0.bs b u e).2)]; exact (e0.bs b u e).2⟩, e0.bsz, e0.funs, fun b hb => by rw [upd_ne (ne b (e0.frf b hb))]; exact e0.frf b hb, fun b u e => ?_, e0.bare⟩
  have own : ∀ c, H c = some (.own b) → upd H a (.frz o (.lst xs)) c = some (.own b) := fun c e2 => by rw [upd_ne (fun z => by rw [z, ha] at e2; cases e2)]; exact e2
  have tup : ∀ c ys, H c = some (.tup ys) → upd H a (.frz o (.lst xs)) c = some (.tup ys) := fun c ys e2 => by rw [upd_ne (fun z => by rw [z, ha] at e2; cases e2)]; exact e2
  by_cases hb : b = a
  · subst hb
    rw [upd_same] at e
    cases e
    exact ⟨ho, (e0.hok b _ ha).stay (fun _ _ _ q => q) own tup⟩
  · rw [upd_ne hb] at e
    exact (e0.hok b u e).stay (fun _ _ _ q => q) own tup
theorem un_frz {fs : List Addr} {H H' : Hp} {h h' : Heap} {a : Addr} {xs : List V} {o : Obj} (ha : H a = some (.lst xs)) (u : Un fs [] (upd H a (.frz o (.lst xs))) H' h h') : Un fs [] H H' h h' := by
  have ne : ∀ b, H b = none → upd H a (.frz o (.lst xs)) b = none := fun b hb => by rw [upd_ne (fun z => by rw [z, ha] at hb; cases hb)]; exact hb
  have nt : ∀ b v, H b = some v → v ≠ .lst xs → upd H a (.frz o (.lst xs)) b = some v := fun b v e n => by rw [upd_ne (fun z => by rw [z, ha] at e; cases e; exact n rfl)]; exact e
  exact ⟨fun b q e n => u.keep b q e (ne b n), fun b q e n => u.slot b q e (ne b n), fun b q e n => u.free b q e (ne b n), u.there, fun b ys e => u.tups b ys (nt b _ e fun z => by cases z), fun b q v e => u.frzs b q v (nt b _ e fun z => by cases z), fun b ps e => u.tbls b ps (nt b _ e fun z => by cases z)⟩
theorem law_fnOk {n : Nat} (F : FnOk P w K mg base (L2N.CX P w) k fa fd [x] (SpC K G 1 m)) (hm : ∀ ns : List Int, ns.length ≤ n → (∀ z ∈ ns, Builtin.Int.intBits z ≤ 1048576) → ∃ S', m [.klst (ns.map D.int)] [] = some (.val (.bl true), S')) : FnOk P w K mg base (L2N.CX P w) k fa fd [x] (spL K G.T n) := by
  refine ⟨fun vs H Q E ⟨a, ns, e, _⟩ => by rw [e]; rfl, fun A outer s H args us vs Q E hr e0 hb r hsp => ?_⟩
  obtain ⟨a, ns, rfl, hl, hbits, hT, hS, hQ⟩ := hsp
  obtain ⟨S', hS'⟩ := hm ns hl hbits
  have spc : ∀ H2 : Hp, Tabs G.T H2 → SqR K H2 a (ns.map V.int) → SpC K G 1 m [.ref a] H2 (fun v _ => v = .bl true) fun _ _ _ => False := fun H2 T2 hs =>
    ⟨rfl, [], [], [.klst (ns.map D.int)], ⟨rfl, List.nodup_nil, fun r mo e => by simp at e, T2⟩, .cons (.klst hs (Reps.ofInts ns)) .nil, .val (.bl true), S', hS', fun μ' H' v _ _ rv => by cases rv; rfl⟩
  have go : ∀ H2 : Hp, Env0 P w K mg base A outer s H2 → Tabs G.T H2 → SqR K H2 a (ns.map V.int) → (∀ H' h', Un (frs outer) [] H2 H' s.heap h' → Un (frs outer) [] H H' s.heap h') → codeAny (model P w) A (.call (.ref fa) args) (CR (L2N.CX P w) outer P w H s Q E) s := fun H2 e2 T2 hs back => by
    refine codeAny_mono (F.run A outer s H2 args us [.ref a] _ _ hr e2 hb r (spc H2 T2 hs)) fun rr s' h => ?_
    cases rr with
    | error e =>
      obtain ⟨_, _, _, _, _, _, _, _, _, _, _, _, z⟩ := h
      exact z.elim
    | ok fl =>
      cases fl with
      | next => exact False.elim h
      | brk => exact False.elim h
      | cont => exact False.elim h
      | ret u =>
        obtain ⟨v, H', os, bare, un, hok, rv, q⟩ := h
        have q : v = .bl true := q
        rw [q] at rv
        exact ⟨.bl true, H', os, bare, back _ _ un, hok, rv, hQ H'⟩
  rcases hS with (ho | ⟨o, ho⟩) | hk
  · obtain ⟨_, its, n', _, hg⟩ := e0.hok a _ ho
    refine go _ (env_frz e0 ho hg) (Tabs.upd hT fun b u e z q => ?_) (.inl ⟨_, upd_same⟩) fun H' h' u => un_frz ho u
    rw [q, ho] at e
    cases e
    rcases z with ⟨_, z⟩ | ⟨_, z⟩ <;> cases z
  · exact go H e0 hT (.inl ⟨o, ho⟩) fun _ _ u => u
  · exact go H e0 hT (.inr hk) fun _ _ u => u
end
/-- what a program's closures ask besides -/
def HearW (P : Program) (w : World) (K : PySem.W.Frag) (mg : Str → Option Value) (c : Card) (s : Nat × Str × List Str × Bool) (base : Heap) : Prop := s.2.2.2 = true ∧ (∃ a fd ps, mg s.2.1 = some (.ref a) ∧ PySem.W.keepIn K (.ref a) = true ∧ Binds K fd ps []) ∧
  ∀ n, (∀ m f, m + 1 = n → PgF P w K mg base (c.G K) c.gl (orcN c.prg c.Wf m f) (m + 3)) → PromC P w K mg base (c.G K) c.prg c.gl (n + 4) s.1 s.2.1 (callN c.prg c.Wf n s.1)
theorem law_at {l : PySem.W.OpenLaw} {c : Card} {w : World} {K : PySem.W.Frag} {mg : Str → Option Value} {h : Heap} {fa : Addr} {ex : PySem.W.Frag → Bool} {n m : Nat} {x : Str} {s : Nat × Str × List Str × Bool} (X : K.In h) (N : h.Ns mainGlobals mg) (S : SaysS (c.fn l.prog) c.tf ex h K) (hex : c.exK l.prog K = true)
    (ht : (l.prog.main.scope.names.lookup ("super" : Str)).isSome = false) (hix : (c.clss.zipIdx.all fun q => q.1.2 == q.2) = true) (hs : s ∈ c.slots) (hclo : s.2.2.2 = false) (hk : c.chk1 l.prog s = true) (hfa : mg s.2.1 = some (.ref fa)) (hx : ((findDef l.prog s.2.1).bind fun d => argsOf d.2.1) = some [x])
    (hchk : ∀ base : Heap, K.In base → base.Ns mainGlobals mg → ∀ s ∈ c.slots, c.chk1 l.prog s = true ∨ HearW l.prog w K mg c s base)
    (plain : ∀ ns : List Int, ns.length ≤ m → (∀ z ∈ ns, Builtin.Int.intBits z ≤ 1048576) → ∃ S', callN c.prg c.Wf n s.1 [.klst (ns.map D.int)] [] = some (.val (.bl true), S')) :
    LawAtS l w K (L2N.CX l.prog w) (n + 4) m x mg fa h := by
  have hk0 := hk
  have hex0 := hex
  unfold Card.exK at hex
  simp only [Bool.and_eq_true, decide_eq_true_eq, List.all_eq_true] at hex
  obtain ⟨⟨⟨⟨⟨⟨x1, x2⟩, x3⟩, x4⟩, x5⟩, x6⟩, x7⟩ := hex
  unfold Card.chk1 at hk
  split at hk
  · rename_i d nm a b sc hd hf
    rw [Bool.and_eq_true] at hk
    obtain ⟨m1, m2⟩ := findDef_ok hf
    have m2 : nm = s.2.1 := m2
    obtain ⟨fd, FD⟩ := S.fns (toDefD (nm, a, b, sc)) (List.mem_map.mpr ⟨_, m1, rfl⟩)
    have FD : FunD K nm nm a b sc [] [] (He.fAd K (nm, none)) fd := FD
    rw [m2] at FD
    have hm := gloB_ok X N (x6 s hs)
    rw [hfa] at hm
    cases hm
    rw [hf] at hx
    have hx : argsOf a = some [x] := hx
    have hc : chkDef c.gl s.2.2.1 false d a b sc = true := by rw [← hclo]; exact hk.1
    obtain ⟨l0, ea, el⟩ := argsOf_eq hx
    refine ⟨fd, c.tf.map (He.cT K), spL K (c.G K).T m, fun p hp => ?_, fun p hp => ?_, fun p hp => ?_, fun s0 u => ?_, fun H a2 ns hl hb hT hS => ⟨a2, ns, rfl, hl, hb, fun p hp => ?_, hS, fun _ => rfl⟩, fun base KB NB TB => ?_⟩
    · obtain ⟨q, hq, rfl⟩ := List.mem_map.mp hp
      exact S.empty q hq
    · obtain ⟨q, hq, rfl⟩ := List.mem_map.mp hp
      exact S.out q hq
    · obtain ⟨q, hq, rfl⟩ := List.mem_map.mp hp
      exact PySem.W.codeHd_of_K X (S.hd q hq)
    · have := FD.bindsA (ps := [x]) (fun kV doc pm an cdv ct us hl => by
        rw [el]
        exact bind_plain (by rw [← el]; simp) ea rfl (by rw [hl, el, List.length_map])) s0 [u] rfl
      exact this
    · obtain ⟨q, hq, rfl⟩ := List.mem_map.mp hp
      refine ⟨#[], hT _ (List.mem_map.mpr ⟨q, hq, rfl⟩), ?_, fun pos cv hcv => ?_⟩
      · exact (by simp [TriplesOk] : TriplesOk (#[] : Array Value).toList)
      · cases hcv
    · have A := allK_of (w := w) KB NB S.fns hex0 TB ht hix (hchk base KB NB)
      exact law_fnOk (def_fn A hd FD hc (lam_fact x7 TB FD hk.2) hx ((all_ok A n).1.1 _) ((all_ok A n).2 _)) plain
  · cases hk
end Sim
set_option Elab.async false
set_option linter.all false
set_option autoImplicit false
set_option maxRecDepth 100000
set_option maxHeartbeats 2000000
/-! Sim2e: the hearing def, by looks. -/
namespace Sim
open PySem PySem.Spec PyProof.Rows L2 LamX
abbrev pAt (p : List Pos) (i : Nat) : Pos := p.getD i default
/-- the hearing def's body -/
def hearBody (told dd y ln cn : Str) (csc : Scope) (p : List Pos) : List Stmt :=
  [.Try [.Return (some (.Tuple [.Constant (.str told) 0 (pAt p 0), .Call (.Name dd (pAt p 1)) [] [] (pAt p 2)] 0 (pAt p 3))) (pAt p 4)]
    [.ExceptHandler (some (.Name "Refused" (pAt p 5))) (some y) [.Return (some (.Tuple [.Call (.Attribute (.Constant (.str " ") 0 (pAt p 6)) "join" (pAt p 7))
      [.ListComp (.Subscript (.Name ln (pAt p 8)) (.Constant (.int 0) 0 (pAt p 9)) (pAt p 10)) [⟨.Name ln (pAt p 11), .Call (.Name cn (pAt p 12)) [.Name y (pAt p 13)] [] (pAt p 14), [.Subscript (.Name ln (pAt p 15)) (.Constant (.int 1) 0 (pAt p 16)) (pAt p 17)], 0⟩] csc (pAt p 18)] [] (pAt p 19),
      .Attribute (.Name y (pAt p 20)) "what" (pAt p 21)] 0 (pAt p 22))) (pAt p 23)] (pAt p 24)] [] [] (pAt p 25)]
structure HearA where
  told : Str
  dd : Str
  y : Str
  ln : Str
  cn : Str
  csc : Scope
  p : List Pos
def isHeard : List Stmt → Option HearA
  | [.Try [.Return (some (.Tuple [.Constant (.str told) 0 p0, .Call (.Name dd p1) [] [] p2] 0 p3)) p4]
    [.ExceptHandler (some (.Name rf p5)) (some y) [.Return (some (.Tuple [.Call (.Attribute (.Constant (.str bl) 0 p6) jn p7)
      [.ListComp (.Subscript (.Name l1 p8) (.Constant (.int i0) 0 p9) p10) [⟨.Name l2 p11, .Call (.Name cn p12) [.Name y1 p13] [] p14, [.Subscript (.Name l3 p15) (.Constant (.int i1) 0 p16) p17], 0⟩] csc p18] [] p19,
      .Attribute (.Name y2 p20) wh p21] 0 p22)) p23] p24] [] [] p25] =>
    if rf = "Refused" ∧ bl = " " ∧ jn = "join" ∧ i0 = 0 ∧ i1 = 1 ∧ wh = "what" ∧ l2 = l1 ∧ l3 = l1 ∧ y1 = y ∧ y2 = y then some ⟨told, dd, y, l1, cn, csc, [p0, p1, p2, p3, p4, p5, p6, p7, p8, p9, p10, p11, p12, p13, p14, p15, p16, p17, p18, p19, p20, p21, p22, p23, p24, p25]⟩ else none
  | _ => none
theorem isHeard_ok {b : List Stmt} {A : HearA} (h : isHeard b = some A) : b = hearBody A.told A.dd A.y A.ln A.cn A.csc A.p := by
  unfold isHeard at h
  split at h
  · split at h
    · rename_i hh
      obtain ⟨rfl, rfl, rfl, rfl, rfl, rfl, rfl, rfl, rfl, rfl⟩ := hh
      cases h
      rfl
    · cases h
  · cases h
/-- the list of the classes -/
def isClasses : List Stmt → Option (List Expr)
  | [.Return (some (.List es _)) _] => some es
  | _ => none
theorem isClasses_ok {b : List Stmt} {es : List Expr} (h : isClasses b = some es) : ∃ p1 p2, b = [.Return (some (.List es p1)) p2] := by
  unfold isClasses at h
  split at h
  · cases h
    exact ⟨_, _, rfl⟩
  · cases h
def chkEnt (clss : List (Str × Nat)) (sc : Scope) (x : Str) (e : Expr) (q : Str × Nat) : Bool := match e with
  | .Tuple [.Constant (.str m) 0 _, .Call (.Name f _) [.Name y _, .Name cn _] [] _] 0 _ => decide (m = q.1) && decide (f = "isinstance") && decide (y = x) && decide (clss.lookup cn = some q.2) && okN cn && glB sc cn
  | _ => false
def chkEnts (clss : List (Str × Nat)) (sc : Scope) (x : Str) : List Expr → List (Str × Nat) → Bool
  | [], [] => true
  | e :: es, q :: qs => chkEnt clss sc x e q && chkEnts clss sc x es qs
  | _, _ => false
theorem chkEnts_ok {K : PySem.W.Frag} {mg : Str → Option Value} {G : Wd} {clss : List (Str × Nat)} {sc : Scope} {x : Str} {j : Nat} (hm : ∀ cn k, clss.lookup cn = some k → mg cn = some (.ref (G.cls k))) : ∀ {es : List Expr} {g : List (Str × Nat)}, (∀ q ∈ g, PySem.W.kitOne K (.ref (G.cls j)) (.ref (G.cls q.2)) = some (q.2 == j)) → chkEnts clss sc x es g = true → EntsI K mg (G.cls j) sc x es (g.map fun p => (p.1, p.2 == j))
  | [], [], _, _ => .nil
  | [], _ :: _, _, h => by cases h
  | _ :: _, [], _, h => by cases h
  | e :: es, q :: qs, hk, h => by
    unfold chkEnts at h
    rw [Bool.and_eq_true] at h
    have ih := chkEnts_ok hm (fun z hz => hk z (List.mem_cons_of_mem _ hz)) h.2
    have h1 := h.1
    unfold chkEnt at h1
    split at h1
    · simp only [Bool.and_eq_true, decide_eq_true_eq] at h1
      obtain ⟨⟨⟨⟨⟨rfl, rfl⟩, rfl⟩, e4⟩, e5⟩, e6⟩ := h1
      exact .cons (hm _ _ e4) (hk q List.mem_cons_self) e5 e6 ih
    · cases h1
/-- the checks of the syntax -/
def Card.chkHear (c : Card) (P : Program) (s : Nat × Str × List Str × Bool) : Bool := match c.prg s.1, (findDef P s.2.1).bind fun d => (isHeard d.2.2.1).map fun A => (d, A) with
  | some ⟨1, 3, .cons (.heard 0 told g rs) .nil, []⟩, some ((_, a, _, sc), A) => s.2.2.2 && decide (told = A.told) && decide (argsOf a = some [A.dd]) && fnScopeB [A.dd, A.y, A.ln] [A.dd] sc && okN A.dd && okN A.y && okN A.ln && okN A.cn && visB sc A.dd && decide (sc.names.lookup A.y = some .local) && glB sc "Refused" && glB sc A.cn &&
    blkB [A.dd, A.y, A.ln] sc A.csc [(A.ln, 2)] && decide ((relS A.csc sc).names.lookup A.ln = some .local) && ((pAt A.p 7).endLine == (pAt A.p 19).line) && decide (g.length ≤ 1000) && decide ((g.map (·.1.length)).sum + g.length ≤ 16777216) && (g.all fun q => (hearG c).any fun p => p.2 == q.2) && (rs.all fun j => c.rs.contains j && (hearG c).any fun p => p.2 == j) &&
    (match (findDef P A.cn).bind fun d => (isClasses d.2.2.1).bind fun es => (argsOf d.2.1).map fun ps => (d, es, ps) with
      | some ((_, _, _, sc2), es, [x]) => fnScopeB [x] [x] sc2 && visB sc2 x && okN x && glB sc2 "isinstance" && decide (es.length ≤ 1000) && chkEnts c.clss sc2 x es g
      | _ => false)
  | _, _ => false
theorem excCB_ok {K : PySem.W.Frag} {D : Addr} (h : excCB K D = true) : ExcC K D ∧ XfC K D := by
  unfold excCB at h
  simp only [Bool.and_eq_true, decide_eq_true_eq] at h
  obtain ⟨⟨⟨⟨⟨⟨⟨h1, h2⟩, h3⟩, h4⟩, h5⟩, h6⟩, h7⟩, h8⟩ := h
  exact ⟨⟨He.eqO_ok h1, He.eqO_ok h2, h3, h4, He.eqO_ok h5, He.eqO_ok h6, h7, h8⟩, ⟨He.eqO_ok h1, He.eqO_ok h2, h3, h4⟩⟩
/-- the looks at K -/
theorem hear_of {P : Program} {w : World} {K : PySem.W.Frag} {mg : Str → Option Value} {h base : Heap} {c : Card} {s : Nat × Str × List Str × Bool} (X : K.In h) (N : h.Ns mainGlobals mg) (S : DefsAt c P K) (hex : c.exK P K = true) (hH : c.exH K = true) (hix : (c.clss.zipIdx.all fun q => q.1.2 == q.2) = true) (hr : (("Refused" : Str), (0 : Nat)) ∈ c.clss) (hs : s ∈ c.slots) (hcn : ∀ A, (findDef P s.2.1).bind (fun d => (isHeard d.2.2.1).map fun A => (d, A)) = some A → gloB K A.2.cn = true) (hk : c.chkHear P s = true) : HearW P w K mg c s base := by
  unfold Card.exK at hex
  simp only [Bool.and_eq_true, decide_eq_true_eq, List.all_eq_true] at hex
  obtain ⟨⟨⟨⟨⟨⟨x1, x2⟩, x3⟩, x4⟩, x5⟩, x6⟩, x7⟩ := hex
  unfold Card.chkHear at hk
  split at hk
  · rename_i told g rs nm a b sc A hP hA
    have hcn := hcn _ hA
    have hcn : gloB K A.cn = true := hcn
    simp only [Bool.and_eq_true, decide_eq_true_eq] at hk
    obtain ⟨⟨⟨⟨⟨⟨⟨⟨⟨⟨⟨⟨⟨⟨⟨⟨⟨⟨⟨k1, k2⟩, k3⟩, k4⟩, k5⟩, k6⟩, k7⟩, k8⟩, k9⟩, k10⟩, k11⟩, k12⟩, k13⟩, k14⟩, k15⟩, k16⟩, k17⟩, k19⟩, k20⟩, k18⟩ := hk
    obtain ⟨d0, hf, hA2⟩ := Option.bind_eq_some_iff.mp hA
    obtain ⟨A', hA3, hA4⟩ := Option.map_eq_some_iff.mp hA2
    cases hA4
    obtain ⟨m1, m2⟩ := findDef_ok hf
    have m2 : nm = s.2.1 := m2
    obtain ⟨fd, FD⟩ := S (toDefD (nm, a, b, sc)) (List.mem_map.mpr ⟨_, m1, rfl⟩)
    have FD : FunD K nm nm a b sc [] [] (He.fAd K (nm, none)) fd := FD
    rw [m2] at FD
    have hb : b = hearBody A.told A.dd A.y A.ln A.cn A.csc A.p := isHeard_ok hA3
    split at k18
    · rename_i nm2 a2 b2 sc2 es x hE
      simp only [Bool.and_eq_true, decide_eq_true_eq] at k18
      obtain ⟨⟨⟨⟨⟨j1, j2⟩, j3⟩, j4⟩, j5⟩, j6⟩ := k18
      obtain ⟨d2, hf2, hE2⟩ := Option.bind_eq_some_iff.mp hE
      obtain ⟨es', hE3, hE4⟩ := Option.bind_eq_some_iff.mp hE2
      obtain ⟨ps', hE5, hE6⟩ := Option.map_eq_some_iff.mp hE4
      cases hE6
      obtain ⟨n1, n2⟩ := findDef_ok hf2
      have n2 : nm2 = A.cn := n2
      obtain ⟨fd2, FD2⟩ := S (toDefD (nm2, a2, b2, sc2)) (List.mem_map.mpr ⟨_, n1, rfl⟩)
      have FD2 : FunD K nm2 nm2 a2 b2 sc2 [] [] (He.fAd K (nm2, none)) fd2 := FD2
      rw [n2] at FD2
      have clsG : ∀ p ∈ c.clss, (c.G K).cls p.2 = He.ga K p.1 := fun p hp => by
        show (match c.clss[p.2]? with | some (x, _) => He.ga K x | none => 0) = _
        rw [cls_at hix hp]
      have hm : ∀ cn k, c.clss.lookup cn = some k → mg cn = some (.ref ((c.G K).cls k)) := fun cn k e => by
        have hp := lookup_in e
        rw [clsG _ hp]
        have z := x5 _ hp
        exact gloB_ok X N z.1
      have inG : ∀ j ∈ g.map (·.2), ∃ p ∈ hearG c, p.2 = j := fun j hj => by
        obtain ⟨q, hq, rfl⟩ := List.mem_map.mp hj
        have := List.all_eq_true.mp k19 q hq
        obtain ⟨p, hp, e⟩ := List.any_eq_true.mp this
        exact ⟨p, hp, by simpa using e⟩
      have inR : ∀ j ∈ rs, ∃ p ∈ (hearG c).filter fun p => c.rs.contains p.2, p.2 = j := fun j hj => by
        have := List.all_eq_true.mp k20 j hj
        rw [Bool.and_eq_true] at this
        obtain ⟨p, hp, e⟩ := List.any_eq_true.mp this.2
        have e : p.2 = j := by simpa using e
        exact ⟨p, List.mem_filter.mpr ⟨hp, by rw [e]; exact this.1⟩, e⟩
      unfold Card.exH at hH
      simp only [List.all_eq_true, Bool.and_eq_true, decide_eq_true_eq] at hH
      have HK : HearK K mg (c.G K) g rs (He.ga K "Refused") A.cn := by
        refine ⟨⟨sc2, es, x, He.ga K A.cn, fd2, ?_, gloB_ok X N hcn, fun j hj => ?_⟩, fun j hj => ?_, ?_, k17, k16⟩
        · obtain ⟨p1, p2, eb⟩ := isClasses_ok hE3
          have eb : b2 = [.Return (some (.List es p1)) p2] := eb
          subst eb
          obtain ⟨oc, od, dV, kV, doc, pm, an, cdv, ct, osl, e1, lk, hcd, _, _⟩ := FD2.ex
          exact ⟨⟨_, _, _, dV, kV, doc, pm, cdv, ct, oc, an, od, osl, p1, p2, e1, lk, hcd⟩, fnScopeB_ok j1, visB_vis j2, j3, funD_binds FD2 hE5 (by simp), j4, freeB_ok X N (x2 "isinstance" (by decide +kernel)), FD2.kp, j5⟩
        · obtain ⟨p, hp0, rfl⟩ := inR j hj
          have hp := (List.mem_filter.mp hp0).1
          obtain ⟨_, hkit⟩ := hH p hp0
          refine chkEnts_ok hm (fun q hq => ?_) j6
          obtain ⟨p', hp', e'⟩ := inG q.2 (List.mem_map.mpr ⟨q, hq, rfl⟩)
          have z := hkit p' hp'
          rw [clsG p (List.mem_filter.mp hp).1, ← e', clsG p' (List.mem_filter.mp hp').1]
          exact z
        · obtain ⟨p, hp0, rfl⟩ := inR j hj
          have hp := (List.mem_filter.mp hp0).1
          obtain ⟨⟨⟨z1, z2⟩, z3⟩, _⟩ := hH p hp0
          rw [clsG p (List.mem_filter.mp hp).1]
          obtain ⟨z4, z5⟩ := excCB_ok z1
          exact ⟨z4, z5, He.eqO_ok z2, z3⟩
        · exact gloB_ok X N (x5 _ hr).1
      have hps := funD_binds FD k3 (by simp)
      refine ⟨k1, ⟨He.ga K s.2.1, fd, [A.dd], gloB_ok X N (x6 s hs), FD.kp, hps⟩, fun n hF => ⟨He.ga K s.2.1, fd, [A.dd], gloB_ok X N (x6 s hs), FD.kp, hps, fun ds St r hc => callN_np hP hc, ?_⟩⟩
      obtain ⟨oc, od, dV, kV, doc, pm, an, cdv, ct, osl, e1, lk, hcd, _, _⟩ := FD.ex
      subst hb
      rw [← k2] at e1
      rw [e1] at lk ⊢
      exact heard_ok (RA := He.ga K "Refused") hP lk hcd (fnScopeB_ok k4) k5 k6 k7 k8 (visB_vis k9) k10 k11 k12 (blkB_ok k13) k14 k15 HK hF
    · cases k18
  · cases hk
end Sim
set_option linter.all false
set_option autoImplicit false
/-! Sim3a: what a run of Sim0 comes to, backwards: rules for weakest preconditions. -/
namespace Sim
open PySem (Str PyData)
def wp {α : Type} (m : M α) (S : Store) (Q : Ex α → Store → Prop) : Prop := ∃ r S', m S = some (r, S') ∧ Q r S'
def wr (r : R) (Q : Out → Loc → Store → Prop) : Prop := ∃ o L S, r = some (o, L, S) ∧ Q o L S
/-- what comes behind: a value goes on, an exception goes out -/
def thn {α β : Type} (Q : Ex β → Store → Prop) (f : α → Store → Prop) : Ex α → Store → Prop
  | .val a, S => f a S
  | .exc x, S => Q (.exc x) S
section
variable {α β : Type} {S : Store} {Q : Ex β → Store → Prop}
theorem thn_val (f : α → Store → Prop) (a : α) : thn Q f (.val a) S = f a S := rfl
theorem thn_exc (f : α → Store → Prop) (x : Exn) : thn Q f (.exc x) S = Q (.exc x) S := rfl
theorem wp_ok {a : β} : wp (ok a) S Q = Q (.val a) S := propext ⟨(fun ⟨_, _, h, q⟩ => by cases h; exact q), fun q => ⟨_, _, rfl, q⟩⟩
theorem wp_stk : wp (stk : M β) S Q = False := propext ⟨(fun ⟨_, _, h, _⟩ => by cases h), False.elim⟩
/-- what comes behind a bind, held back -/
def bk {α β : Type} (f : α → M β) (Q : Ex β → Store → Prop) : Ex α → Store → Prop
  | .val a, S => wp (f a) S Q
  | .exc x, S => Q (.exc x) S
theorem bk_val (f : α → M β) (a : α) : bk f Q (.val a) S = wp (f a) S Q := rfl
theorem bk_exc (f : α → M β) (x : Exn) : bk f Q (.exc x) S = Q (.exc x) S := rfl
theorem wp_bd {m : M α} {f : α → M β} : wp (bd m f) S Q = wp m S (bk f Q) := propext <| by
  constructor
  · rintro ⟨r, S', h, q⟩
    simp only [bd] at h
    split at h
    · rename_i a S1 e
      exact ⟨_, _, e, ⟨r, S', h, q⟩⟩
    · rename_i x S1 e
      cases h
      exact ⟨_, _, e, q⟩
    · cases h
  · rintro ⟨r, S', h, q⟩
    cases r with
    | val a =>
      obtain ⟨r, S2, h2, q⟩ := q
      exact ⟨r, S2, by simp only [bd, h, h2], q⟩
    | exc x => exact ⟨.exc x, S', by simp only [bd, h], q⟩
theorem wp_ofO {o : Option β} : wp (ofO o) S Q = ∃ d, o = some d ∧ Q (.val d) S := propext <| by
  constructor
  · rintro ⟨r, S', h, q⟩
    cases o with
    | none => cases h
    | some d => cases h; exact ⟨d, rfl, q⟩
  · rintro ⟨d, rfl, q⟩
    exact ⟨_, _, rfl, q⟩
theorem wp_map {o : Option α} {g : α → β} : wp (fun S => o.map fun c => (Ex.val (g c), S)) S Q = ∃ d, o = some d ∧ Q (.val (g d)) S := propext <| by
  constructor
  · rintro ⟨r, S', h, q⟩
    cases o with
    | none => cases h
    | some d => cases h; exact ⟨d, rfl, q⟩
  · rintro ⟨d, rfl, q⟩
    exact ⟨_, _, rfl, q⟩
theorem wp_guard {c : Bool} {m : M β} : wp (guard' c m) S Q = (c = true ∧ wp m S Q) := propext <| by
  constructor
  · rintro ⟨r, S', h, q⟩
    simp only [guard'] at h
    split at h
    · rename_i e; exact ⟨e, r, S', h, q⟩
    · cases h
  · rintro ⟨e, r, S', h, q⟩
    exact ⟨r, S', by simp only [guard', e, if_true, h], q⟩
theorem wp_alloc {o : MO} {T : Ex D → Store → Prop} : wp (alloc o) S T = T (.val (.ref S.length)) (S ++ [o]) :=
  propext ⟨(fun ⟨_, _, h, q⟩ => by cases h; exact q), fun q => ⟨_, _, rfl, q⟩⟩
theorem wp_noX {m : M β} (h : wp m S (thn (β := β) (fun _ _ => False) fun a S1 => Q (.val a) S1)) : wp (noX m) S Q := by
  obtain ⟨r, S', h, q⟩ := h
  cases r with
  | val a => exact ⟨.val a, S', by simp only [noX, h], q⟩
  | exc x => exact q.elim
theorem wp_tru {d : D} {T : Ex Bool → Store → Prop} : wp (tru d) S T = ∃ b, truD S d = some b ∧ T (.val b) S := propext <| by
  constructor
  · rintro ⟨r, S', h, q⟩
    simp only [tru] at h
    cases e : truD S d with
    | none => rw [e] at h; cases h
    | some b => rw [e] at h; cases h; exact ⟨b, rfl, q⟩
  · rintro ⟨b, e, q⟩
    exact ⟨_, _, by simp only [tru, e, Option.map_some], q⟩
theorem wp_ite {c : Prop} [Decidable c] {m n : M β} : wp (if c then m else n) S Q = if c then wp m S Q else wp n S Q := by split <;> rfl
theorem wp_eq {m : M β} {r : Ex β} {S1 : Store} (h : m S = some (r, S1)) (q : Q r S1) : wp m S Q := ⟨r, S1, h, q⟩
theorem wp_mono {m : M β} {P : Ex β → Store → Prop} (h : wp m S P) (q : ∀ r S1, P r S1 → Q r S1) : wp m S Q := by
  obtain ⟨r, S1, e, p⟩ := h
  exact ⟨r, S1, e, q r S1 p⟩
/-- a value, with what holds of it -/
def wv {β : Type} (m : M β) (S : Store) (P : β → Store → Prop) : Prop := ∃ v S', m S = some (.val v, S') ∧ P v S'
theorem wp_wv {m : M β} {P : β → Store → Prop} (h : wv m S P) (q : ∀ v S1, P v S1 → Q (.val v) S1) : wp m S Q := by
  obtain ⟨v, S1, e, p⟩ := h
  exact ⟨.val v, S1, e, q v S1 p⟩
theorem wv_wp {m : M β} {P : β → Store → Prop} (h : wp m S (thn (β := β) (fun _ _ => False) P)) : wv m S P := by
  obtain ⟨r, S1, e, p⟩ := h
  cases r with
  | val v => exact ⟨v, S1, e, p⟩
  | exc x => exact p.elim
end
section
variable {S : Store} {L : Loc} {Q : Out → Loc → Store → Prop}
theorem wr_some {o : Out} : wr (some (o, L, S)) Q = Q o L S := propext ⟨(fun ⟨_, _, _, h, q⟩ => by cases h; exact q), fun q => ⟨_, _, _, rfl, q⟩⟩
theorem wr_none : wr none Q = False := propext ⟨(fun ⟨_, _, _, h, _⟩ => by cases h), False.elim⟩
def ek {α : Type} (L : Loc) (k : α → Store → R) (Q : Out → Loc → Store → Prop) : Ex α → Store → Prop
  | .val a, S => wr (k a S) Q
  | .exc x, S => Q (.exc x) L S
theorem ek_val {α : Type} (k : α → Store → R) (a : α) : ek L k Q (.val a) S = wr (k a S) Q := rfl
theorem ek_exc {α : Type} (k : α → Store → R) (x : Exn) : ek L k Q (.exc x) S = Q (.exc x) L S := rfl
theorem wr_ex {α : Type} {m : M α} {k : α → Store → R} : wr (ex m L S k) Q = wp m S (ek L k Q) := propext <| by
  constructor
  · rintro ⟨o, L', S', h, q⟩
    simp only [ex] at h
    split at h
    · rename_i a S1 e
      exact ⟨_, _, e, ⟨o, L', S', h, q⟩⟩
    · rename_i x S1 e
      cases h
      exact ⟨_, _, e, q⟩
    · cases h
  · rintro ⟨r, S', h, q⟩
    cases r with
    | val a =>
      obtain ⟨o, L2, S2, h2, q⟩ := q
      exact ⟨o, L2, S2, by simp only [ex, h, h2], q⟩
    | exc x => exact ⟨.exc x, L, S', by simp only [ex, h], q⟩
theorem wr_ite {c : Prop} [Decidable c] {a b : R} : wr (if c then a else b) Q = if c then wr a Q else wr b Q := by split <;> rfl
theorem wr_mono {r : R} {P : Out → Loc → Store → Prop} (h : wr r P) (q : ∀ o L S, P o L S → Q o L S) : wr r Q := by
  obtain ⟨o, L1, S1, e, p⟩ := h
  exact ⟨o, L1, S1, e, q _ _ _ p⟩
theorem wr_nil {O : Orc} {W : Nat} : wr (evSs O W .nil L S) Q = Q .nx L S := by simp only [evSs, wr_some]
def sk (O : Orc) (W : Nat) (r : Ss) (Q : Out → Loc → Store → Prop) : Out → Loc → Store → Prop
  | .nx, L, S => wr (evSs O W r L S) Q
  | o, L, S => Q o L S
theorem sk_nx {O : Orc} {W : Nat} {r : Ss} : sk O W r Q .nx L S = wr (evSs O W r L S) Q := rfl
theorem sk_ret {O : Orc} {W : Nat} {r : Ss} {d : D} : sk O W r Q (.ret d) L S = Q (.ret d) L S := rfl
theorem sk_exc {O : Orc} {W : Nat} {r : Ss} {d : Exn} : sk O W r Q (.exc d) L S = Q (.exc d) L S := rfl
theorem sk_bk {O : Orc} {W : Nat} {r : Ss} : sk O W r Q .bk L S = Q .bk L S := rfl
theorem sk_ct {O : Orc} {W : Nat} {r : Ss} : sk O W r Q .ct L S = Q .ct L S := rfl
theorem wr_cons {O : Orc} {W : Nat} {s : Sim.S} {r : Ss} : wr (evSs O W (.cons s r) L S) Q = wr (evS O W s L S) (sk O W r Q) := propext <| by
  constructor
  · rintro ⟨o, L', S', h, q⟩
    simp only [evSs] at h
    cases e : evS O W s L S with
    | none => rw [e] at h; cases h
    | some p =>
      obtain ⟨o1, L1, S1⟩ := p
      rw [e] at h
      refine ⟨o1, L1, S1, rfl, ?_⟩
      cases o1 <;> first | exact ⟨o, L', S', h, q⟩ | (cases h; exact q)
  · rintro ⟨o, L', S', h, q⟩
    cases o with
    | nx =>
      obtain ⟨o, L2, S2, h2, q⟩ := q
      exact ⟨o, L2, S2, by simp only [evSs, h, h2], q⟩
    | bk => exact ⟨_, _, _, by simp only [evSs, h], q⟩
    | ct => exact ⟨_, _, _, by simp only [evSs, h], q⟩
    | ret d => exact ⟨_, _, _, by simp only [evSs, h], q⟩
    | exc x => exact ⟨_, _, _, by simp only [evSs, h], q⟩
/-- what a body's turn leaves -/
def trn (Q : Out → Loc → Store → Prop) (f : Loc → Store → Prop) : Out → Loc → Store → Prop
  | .nx, L, S => f L S
  | .ct, L, S => f L S
  | .bk, L, S => Q .nx L S
  | o, L, S => Q o L S
theorem trn_nx {f : Loc → Store → Prop} : trn Q f .nx L S = f L S := rfl
theorem trn_ct {f : Loc → Store → Prop} : trn Q f .ct L S = f L S := rfl
theorem trn_bk {f : Loc → Store → Prop} : trn Q f .bk L S = Q .nx L S := rfl
theorem trn_ret {f : Loc → Store → Prop} {d : D} : trn Q f (.ret d) L S = Q (.ret d) L S := rfl
theorem trn_exc {f : Loc → Store → Prop} {d : Exn} : trn Q f (.exc d) L S = Q (.exc d) L S := rfl
theorem wr_for {f : D → Loc → Store → R} {src : Src} (Inv : List D → Loc → Store → Prop)
    (hst : ∀ l L S, Inv l L S → still src S = true)
    (hs : ∀ d r L S, Inv (d :: r) L S → wr (f d L S) (trn Q (Inv r)))
    (he : ∀ L S, Inv [] L S → Q .nx L S) :
    ∀ l L S, Inv l L S → wr (forRun f src l L S) Q := by
  intro l
  induction l with
  | nil =>
    intro L S h
    exact ⟨_, _, _, by simp only [forRun, hst _ _ _ h, if_true], he L S h⟩
  | cons d r ih =>
    intro L S h
    obtain ⟨o, L1, S1, e, q⟩ := hs d r L S h
    have hs' := hst _ _ _ h
    cases o with
    | nx =>
      obtain ⟨o, L2, S2, e2, q⟩ := ih L1 S1 q
      exact ⟨o, L2, S2, by simp only [forRun, hs', if_true, e, e2], q⟩
    | ct =>
      obtain ⟨o, L2, S2, e2, q⟩ := ih L1 S1 q
      exact ⟨o, L2, S2, by simp only [forRun, hs', if_true, e, e2], q⟩
    | bk => exact ⟨_, _, _, by simp only [forRun, hs', if_true, e], q⟩
    | ret d => exact ⟨_, _, _, by simp only [forRun, hs', if_true, e], q⟩
    | exc x => exact ⟨_, _, _, by simp only [forRun, hs', if_true, e], q⟩
end
/-- a comprehension: each turn gives what holds of it, and keeps what holds of the store -/
theorem wv_cmp {f : D → Loc → M (Option D)} {src : Src} {L : Loc} (Inv : List D → Store → Prop) (G : D → Option D → Prop)
    (hst : ∀ l S, Inv l S → still src S = true)
    (hs : ∀ d r S, Inv (d :: r) S → wv (f d L) S (fun y S1 => G d y ∧ Inv r S1)) :
    ∀ l S, Inv l S → wv (cmpRun f src L l) S (fun ys S1 => Inv [] S1 ∧ ∃ yos : List (Option D), yos.length = l.length ∧ (∀ p ∈ l.zip yos, G p.1 p.2) ∧ ys = yos.filterMap id) := by
  intro l
  induction l with
  | nil =>
    intro S h
    exact ⟨[], S, by simp only [cmpRun, hst _ _ h, if_true], h, [], rfl, by simp, rfl⟩
  | cons d r ih =>
    intro S h
    obtain ⟨y, S1, e, g, i⟩ := hs d r S h
    obtain ⟨ys, S2, e2, i2, yos, hl, hz, rfl⟩ := ih S1 i
    refine ⟨pushO y (yos.filterMap id), S2, ?_, i2, y :: yos, by simp [hl], ?_, ?_⟩
    · simp only [cmpRun, hst _ _ h, if_true, bd, e, e2, ok]
    · intro p hp
      rcases List.mem_cons.1 hp with rfl | hp
      · exact g
      · exact hz p hp
    · cases y <;> rfl
/-! ### defs called -/
section
variable {P : Nat → Option Fd} {W : Nat}
/-- what a def's run leaves -/
def fin (Q : Ex D → Store → Prop) : Out → Loc → Store → Prop
  | .ret d, _, S => Q (.val d) S
  | .nx, _, S => Q (.val .non) S
  | .exc x, _, S => Q (.exc x) S
  | _, _, _ => False
theorem fin_ret {Q : Ex D → Store → Prop} {d : D} {L : Loc} {S : Store} : fin Q (.ret d) L S = Q (.val d) S := rfl
theorem fin_nx {Q : Ex D → Store → Prop} {L : Loc} {S : Store} : fin Q .nx L S = Q (.val .non) S := rfl
theorem fin_exc {Q : Ex D → Store → Prop} {d : Exn} {L : Loc} {S : Store} : fin Q (.exc d) L S = Q (.exc d) S := rfl
theorem wp_def {n f : Nat} {as : List D} {fd : Fd} {S : Store} {Q : Ex D → Store → Prop} (hf : P f = some fd) (hl : as.length = fd.np)
    (h : wr (evSs (orcN P W n f) W fd.body (argsL fd.nl as) S) (fin Q)) : wp (callN P W n f as) S Q := by
  obtain ⟨o, L, S1, e, q⟩ := h
  cases o with
  | ret d => exact ⟨.val d, S1, by simp only [callN, runDef, hf, hl, if_true, e], q⟩
  | nx => exact ⟨.val .non, S1, by simp only [callN, runDef, hf, hl, if_true, e], q⟩
  | exc x => exact ⟨.exc x, S1, by simp only [callN, runDef, hf, hl, if_true, e], q⟩
  | bk => exact q.elim
  | ct => exact q.elim
theorem orc_call (n f g : Nat) (as : List D) : (orcN P W (n + 1) f).call g as = callN P W n g as := rfl
end
end Sim
set_option linter.all false
set_option autoImplicit false
/-! Sim3b: operators at known shapes. -/
namespace Sim
open PySem (Str PyData)
def nc : D → Option D
  | .clo _ _ _ => none
  | d => some d
theorem getV_nc (L : Loc) (i : Nat) : getV L i = (getL L i).bind nc := by
  unfold getV
  cases h : getL L i with
  | none => rfl
  | some d => cases d <;> rfl
theorem getL_zero (a : Option D) (L : Loc) : getL (a :: L) 0 = a := by cases a <;> rfl
theorem getL_succ (a : Option D) (L : Loc) (n : Nat) : getL (a :: L) (n + 1) = getL L n := rfl
theorem nc_non : nc .non = some .non := rfl
theorem nc_bl (b : Bool) : nc (.bl b) = some (.bl b) := rfl
theorem nc_int (b : Int) : nc (.int b) = some (.int b) := rfl
theorem nc_str (b : Str) : nc (.str b) = some (.str b) := rfl
theorem nc_tup (b : List D) : nc (.tup b) = some (.tup b) := rfl
theorem nc_ref (b : Nat) : nc (.ref b) = some (.ref b) := rfl
theorem nc_klst (b : List D) : nc (.klst b) = some (.klst b) := rfl
section
variable {S : Store} {Q : Ex D → Store → Prop}
theorem tru_bl {b : Bool} {Q : Ex Bool → Store → Prop} : wp (tru (.bl b)) S Q = Q (.val b) S := by simp only [wp_tru, truD, Option.some.injEq, exists_eq_left']
theorem tru_tup {l : List D} {Q : Ex Bool → Store → Prop} : wp (tru (.tup l)) S Q = Q (.val (!l.isEmpty)) S := by simp only [wp_tru, truD, Option.some.injEq, exists_eq_left']
theorem cmp_lt {i j : Int} : wp (cmpD .lt (.int i) (.int j)) S Q = Q (.val (.bl (decide (i < j)))) S := propext ⟨(fun ⟨_, _, h, q⟩ => by cases h; exact q), fun q => ⟨_, _, rfl, q⟩⟩
theorem cmp_le {i j : Int} : wp (cmpD .le (.int i) (.int j)) S Q = Q (.val (.bl (decide (i ≤ j)))) S := propext ⟨(fun ⟨_, _, h, q⟩ => by cases h; exact q), fun q => ⟨_, _, rfl, q⟩⟩
theorem cmp_gt {i j : Int} : wp (cmpD .gt (.int i) (.int j)) S Q = Q (.val (.bl (decide (j < i)))) S := propext ⟨(fun ⟨_, _, h, q⟩ => by cases h; exact q), fun q => ⟨_, _, rfl, q⟩⟩
theorem cmp_ge {i j : Int} : wp (cmpD .ge (.int i) (.int j)) S Q = Q (.val (.bl (decide (j ≤ i)))) S := propext ⟨(fun ⟨_, _, h, q⟩ => by cases h; exact q), fun q => ⟨_, _, rfl, q⟩⟩
theorem cmp_eq {i j : Int} : wp (cmpD .eq (.int i) (.int j)) S Q = Q (.val (.bl (decide (i = j)))) S := propext ⟨(fun ⟨_, _, h, q⟩ => by cases h; exact q), fun q => ⟨_, _, rfl, q⟩⟩
theorem cmp_ne {i j : Int} : wp (cmpD .ne (.int i) (.int j)) S Q = Q (.val (.bl (!decide (i = j)))) S := propext ⟨(fun ⟨_, _, h, q⟩ => by cases h; exact q), fun q => ⟨_, _, rfl, q⟩⟩
theorem cmp_is_non {d : D} : wp (cmpD .is d .non) S Q = Q (.val (.bl (match d with | .non => true | _ => false))) S :=
  propext ⟨(fun ⟨_, _, h, q⟩ => by cases d <;> cases h <;> exact q), fun q => by cases d <;> exact ⟨_, _, rfl, q⟩⟩
theorem cmp_isn_non {d : D} : wp (cmpD .isn d .non) S Q = Q (.val (.bl (!match d with | .non => true | _ => false))) S :=
  propext ⟨(fun ⟨_, _, h, q⟩ => by cases d <;> cases h <;> exact q), fun q => by cases d <;> exact ⟨_, _, rfl, q⟩⟩
theorem bin_add {i j : Int} : wp (binD .add (.int i) (.int j)) S Q = Q (.val (.int (i + j))) S := propext ⟨(fun ⟨_, _, h, q⟩ => by cases h; exact q), fun q => ⟨_, _, rfl, q⟩⟩
theorem bin_sub {i j : Int} : wp (binD .sub (.int i) (.int j)) S Q = Q (.val (.int (i - j))) S := propext ⟨(fun ⟨_, _, h, q⟩ => by cases h; exact q), fun q => ⟨_, _, rfl, q⟩⟩
theorem wp_if' {c : Prop} [Decidable c] {r : Ex D} : wp (fun S => if c then some (r, S) else none) S Q = (c ∧ Q r S) := propext <| by
  constructor
  · rintro ⟨_, _, h, q⟩
    by_cases hc : c
    · simp only [hc, if_true] at h; cases h; exact ⟨hc, q⟩
    · simp only [hc, if_false] at h; cases h
  · rintro ⟨hc, q⟩
    exact ⟨_, _, by simp only [hc, if_true], q⟩
theorem bin_mul {i j : Int} : wp (binD .mul (.int i) (.int j)) S Q = (mulOk i j ∧ Q (.val (.int (i * j))) S) := wp_if' (S := S)
theorem bin_fdiv {i j : Int} : wp (binD .fdiv (.int i) (.int j)) S Q = ((j ≠ 0 ∧ j.natAbs < 1073741824) ∧ Q (.val (.int (i.fdiv j))) S) := wp_if' (S := S)
theorem bin_mod {i j : Int} : wp (binD .mod (.int i) (.int j)) S Q = (j ≠ 0 ∧ Q (.val (.int (i.fmod j))) S) := wp_if' (S := S)
theorem bin_pow {i j : Int} : wp (binD .pow (.int i) (.int j)) S Q = ((0 ≤ j ∧ j ≤ 1000000 ∧ i.natAbs < 2 ^ 64) ∧ Q (.val (.int (i ^ j.toNat))) S) := wp_if' (S := S)
theorem bin_addT {l m : List D} : wp (binD .add (.tup l) (.tup m)) S Q = (l.length + m.length ≤ LIM ∧ Q (.val (.tup (l ++ m))) S) := wp_if' (S := S)
theorem bin_addL {r q : Nat} {l m : List D} (hr : S[r]? = some (.lst l)) (hq : S[q]? = some (.lst m)) (hl : l.length + m.length ≤ LIM) :
    wp (binD .add (.ref r) (.ref q)) S Q = Q (.val (.ref S.length)) (S ++ [.lst (l ++ m)]) := by
  have : binD .add (.ref r) (.ref q) S = some (.val (.ref S.length), S ++ [.lst (l ++ m)]) := by simp only [binD, hr, hq, hl, if_true, alloc]
  exact propext ⟨(fun ⟨_, _, h, q⟩ => by rw [this] at h; cases h; exact q), fun q => ⟨_, _, this, q⟩⟩
theorem un_neg {i : Int} : wp (unD .neg (.int i)) S Q = Q (.val (.int (-i))) S := propext ⟨(fun ⟨_, _, h, q⟩ => by cases h; exact q), fun q => ⟨_, _, rfl, q⟩⟩
theorem bi_int {i : Int} : wp (biD .int [.int i]) S Q = Q (.val (.int i)) S := propext ⟨(fun ⟨_, _, h, q⟩ => by cases h; exact q), fun q => ⟨_, _, rfl, q⟩⟩
theorem bi_intb {b : Bool} : wp (biD .int [.bl b]) S Q = Q (.val (.int (if b then 1 else 0))) S := propext ⟨(fun ⟨_, _, h, q⟩ => by cases h; exact q), fun q => ⟨_, _, rfl, q⟩⟩
theorem bi_max2 {i j : Int} : wp (biD .max2 [.int i, .int j]) S Q = Q (.val (.int (if j > i then j else i))) S := propext ⟨(fun ⟨_, _, h, q⟩ => by cases h; exact q), fun q => ⟨_, _, rfl, q⟩⟩
theorem bi_min2 {i j : Int} : wp (biD .min2 [.int i, .int j]) S Q = Q (.val (.int (if j < i then j else i))) S := propext ⟨(fun ⟨_, _, h, q⟩ => by cases h; exact q), fun q => ⟨_, _, rfl, q⟩⟩
theorem bi_lenT {l : List D} : wp (biD .len [.tup l]) S Q = Q (.val (.int l.length)) S := propext ⟨(fun ⟨_, _, h, q⟩ => by cases h; exact q), fun q => ⟨_, _, rfl, q⟩⟩
theorem bi_lenK {l : List D} : wp (biD .len [.klst l]) S Q = Q (.val (.int l.length)) S := propext ⟨(fun ⟨_, _, h, q⟩ => by cases h; exact q), fun q => ⟨_, _, rfl, q⟩⟩
theorem bi_lenL {r : Nat} {l : List D} (hr : S[r]? = some (.lst l)) : wp (biD .len [.ref r]) S Q = Q (.val (.int l.length)) S := by
  have : biD .len [.ref r] S = some (.val (.int l.length), S) := by simp only [biD, hr, ok]
  exact propext ⟨(fun ⟨_, _, h, q⟩ => by rw [this] at h; cases h; exact q), fun q => ⟨_, _, this, q⟩⟩
theorem bi_tupT {l : List D} : wp (biD .tuple [.tup l]) S Q = Q (.val (.tup l)) S := propext ⟨(fun ⟨_, _, h, q⟩ => by cases h; exact q), fun q => ⟨_, _, rfl, q⟩⟩
theorem bi_tupL {r : Nat} {l : List D} (hr : S[r]? = some (.lst l)) : wp (biD .tuple [.ref r]) S Q = Q (.val (.tup l)) S := by
  have : biD .tuple [.ref r] S = some (.val (.tup l), S) := by simp only [biD, lstAt, hr, ok]
  exact propext ⟨(fun ⟨_, _, h, q⟩ => by rw [this] at h; cases h; exact q), fun q => ⟨_, _, this, q⟩⟩
theorem bi_lstT {l : List D} : wp (biD .list [.tup l]) S Q = Q (.val (.ref S.length)) (S ++ [.lst l]) := propext ⟨(fun ⟨_, _, h, q⟩ => by cases h; exact q), fun q => ⟨_, _, rfl, q⟩⟩
theorem bi_lstL {r : Nat} {l : List D} (hr : S[r]? = some (.lst l)) : wp (biD .list [.ref r]) S Q = Q (.val (.ref S.length)) (S ++ [.lst l]) := by
  have : biD .list [.ref r] S = some (.val (.ref S.length), S ++ [.lst l]) := by simp only [biD, lstAt, hr, alloc]
  exact propext ⟨(fun ⟨_, _, h, q⟩ => by rw [this] at h; cases h; exact q), fun q => ⟨_, _, this, q⟩⟩
/-- an item of a list or tuple -/
theorem sub_T {l : List D} {k : Int} {j : Nat} {d : D} (hk : ixN l.length k = some j) (hd : l[j]? = some d) : wp (subD (.tup l) (.int k)) S Q = Q (.val d) S := by
  have : subD (.tup l) (.int k) S = some (.val d, S) := by simp only [subD, hk, Option.bind_some, hd, Option.map_some]
  exact propext ⟨(fun ⟨_, _, h, q⟩ => by rw [this] at h; cases h; exact q), fun q => ⟨_, _, this, q⟩⟩
theorem sub_K {l : List D} {k : Int} {j : Nat} {d : D} (hk : ixN l.length k = some j) (hd : l[j]? = some d) : wp (subD (.klst l) (.int k)) S Q = Q (.val d) S := by
  have : subD (.klst l) (.int k) S = some (.val d, S) := by simp only [subD, hk, Option.bind_some, hd, Option.map_some]
  exact propext ⟨(fun ⟨_, _, h, q⟩ => by rw [this] at h; cases h; exact q), fun q => ⟨_, _, this, q⟩⟩
theorem sub_L {r : Nat} {l : List D} {k : Int} {j : Nat} {d : D} (hr : S[r]? = some (.lst l)) (hk : ixN l.length k = some j) (hd : l[j]? = some d) : wp (subD (.ref r) (.int k)) S Q = Q (.val d) S := by
  have : subD (.ref r) (.int k) S = some (.val d, S) := by simp only [subD, hr, hk, Option.bind_some, hd, Option.map_some]
  exact propext ⟨(fun ⟨_, _, h, q⟩ => by rw [this] at h; cases h; exact q), fun q => ⟨_, _, this, q⟩⟩
theorem set_L {r : Nat} {l : List D} {k : Int} {j : Nat} {d : D} {Q : Ex Unit → Store → Prop} (hr : S[r]? = some (.lst l)) (hk : ixN l.length k = some j) : wp (setD (.ref r) (.int k) d) S Q = Q (.val ()) (S.set r (.lst (l.set j d))) := by
  have : setD (.ref r) (.int k) d S = some (.val (), S.set r (.lst (l.set j d))) := by simp only [setD, hr, hk, Option.map_some]
  exact propext ⟨(fun ⟨_, _, h, q⟩ => by rw [this] at h; cases h; exact q), fun q => ⟨_, _, this, q⟩⟩
theorem isi_wp {t : Ty} {d : D} : wp (isiM t d) S Q = ∃ b, isiD t S d = some b ∧ Q (.val (.bl b)) S := propext <| by
  constructor
  · rintro ⟨r, S', h, q⟩
    simp only [isiM] at h
    cases e : isiD t S d with
    | none => rw [e] at h; cases h
    | some b => rw [e] at h; cases h; exact ⟨b, rfl, q⟩
  · rintro ⟨b, e, q⟩
    exact ⟨_, _, by simp only [isiM, e, Option.map_some], q⟩
theorem wp_intM {i : Int} {Q : Ex Int → Store → Prop} : wp (intM (.int i)) S Q = Q (.val i) S := propext ⟨(fun ⟨_, _, h, q⟩ => by cases h; exact q), fun q => ⟨_, _, rfl, q⟩⟩
theorem wp_slUT {l : List D} {j : Int} : wp (slU (.tup l) (.int j)) S Q = Q (.val (.tup (cut l none (some j)))) S := propext ⟨(fun ⟨_, _, h, q⟩ => by cases h; exact q), fun q => ⟨_, _, rfl, q⟩⟩
theorem wp_slLT {l : List D} {j : Int} : wp (slL (.tup l) (.int j)) S Q = Q (.val (.tup (cut l (some j) none))) S := propext ⟨(fun ⟨_, _, h, q⟩ => by cases h; exact q), fun q => ⟨_, _, rfl, q⟩⟩
theorem wp_slBT {l : List D} {i j : Int} : wp (slB (.tup l) i (.int j)) S Q = Q (.val (.tup (cut l (some i) (some j)))) S := propext ⟨(fun ⟨_, _, h, q⟩ => by cases h; exact q), fun q => ⟨_, _, rfl, q⟩⟩
theorem wp_rgS1 {n : Int} {Q : Ex Src → Store → Prop} : wp (rgS1 (.int n)) S Q = (small62 n = true ∧ Q (.val ⟨rangeL 0 n.toNat, none⟩) S) := by simp only [rgS1, wp_guard, wp_ok]
theorem wp_rgS2 {i j : Int} {Q : Ex Src → Store → Prop} : wp (rgS2 (.int i) (.int j)) S Q = ((small62 i && small62 j) = true ∧ Q (.val ⟨rangeL i (j - i).toNat, none⟩) S) := by simp only [rgS2, wp_guard, wp_ok]
theorem seq_T {l : List D} {Q : Ex Src → Store → Prop} : wp (seqS (.tup l)) S Q = Q (.val ⟨l, none⟩) S := propext ⟨(fun ⟨_, _, h, q⟩ => by cases h; exact q), fun q => ⟨_, _, rfl, q⟩⟩
theorem seq_K {l : List D} {Q : Ex Src → Store → Prop} : wp (seqS (.klst l)) S Q = Q (.val ⟨l, none⟩) S := propext ⟨(fun ⟨_, _, h, q⟩ => by cases h; exact q), fun q => ⟨_, _, rfl, q⟩⟩
theorem seq_L {r : Nat} {l : List D} {Q : Ex Src → Store → Prop} (hr : S[r]? = some (.lst l)) : wp (seqS (.ref r)) S Q = Q (.val ⟨l, some (r, l)⟩) S := by
  have : seqS (.ref r) S = some (.val ⟨l, some (r, l)⟩, S) := by simp only [seqS, hr, ok]
  exact propext ⟨(fun ⟨_, _, h, q⟩ => by rw [this] at h; cases h; exact q), fun q => ⟨_, _, this, q⟩⟩
theorem enum_T {l : List D} {Q : Ex Src → Store → Prop} : wp (enumS (.tup l)) S Q = Q (.val ⟨enumL 0 l, none⟩) S := propext ⟨(fun ⟨_, _, h, q⟩ => by cases h; exact q), fun q => ⟨_, _, rfl, q⟩⟩
theorem app_L {r : Nat} {l : List D} {d : D} (hr : S[r]? = some (.lst l)) (hl : l.length < LIM) : wp (methD .append (.ref r) [d]) S Q = Q (.val .non) (S.set r (.lst (l ++ [d]))) := by
  have : methD .append (.ref r) [d] S = some (.val .non, S.set r (.lst (l ++ [d]))) := by simp only [methD, hr, hl, if_true]
  exact propext ⟨(fun ⟨_, _, h, q⟩ => by rw [this] at h; cases h; exact q), fun q => ⟨_, _, this, q⟩⟩
theorem mTy_app {r : Nat} {l : List D} {Q : Ex Unit → Store → Prop} (hr : S[r]? = some (.lst l)) : wp (mTy .append (.ref r)) S Q = Q (.val ()) S := by
  have : mTy .append (.ref r) S = some (.val (), S) := by simp only [mTy, hr, ok]
  exact propext ⟨(fun ⟨_, _, h, q⟩ => by rw [this] at h; cases h; exact q), fun q => ⟨_, _, this, q⟩⟩
theorem mTy_ext {r : Nat} {l : List D} {Q : Ex Unit → Store → Prop} (hr : S[r]? = some (.lst l)) : wp (mTy .extend (.ref r)) S Q = Q (.val ()) S := by
  have : mTy .extend (.ref r) S = some (.val (), S) := by simp only [mTy, hr, ok]
  exact propext ⟨(fun ⟨_, _, h, q⟩ => by rw [this] at h; cases h; exact q), fun q => ⟨_, _, this, q⟩⟩
theorem mTy_ins {r : Nat} {l : List D} {Q : Ex Unit → Store → Prop} (hr : S[r]? = some (.lst l)) : wp (mTy .insert (.ref r)) S Q = Q (.val ()) S := by
  have : mTy .insert (.ref r) S = some (.val (), S) := by simp only [mTy, hr, ok]
  exact propext ⟨(fun ⟨_, _, h, q⟩ => by rw [this] at h; cases h; exact q), fun q => ⟨_, _, this, q⟩⟩
end
theorem evOr1 {O : Orc} {e : E} {L : Loc} : evOr O (.cons e .nil) L = evE O e L := by simp only [evOr]
theorem evAnd1 {O : Orc} {e : E} {L : Loc} : evAnd O (.cons e .nil) L = evE O e L := by simp only [evAnd]
theorem evOr2 {O : Orc} {e g : E} {r : Es} {L : Loc} : evOr O (.cons e (.cons g r)) L = bd (evE O e L) fun x => bd (tru x) fun b => if b = true then ok x else evOr O (.cons g r) L := by simp only [evOr]
theorem evAnd2 {O : Orc} {e g : E} {r : Es} {L : Loc} : evAnd O (.cons e (.cons g r)) L = bd (evE O e L) fun x => bd (tru x) fun b => if b = true then evAnd O (.cons g r) L else ok x := by simp only [evAnd]
end Sim
set_option linter.all false
set_option autoImplicit false
/-! Sim3c: plain values (no closures, no dicts), equations of runs. -/
namespace Sim
open PySem (Str PyData)
mutual
def Av (S : Store) : D → Prop
  | .tup l => AvL S l
  | .ref r => ∃ l, S[r]? = some (.lst l)
  | .clo _ _ _ => False
  | _ => True
def AvL (S : Store) : List D → Prop
  | [] => True
  | d :: r => Av S d ∧ AvL S r
end
theorem avL_iff {S : Store} : ∀ {l : List D}, AvL S l ↔ ∀ d ∈ l, Av S d := by
  intro l
  induction l with
  | nil => simp [AvL]
  | cons d r ih => simp [AvL, ih]
theorem av_tup {S : Store} {l : List D} : Av S (.tup l) ↔ ∀ d ∈ l, Av S d := by rw [Av, avL_iff]
theorem av_nc {S : Store} {d : D} (h : Av S d) : nc d = some d := by cases d <;> first | rfl | (simp [Av] at h)
def tyB (t : Ty) : D → Bool
  | .non => false
  | .bl _ => t == .int || t == .bool
  | .int _ => t == .int
  | .str _ => t == .str
  | .tup _ => t == .tuple
  | .ref _ => t == .list
  | .klst _ => t == .list
  | .clo .. => false
theorem isi_av {S : Store} {d : D} (t : Ty) (h : Av S d) : isiD t S d = some (tyB t d) := by
  cases d <;> first | rfl | (simp [Av] at h)
  rename_i r
  obtain ⟨l, h⟩ := h
  simp only [isiD, h, tyB]
theorem ty_int_non  : tyB .int D.non = false := rfl
theorem ty_int_bl (b : Bool) : tyB .int (.bl b) = true := rfl
theorem ty_int_int (i : Int) : tyB .int (.int i) = true := rfl
theorem ty_int_str (x : Str) : tyB .int (.str x) = false := rfl
theorem ty_int_tup (l : List D) : tyB .int (.tup l) = false := rfl
theorem ty_int_ref (r : Nat) : tyB .int (.ref r) = false := rfl
theorem ty_int_klst (l : List D) : tyB .int (.klst l) = false := rfl
theorem ty_bool_non  : tyB .bool D.non = false := rfl
theorem ty_bool_bl (b : Bool) : tyB .bool (.bl b) = true := rfl
theorem ty_bool_int (i : Int) : tyB .bool (.int i) = false := rfl
theorem ty_bool_str (x : Str) : tyB .bool (.str x) = false := rfl
theorem ty_bool_tup (l : List D) : tyB .bool (.tup l) = false := rfl
theorem ty_bool_ref (r : Nat) : tyB .bool (.ref r) = false := rfl
theorem ty_bool_klst (l : List D) : tyB .bool (.klst l) = false := rfl
theorem ty_str_non  : tyB .str D.non = false := rfl
theorem ty_str_bl (b : Bool) : tyB .str (.bl b) = false := rfl
theorem ty_str_int (i : Int) : tyB .str (.int i) = false := rfl
theorem ty_str_str (x : Str) : tyB .str (.str x) = true := rfl
theorem ty_str_tup (l : List D) : tyB .str (.tup l) = false := rfl
theorem ty_str_ref (r : Nat) : tyB .str (.ref r) = false := rfl
theorem ty_str_klst (l : List D) : tyB .str (.klst l) = false := rfl
theorem ty_tuple_non  : tyB .tuple D.non = false := rfl
theorem ty_tuple_bl (b : Bool) : tyB .tuple (.bl b) = false := rfl
theorem ty_tuple_int (i : Int) : tyB .tuple (.int i) = false := rfl
theorem ty_tuple_str (x : Str) : tyB .tuple (.str x) = false := rfl
theorem ty_tuple_tup (l : List D) : tyB .tuple (.tup l) = true := rfl
theorem ty_tuple_ref (r : Nat) : tyB .tuple (.ref r) = false := rfl
theorem ty_tuple_klst (l : List D) : tyB .tuple (.klst l) = false := rfl
theorem ty_list_non  : tyB .list D.non = false := rfl
theorem ty_list_bl (b : Bool) : tyB .list (.bl b) = false := rfl
theorem ty_list_int (i : Int) : tyB .list (.int i) = false := rfl
theorem ty_list_str (x : Str) : tyB .list (.str x) = false := rfl
theorem ty_list_tup (l : List D) : tyB .list (.tup l) = false := rfl
theorem ty_list_ref (r : Nat) : tyB .list (.ref r) = true := rfl
theorem ty_list_klst (l : List D) : tyB .list (.klst l) = true := rfl
theorem ty_int_clo (f i : Nat) (c : List (Option D)) : tyB .int (.clo f i c) = false := rfl
theorem ty_bool_clo (f i : Nat) (c : List (Option D)) : tyB .bool (.clo f i c) = false := rfl
theorem ty_str_clo (f i : Nat) (c : List (Option D)) : tyB .str (.clo f i c) = false := rfl
theorem ty_tuple_clo (f i : Nat) (c : List (Option D)) : tyB .tuple (.clo f i c) = false := rfl
theorem ty_list_clo (f i : Nat) (c : List (Option D)) : tyB .list (.clo f i c) = false := rfl
theorem eq_of_wp {α : Type} {m : M α} {S : Store} {r : Ex α} (h : wp m S (fun q S1 => q = r ∧ S1 = S)) : m S = some (r, S) := by
  obtain ⟨q, S1, e, rfl, rfl⟩ := h
  exact e
theorem wp_of_eq {α : Type} {m : M α} {S : Store} {r : Ex α} (h : m S = some (r, S)) {Q : Ex α → Store → Prop} : wp m S Q = Q r S :=
  propext ⟨(fun ⟨_, _, e, q⟩ => by rw [h] at e; cases e; exact q), fun q => ⟨_, _, h, q⟩⟩
theorem wp_of_eq2 {α : Type} {m : M α} {S S1 : Store} {r : Ex α} (h : m S = some (r, S1)) {Q : Ex α → Store → Prop} : wp m S Q = Q r S1 :=
  propext ⟨(fun ⟨_, _, e, q⟩ => by rw [h] at e; cases e; exact q), fun q => ⟨_, _, h, q⟩⟩
/-- lists stay lists -/
def Mon (S S' : Store) : Prop := ∀ (r : Nat) (l : List D), S[r]? = some (.lst l) → ∃ l', S'[r]? = some (.lst l')
theorem mon_refl (S : Store) : Mon S S := fun _ l h => ⟨l, h⟩
theorem mon_trans {S T U : Store} (a : Mon S T) (b : Mon T U) : Mon S U := fun r l h => by obtain ⟨l1, h1⟩ := a r l h; exact b r l1 h1
mutual
theorem av_mon {S S' : Store} (m : Mon S S') : ∀ {d : D}, Av S d → Av S' d
  | .tup l, h => by rw [Av] at h ⊢; exact avL_mon m h
  | .ref r, h => by rw [Av] at h ⊢; obtain ⟨l, h⟩ := h; exact m r l h
  | .clo _ _ _, h => by rw [Av] at h; exact h.elim
  | .non, _ => by rw [Av] <;> simp
  | .bl _, _ => by rw [Av] <;> simp
  | .int _, _ => by rw [Av] <;> simp
  | .str _, _ => by rw [Av] <;> simp
  | .klst _, _ => by rw [Av] <;> simp
theorem avL_mon {S S' : Store} (m : Mon S S') : ∀ {l : List D}, AvL S l → AvL S' l
  | [], _ => by rw [AvL]; trivial
  | d :: r, h => by rw [AvL] at h ⊢; exact ⟨av_mon m h.1, avL_mon m h.2⟩
end
theorem av_int {S : Store} (i : Int) : Av S (.int i) := by simp [Av]
theorem av_bl {S : Store} (i : Bool) : Av S (.bl i) := by simp [Av]
theorem av_str {S : Store} (i : Str) : Av S (.str i) := by simp [Av]
theorem av_non {S : Store} : Av S .non := by simp [Av]
end Sim
namespace Sim
open PySem (Str PyData)
section
variable {S : Store} {Q : Ex D → Store → Prop}
theorem pow106 : wp (binD .pow (.int 10) (.int 6)) S Q = Q (.val (.int 1000000)) S := by
  rw [bin_pow]; exact propext ⟨And.right, fun h => ⟨by decide, h⟩⟩
theorem pow109 : wp (binD .pow (.int 10) (.int 9)) S Q = Q (.val (.int 1000000000)) S := by
  rw [bin_pow]; exact propext ⟨And.right, fun h => ⟨by decide, h⟩⟩
theorem pow1018 : wp (binD .pow (.int 10) (.int 18)) S Q = Q (.val (.int 1000000000000000000)) S := by
  rw [bin_pow]; exact propext ⟨And.right, fun h => ⟨by decide, h⟩⟩
theorem pow1020 : wp (binD .pow (.int 10) (.int 20)) S Q = Q (.val (.int 100000000000000000000)) S := by
  rw [bin_pow]; exact propext ⟨And.right, fun h => ⟨by decide, h⟩⟩
theorem pow1030 : wp (binD .pow (.int 10) (.int 30)) S Q = Q (.val (.int 1000000000000000000000000000000)) S := by
  rw [bin_pow]; exact propext ⟨And.right, fun h => ⟨by decide, h⟩⟩
theorem mem_any {ts : List Int} {v : Int} : ((ts.map D.int).any fun z => eqF z (.int v)) = ts.contains v := by
  induction ts with
  | nil => rfl
  | cons t r ih =>
    simp only [List.map_cons, List.any_cons, ih, List.contains_cons, eqF]
    congr 1
    rw [Bool.eq_iff_iff]; simp only [beq_iff_eq]; exact eq_comm
theorem flat_ints {ts : List Int} : (ts.map D.int).all flat = true := by
  induction ts with
  | nil => rfl
  | cons t r ih => simp only [List.map_cons, List.all_cons, ih, flat, Bool.and_self]
theorem mem_ints {ts : List Int} {v : Int} : wp (cmpD .mem (.int v) (.tup (ts.map D.int))) S Q = Q (.val (.bl (ts.contains v))) S := by
  have : cmpD .mem (.int v) (.tup (ts.map D.int)) S = some (.val (.bl (ts.contains v)), S) := by
    simp only [cmpD, memD, flat_ints, mem_any, flat, Bool.and_self, if_true, Option.map_some]
  exact propext ⟨(fun ⟨_, _, h, q⟩ => by rw [this] at h; cases h; exact q), fun q => ⟨_, _, this, q⟩⟩
theorem ints_some (ns : List Int) : intsL (ns.map D.int) = some ns := by
  induction ns with
  | nil => rfl
  | cons t r ih => simp only [List.map_cons, intsL, ih, Option.map_some]
theorem leT3 {a b c x y z : Int} : wp (cmpD .le (.tup [.int a, .int b, .int c]) (.tup [.int x, .int y, .int z])) S Q = Q (.val (.bl (lexLe [a, b, c] [x, y, z]))) S :=
  propext ⟨(fun ⟨_, _, h, q⟩ => by cases h; exact q), fun q => ⟨_, _, rfl, q⟩⟩
theorem cut3 {a b c e : D} : cut [a, b, c, e] none (some 3) = [a, b, c] := rfl
end
theorem rangeL_zero (a : Int) : rangeL a 0 = [] := rfl
theorem rangeL_succ (a : Int) (n : Nat) : rangeL a (n + 1) = .int a :: rangeL (a + 1) n := by
  simp only [rangeL, List.range_succ_eq_map, List.map_cons, List.map_map]
  congr 1
  · simp
  · apply List.map_congr_left
    intro i _
    simp only [Function.comp]
    congr 1
    omega
theorem rngL_len (a : Int) (n : Nat) : (rangeL a n).length = n := by simp [rangeL]
theorem ixN_nat {n i : Nat} (h : i < n) : ixN n (i : Int) = some i := by
  unfold ixN
  rw [if_pos (by omega), if_pos (by omega)]; rfl
end Sim
set_option linter.all false
set_option autoImplicit false
/-! Sim3d: the jar of drawn numbers, and what else stands still. -/
namespace Sim
open PySem (Str PyData)
def JarAt (S : Store) (J : Nat) : Prop := ∃ b m : Int, S[J]? = some (.lst [.int b, .int m]) ∧ 0 ≤ m ∧ m < 2147483647
/-- the jar is one; all else that was stands as it was -/
def Fj (J : Nat) (S S' : Store) : Prop := JarAt S' J ∧ ∀ r, r ≠ J → ∀ o, S[r]? = some o → S'[r]? = some o
theorem jar_lt {S : Store} {J : Nat} (h : JarAt S J) : J < S.length := by
  obtain ⟨b, m, h, -⟩ := h
  exact (List.getElem?_eq_some_iff.1 h).1
theorem jar_ne {S : Store} {J : Nat} (h : JarAt S J) : S.length ≠ J := Nat.ne_of_gt (jar_lt h)
theorem fj_refl {J : Nat} {S : Store} (h : JarAt S J) : Fj J S S := ⟨h, fun _ _ _ h => h⟩
theorem fj_trans {J : Nat} {S T U : Store} (a : Fj J S T) (b : Fj J T U) : Fj J S U := ⟨b.1, fun r hr o h => b.2 r hr o (a.2 r hr o h)⟩
theorem get_app {S T : Store} {r : Nat} {o : MO} (h : S[r]? = some o) : (S ++ T)[r]? = some o := by
  rw [List.getElem?_append_left (List.getElem?_eq_some_iff.1 h).1]; exact h
theorem get_new {S : Store} {o : MO} : (S ++ [o])[S.length]? = some o := by simp
theorem jar_app {S T : Store} {J : Nat} (h : JarAt S J) : JarAt (S ++ T) J := by
  obtain ⟨b, m, h, h2⟩ := h
  exact ⟨b, m, get_app h, h2⟩
theorem fj_app {S T : Store} {J : Nat} (h : JarAt S J) : Fj J S (S ++ T) := ⟨jar_app h, fun _ _ _ h => get_app h⟩
theorem fj_mon {J : Nat} {S S' : Store} (h : Fj J S S') : Mon S S' := by
  intro r l hr
  by_cases hJ : r = J
  · subst hJ
    obtain ⟨b, m, h, -⟩ := h.1
    exact ⟨_, h⟩
  · exact ⟨l, h.2 r hJ _ hr⟩
theorem jar_set {S : Store} {J : Nat} {b m : Int} (h : JarAt S J) (h0 : 0 ≤ m) (h1 : m < 2147483647) : Fj J S (S.set J (.lst [.int b, .int m])) := by
  refine ⟨⟨b, m, ?_, h0, h1⟩, ?_⟩
  · rw [List.getElem?_set_self (jar_lt h)]
  · intro r hr o h
    rw [List.getElem?_set_ne (Ne.symm hr)]; exact h
/-- one's own object changed: an object that was not there before -/
theorem fj_set {S S1 : Store} {J q : Nat} {o : MO} (h : Fj J S S1) (hq : S.length ≤ q) (hJ : q ≠ J) : Fj J S (S1.set q o) := by
  refine ⟨?_, ?_⟩
  · obtain ⟨b, m, h1, h2⟩ := h.1
    exact ⟨b, m, by rw [List.getElem?_set_ne hJ]; exact h1, h2⟩
  · intro r hr o' h'
    have : r < S.length := (List.getElem?_eq_some_iff.1 h').1
    rw [List.getElem?_set_ne (by omega)]; exact h.2 r hr o' h'
theorem wp_lrg1 {n : Int} {S : Store} {Q : Ex D → Store → Prop} : wp (lrg1 (.int n)) S Q = ((decide (n ≤ 1000000) && small62 n) = true ∧ Q (.val (.ref S.length)) (S ++ [.lst (rangeL 0 n.toNat)])) := by simp only [lrg1, wp_guard, wp_alloc]
theorem wp_trg1 {n : Int} {S : Store} {Q : Ex D → Store → Prop} : wp (trg1 (.int n)) S Q = ((decide (n ≤ 1000000) && small62 n) = true ∧ Q (.val (.tup (rangeL 0 n.toNat))) S) := by simp only [trg1, wp_guard, wp_ok]
theorem fmod_rng {a b : Int} (h : 0 < b) : 0 ≤ a.fmod b ∧ a.fmod b < b := ⟨Int.fmod_nonneg_of_pos a h, Int.fmod_lt_of_pos a h⟩
mutual
theorem beqD_refl : ∀ d : D, beqD d d = true
  | .non => rfl
  | .bl a => by simp [beqD]
  | .int a => by simp [beqD]
  | .str a => by simp [beqD]
  | .tup l => by rw [beqD]; exact beqL_refl l
  | .ref a => by simp [beqD]
  | .klst l => by rw [beqD]; exact beqL_refl l
  | .clo f i c => by rw [beqD]; simp [beqC_refl c]
theorem beqL_refl : ∀ l : List D, beqL l l = true
  | [] => rfl
  | d :: r => by rw [beqL, beqD_refl d, beqL_refl r]; rfl
theorem beqC_refl : ∀ l : List (Option D), beqC l l = true
  | [] => rfl
  | none :: r => by rw [beqC]; exact beqC_refl r
  | some d :: r => by rw [beqC, beqD_refl d, beqC_refl r]; rfl
end
theorem still_at {r : Nat} {l m : List D} {S : Store} (h : S[r]? = some (.lst l)) : still ⟨m, some (r, l)⟩ S = true := by
  simp only [still, h, beqL_refl]
end Sim
namespace Sim
open PySem (Str PyData)
theorem pdA_ints (S : Store) : ∀ (ns : List Int) (k : Nat), ns.length < k → pdA S k (ns.map .int) = some (ns.map .int)
  | [], k, _ => by cases k <;> rfl
  | n :: ns, 0, h => by simp at h
  | n :: ns, 1, h => by simp at h
  | n :: ns, k + 2, h => by
    simp only [List.map_cons, pdA]
    rw [pdA_ints S ns (k + 1) (by simp at h; omega)]
    simp only [pd]
theorem lay_ints : ∀ (ns : List Int), PyData.canLayAll0 (ns.map PyData.int) = true
  | [] => by simp only [List.map_nil, PyData.canLayAll0]
  | n :: ns => by simp only [List.map_cons, PyData.canLayAll0, PyData.canLay0, lay_ints ns, Bool.and_self]
theorem depth_ints : ∀ (ns : List Int), PyData.depthAll (ns.map PyData.int) = 0
  | [] => by simp only [List.map_nil, PyData.depthAll]
  | n :: ns => by simp only [List.map_cons, PyData.depthAll, PyData.depth, depth_ints ns, Nat.max_self]
theorem cmp_ne_nil {ns : List Int} {S : Store} {r : Nat} {Q : Ex D → Store → Prop} (hl : ns.length < 900) (hr : S[r]? = some (.lst [])) :
    wp (cmpD .ne (.klst (ns.map .int)) (.ref r)) S Q = Q (.val (.bl (!ns.isEmpty))) S := by
  have : cmpD .ne (.klst (ns.map .int)) (.ref r) S = some (.val (.bl (!ns.isEmpty)), S) := by
    have h1 : pd S 1000 (.klst (ns.map .int)) = some (.list (ns.map .int)) := by
      simp only [pd, pdA_ints S ns 999 (by omega), Option.map_some]
    have h2 : pd S 1000 (.ref r) = some (.list []) := by
      simp only [pd, hr]; rfl
    have h3 : PySem.SeqAt.shaped (.list (ns.map .int)) = true := by
      simp only [PySem.SeqAt.shaped, PyData.canLay0, lay_ints, PyData.depth, depth_ints]; decide
    have h4 : PySem.SeqAt.shaped (.list []) = true := by
      simp only [PySem.SeqAt.shaped, PyData.canLay0, PyData.canLayAll0, PyData.depth, PyData.depthAll]; decide
    have h5 : PyData.eqv (.list (ns.map .int)) (.list []) = ns.isEmpty := by
      cases ns <;> simp [PyData.eqv, PyData.eqvAll]
    simp only [cmpD, eqD, flat, Bool.false_and, Bool.false_eq_true, if_false, eqDp, h1, h2, h3, h4, h5, Bool.and_self, if_true, Option.map_some]
  exact propext ⟨(fun ⟨_, _, h, q⟩ => by rw [this] at h; cases h; exact q), fun q => ⟨_, _, this, q⟩⟩
end Sim
namespace Sim
open PySem (Str PyData)
/-! dicts from triples to numbers -/
def kvT (p : (Int × Int × Int) × Int) : D × D := (.tup [.int p.1.1, .int p.1.2.1, .int p.1.2.2], .int p.2)
theorem keyT3 (a b c : Int) : keyT (.tup [.int a, .int b, .int c]) = true := rfl
theorem fits3 (a b c : Int) (ps : List ((Int × Int × Int) × Int)) : keyFits (.tup [.int a, .int b, .int c]) (ps.map kvT) = true := by
  have : ((ps.map kvT).all fun p => keyT p.1) = true := by
    rw [List.all_eq_true]
    intro p hp
    obtain ⟨q, -, rfl⟩ := List.mem_map.1 hp
    rfl
  simp only [keyFits, this, keyT3, Bool.and_self, Bool.or_true]
theorem put3 (a b c e : Int) : ∀ (ps : List ((Int × Int × Int) × Int)), ∃ qs : List ((Int × Int × Int) × Int), dPut (.tup [.int a, .int b, .int c]) (.int e) (ps.map kvT) = qs.map kvT ∧ qs.length ≤ ps.length + 1
  | [] => ⟨[((a, b, c), e)], rfl, by simp⟩
  | p :: ps => by
    obtain ⟨qs, h, hl⟩ := put3 a b c e ps
    simp only [List.map_cons, kvT, dPut]
    split
    · exact ⟨(p.1, e) :: ps, rfl, by simp⟩
    · exact ⟨p :: qs, by rw [h]; rfl, by simp; omega⟩
theorem look3 : ∀ (ps : List ((Int × Int × Int) × Int)) (d : D), d ∈ (ps.map kvT).map (·.1) → ∃ (a b c e : Int), d = .tup [.int a, .int b, .int c] ∧ dLook d (ps.map kvT) = some (.int e)
  | [], d, h => by cases h
  | p :: ps, d, h => by
    simp only [List.map_cons, kvT, dLook]
    by_cases hb : beqD (.tup [.int p.1.1, .int p.1.2.1, .int p.1.2.2]) d = true
    · rw [if_pos hb]
      simp only [List.map_cons, List.mem_cons] at h
      rcases h with rfl | h
      · exact ⟨_, _, _, _, rfl, rfl⟩
      · obtain ⟨a, b, c, e, h, -⟩ := look3 ps d h
        exact ⟨a, b, c, p.2, h, rfl⟩
    · rw [if_neg hb]
      simp only [List.map_cons, List.mem_cons] at h
      rcases h with rfl | h
      · exact absurd (beqD_refl _) hb
      · exact look3 ps d h
theorem set_D3 {S : Store} {q : Nat} {ps : List ((Int × Int × Int) × Int)} {a b c : Int} {d : D} {Q : Ex Unit → Store → Prop} (hq : S[q]? = some (.dct (ps.map kvT) false)) (hl : ps.length < 1000000) :
    wp (setD (.ref q) (.tup [.int a, .int b, .int c]) d) S Q = Q (.val ()) (S.set q (.dct (dPut (.tup [.int a, .int b, .int c]) d (ps.map kvT)) false)) := by
  have : setD (.ref q) (.tup [.int a, .int b, .int c]) d S = some (.val (), S.set q (.dct (dPut (.tup [.int a, .int b, .int c]) d (ps.map kvT)) false)) := by
    have h2 : (ps.map kvT).length < 1000000 := by simpa using hl
    simp only [setD, hq, fits3, h2, Bool.not_false, decide_true, Bool.and_self, if_true]
  exact propext ⟨(fun ⟨_, _, h, q⟩ => by rw [this] at h; cases h; exact q), fun q => ⟨_, _, this, q⟩⟩
theorem sub_D3 {S : Store} {q : Nat} {ps : List ((Int × Int × Int) × Int)} {a b c : Int} {d : D} {Q : Ex D → Store → Prop} (hq : S[q]? = some (.dct (ps.map kvT) false)) (hl : dLook (.tup [.int a, .int b, .int c]) (ps.map kvT) = some d) :
    wp (subD (.ref q) (.tup [.int a, .int b, .int c])) S Q = Q (.val d) S := by
  have : subD (.ref q) (.tup [.int a, .int b, .int c]) S = some (.val d, S) := by
    simp only [subD, hq, fits3, if_true, hl, Option.map_some]
  exact propext ⟨(fun ⟨_, _, h, q⟩ => by rw [this] at h; cases h; exact q), fun q => ⟨_, _, this, q⟩⟩
theorem mem_insL {x d : D} {lt : D → D → Bool} : ∀ {l : List D}, d ∈ insertL x lt l → d = x ∨ d ∈ l
  | [], h => by simp only [insertL, List.mem_singleton] at h; exact Or.inl h
  | y :: r, h => by
    simp only [insertL] at h
    split at h
    · simp only [List.mem_cons] at h ⊢; exact h
    · simp only [List.mem_cons] at h ⊢
      rcases h with h | h
      · exact Or.inr (Or.inl h)
      · rcases mem_insL h with h | h
        · exact Or.inl h
        · exact Or.inr (Or.inr h)
theorem mem_sortL {d : D} {lt : D → D → Bool} : ∀ {l : List D}, d ∈ sortL lt l → d ∈ l
  | [], h => h
  | x :: r, h => by
    simp only [sortL] at h
    rcases mem_insL h with h | h
    · exact h ▸ List.mem_cons_self ..
    · exact List.mem_cons_of_mem _ (mem_sortL h)
theorem len_insL {x : D} {lt : D → D → Bool} : ∀ {l : List D}, (insertL x lt l).length = l.length + 1
  | [] => rfl
  | y :: r => by
    simp only [insertL]
    split
    · rfl
    · simp only [List.length_cons, len_insL]
theorem len_sortL {lt : D → D → Bool} : ∀ {l : List D}, (sortL lt l).length = l.length
  | [] => rfl
  | x :: r => by simp only [sortL, len_insL, len_sortL, List.length_cons]
theorem sort3 {S : Store} {q : Nat} {ps : List ((Int × Int × Int) × Int)} (hq : S[q]? = some (.dct (ps.map kvT) false)) (hl : ps.length ≤ 1000000) :
    ∃ m, (∀ d ∈ m, d ∈ (ps.map kvT).map (·.1)) ∧ m.length = ps.length ∧ biD .sorted [.ref q] S = some (.val (.ref S.length), S ++ [.lst m]) := by
  have h0 : ((ps.map kvT).all fun p => keyT p.1) = true := by
    rw [List.all_eq_true]
    intro p hp
    obtain ⟨q, -, rfl⟩ := List.mem_map.1 hp
    rfl
  have h1 : sortD ((ps.map kvT).map (·.1)) = some (sortL ltK ((ps.map kvT).map (·.1))) := by
    cases ps with
    | nil => rfl
    | cons p ps =>
      have ha : allInts (((p :: ps).map kvT).map (·.1)) = false := rfl
      have hb : tupsOf 3 (((p :: ps).map kvT).map (·.1)) = true := by
        simp only [tupsOf, List.all_eq_true]
        intro d hd
        obtain ⟨x, hx, rfl⟩ := List.mem_map.1 hd
        obtain ⟨y, -, rfl⟩ := List.mem_map.1 hx
        rfl
      have hc : (((p :: ps).map kvT).map (·.1)).length ≤ 1000000 := by simpa using hl
      unfold sortD
      rw [ha]
      simp only [Bool.false_eq_true, if_false]
      show (if (decide (1 ≤ 3) && tupsOf 3 (((p :: ps).map kvT).map (·.1)) && decide ((((p :: ps).map kvT).map (·.1)).length ≤ 1000000)) = true then some (sortL ltK (((p :: ps).map kvT).map (·.1))) else none) = some (sortL ltK (((p :: ps).map kvT).map (·.1)))
      exact if_pos (by rw [hb, decide_eq_true hc]; rfl)
  refine ⟨sortL ltK ((ps.map kvT).map (·.1)), fun d hd => mem_sortL hd, ?_, ?_⟩
  · rw [len_sortL]; simp
  · simp only [biD, hq, h0, if_true, h1, Option.bind_some, alloc]
end Sim
namespace Sim
open PySem (Str PyData)
theorem wp_join {β : Type} {c : Prop} [Decidable c] {m1 m2 : M β} {S : Store} {Q : Ex β → Store → Prop} (P : β → Store → Prop)
    (h1 : c → wp m1 S (thn (β := β) (fun _ _ => False) P)) (h2 : ¬ c → wp m2 S (thn (β := β) (fun _ _ => False) P)) (k : ∀ v S1, P v S1 → Q (.val v) S1) :
    wp (if c then m1 else m2) S Q := by
  split
  · rename_i h; exact wp_wv (wv_wp (h1 h)) k
  · rename_i h; exact wp_wv (wv_wp (h2 h)) k
def onx (P : Loc → Store → Prop) : Out → Loc → Store → Prop
  | .nx, L, S => P L S
  | _, _, _ => False
theorem onx_nx {P : Loc → Store → Prop} {L : Loc} {S : Store} : onx P .nx L S = P L S := rfl
theorem wr_join {c : Prop} [Decidable c] {a b : R} {Q : Out → Loc → Store → Prop} (P : Loc → Store → Prop)
    (h1 : c → wr a (onx P)) (h2 : ¬ c → wr b (onx P)) (k : ∀ L S1, P L S1 → Q .nx L S1) : wr (if c then a else b) Q := by
  have : ∀ r : R, wr r (onx P) → wr r Q := by
    rintro r ⟨o, L, S1, e, q⟩
    cases o with
    | nx => exact ⟨_, _, _, e, k _ _ q⟩
    | _ => exact q.elim
  split
  · rename_i h; exact this _ (h1 h)
  · rename_i h; exact this _ (h2 h)
end Sim
local macro_rules
  | `(tactic| simp_arith [$xs,*]) => `(tactic| simp only [Sim.evE, Sim.evEs, Sim.evOr1, Sim.evOr2, Sim.evAnd1, Sim.evAnd2, Sim.evIfs, Sim.evIt, Sim.asg, Sim.asgs, Sim.evS, Sim.wp_bd, Sim.wp_ok, Sim.wp_ofO, Sim.thn_val, Sim.bk_val, Sim.ek_val, Sim.thn_exc, Sim.bk_exc, Sim.ek_exc, Sim.wr_some, Sim.wr_ex, Sim.wr_nil, Sim.wr_cons, Sim.sk_nx, Sim.sk_ret, Sim.sk_exc, Sim.sk_bk, Sim.sk_ct, Sim.fin_ret, Sim.fin_nx, Sim.fin_exc, Sim.orc_call, Sim.getV_nc, Sim.getL_zero, Sim.getL_succ, Sim.nc_non, Sim.nc_bl, Sim.nc_int, Sim.nc_str, Sim.nc_tup, Sim.nc_ref, Sim.nc_klst, Option.bind_some, Option.some.injEq, exists_eq_left', Sim.tru_bl, Sim.tru_tup, Sim.cmp_lt, Sim.cmp_le, Sim.cmp_gt, Sim.cmp_ge, Sim.cmp_eq, Sim.cmp_ne, Sim.cmp_is_non, Sim.cmp_isn_non, Sim.bin_add, Sim.bin_sub, Sim.bin_mul, Sim.bin_fdiv, Sim.bin_mod, Sim.bin_addT, Sim.un_neg, Sim.bi_int, Sim.bi_intb, Sim.bi_max2, Sim.bi_min2, Sim.bi_lenT, Sim.bi_lenK, Sim.bi_tupT, Sim.bi_lstT, Sim.isi_wp, Sim.wp_intM, Sim.wp_slUT, Sim.wp_slLT, Sim.wp_slBT, Sim.wp_rgS1, Sim.wp_rgS2, Sim.seq_T, Sim.seq_K, Sim.enum_T, Sim.wp_alloc, decide_eq_true_eq, List.set_cons_zero, List.set_cons_succ, List.length_cons, List.length_nil, Bool.not_eq_true', decide_eq_false_iff_not, Bool.not_true, Bool.not_false, Sim.pow106, Sim.pow109, Sim.pow1018, Sim.pow1020, Sim.pow1030, Sim.mem_ints, Sim.leT3, Sim.ty_int_non, Sim.ty_int_bl, Sim.ty_int_int, Sim.ty_int_str, Sim.ty_int_tup, Sim.ty_int_ref, Sim.ty_int_klst, Sim.ty_bool_non, Sim.ty_bool_bl, Sim.ty_bool_int, Sim.ty_bool_str, Sim.ty_bool_tup, Sim.ty_bool_ref, Sim.ty_bool_klst, Sim.ty_str_non, Sim.ty_str_bl, Sim.ty_str_int, Sim.ty_str_str, Sim.ty_str_tup, Sim.ty_str_ref, Sim.ty_str_klst, Sim.ty_tuple_non, Sim.ty_tuple_bl, Sim.ty_tuple_int, Sim.ty_tuple_str, Sim.ty_tuple_tup, Sim.ty_tuple_ref, Sim.ty_tuple_klst, Sim.ty_list_non, Sim.ty_list_bl, Sim.ty_list_int, Sim.ty_list_str, Sim.ty_list_tup, Sim.ty_list_ref, Sim.ty_list_klst, Sim.ty_int_clo, Sim.ty_bool_clo, Sim.ty_str_clo, Sim.ty_tuple_clo, Sim.ty_list_clo, Sim.onx_nx, Sim.trn_nx, Sim.trn_ret, Sim.trn_exc, Sim.trn_bk, Sim.trn_ct, Sim.wp_guard, Sim.wp_lrg1, Sim.wp_trg1, and_self, if_true, if_false, Nat.reduceAdd, Nat.reduceSub, Nat.reduceLT, Nat.reduceLeDiff, Int.cast_ofNat_Int, Int.reduceNeg, Int.reduceAdd, Int.reduceSub, Int.reduceLT, Int.reduceLE, Int.reduceEq, Int.reduceToNat, decide_true, decide_false, reduceCtorEq, eq_self, Bool.not_eq_eq_eq_not, Bool.false_eq_true, ite_self, $xs,*])
  | `(tactic| simp_arith [$xs,*] at $h:ident) => `(tactic| simp only [Sim.evE, Sim.evEs, Sim.evOr1, Sim.evOr2, Sim.evAnd1, Sim.evAnd2, Sim.evIfs, Sim.evIt, Sim.asg, Sim.asgs, Sim.evS, Sim.wp_bd, Sim.wp_ok, Sim.wp_ofO, Sim.thn_val, Sim.bk_val, Sim.ek_val, Sim.thn_exc, Sim.bk_exc, Sim.ek_exc, Sim.wr_some, Sim.wr_ex, Sim.wr_nil, Sim.wr_cons, Sim.sk_nx, Sim.sk_ret, Sim.sk_exc, Sim.sk_bk, Sim.sk_ct, Sim.fin_ret, Sim.fin_nx, Sim.fin_exc, Sim.orc_call, Sim.getV_nc, Sim.getL_zero, Sim.getL_succ, Sim.nc_non, Sim.nc_bl, Sim.nc_int, Sim.nc_str, Sim.nc_tup, Sim.nc_ref, Sim.nc_klst, Option.bind_some, Option.some.injEq, exists_eq_left', Sim.tru_bl, Sim.tru_tup, Sim.cmp_lt, Sim.cmp_le, Sim.cmp_gt, Sim.cmp_ge, Sim.cmp_eq, Sim.cmp_ne, Sim.cmp_is_non, Sim.cmp_isn_non, Sim.bin_add, Sim.bin_sub, Sim.bin_mul, Sim.bin_fdiv, Sim.bin_mod, Sim.bin_addT, Sim.un_neg, Sim.bi_int, Sim.bi_intb, Sim.bi_max2, Sim.bi_min2, Sim.bi_lenT, Sim.bi_lenK, Sim.bi_tupT, Sim.bi_lstT, Sim.isi_wp, Sim.wp_intM, Sim.wp_slUT, Sim.wp_slLT, Sim.wp_slBT, Sim.wp_rgS1, Sim.wp_rgS2, Sim.seq_T, Sim.seq_K, Sim.enum_T, Sim.wp_alloc, decide_eq_true_eq, List.set_cons_zero, List.set_cons_succ, List.length_cons, List.length_nil, Bool.not_eq_true', decide_eq_false_iff_not, Bool.not_true, Bool.not_false, Sim.pow106, Sim.pow109, Sim.pow1018, Sim.pow1020, Sim.pow1030, Sim.mem_ints, Sim.leT3, Sim.ty_int_non, Sim.ty_int_bl, Sim.ty_int_int, Sim.ty_int_str, Sim.ty_int_tup, Sim.ty_int_ref, Sim.ty_int_klst, Sim.ty_bool_non, Sim.ty_bool_bl, Sim.ty_bool_int, Sim.ty_bool_str, Sim.ty_bool_tup, Sim.ty_bool_ref, Sim.ty_bool_klst, Sim.ty_str_non, Sim.ty_str_bl, Sim.ty_str_int, Sim.ty_str_str, Sim.ty_str_tup, Sim.ty_str_ref, Sim.ty_str_klst, Sim.ty_tuple_non, Sim.ty_tuple_bl, Sim.ty_tuple_int, Sim.ty_tuple_str, Sim.ty_tuple_tup, Sim.ty_tuple_ref, Sim.ty_tuple_klst, Sim.ty_list_non, Sim.ty_list_bl, Sim.ty_list_int, Sim.ty_list_str, Sim.ty_list_tup, Sim.ty_list_ref, Sim.ty_list_klst, Sim.ty_int_clo, Sim.ty_bool_clo, Sim.ty_str_clo, Sim.ty_tuple_clo, Sim.ty_list_clo, Sim.onx_nx, Sim.trn_nx, Sim.trn_ret, Sim.trn_exc, Sim.trn_bk, Sim.trn_ct, Sim.wp_guard, Sim.wp_lrg1, Sim.wp_trg1, and_self, if_true, if_false, Nat.reduceAdd, Nat.reduceSub, Nat.reduceLT, Nat.reduceLeDiff, Int.cast_ofNat_Int, Int.reduceNeg, Int.reduceAdd, Int.reduceSub, Int.reduceLT, Int.reduceLE, Int.reduceEq, Int.reduceToNat, decide_true, decide_false, reduceCtorEq, eq_self, Bool.not_eq_eq_eq_not, Bool.false_eq_true, ite_self, $xs,*] at $h:ident)
set_option linter.all false
set_option autoImplicit false
set_option maxRecDepth 100000
namespace K03
open Sim
open PySem (Str PyData)
def wholeB : D → Int → Int → Bool
  | .int i, lo, hi => decide (lo ≤ i ∧ i ≤ hi)
  | _, _, _ => false
theorem whole_eq (n : Nat) {S : Store} {d : D} {lo hi : Int} (h : Av S d) : callN prog 0 n f_whole [d, .int lo, .int hi] S = some (.val (.bl (wholeB d lo hi)), S) := by
  apply eq_of_wp
  refine wp_def (fd := d_whole) rfl rfl ?_; simp only [d_whole, b_whole, argsL, List.map_cons, List.map_nil, List.replicate, List.cons_append, List.nil_append, List.append_nil, Nat.sub_self, List.length_cons, List.length_nil, Nat.reduceAdd, Nat.reduceSub, List.replicate_succ, List.replicate_zero]
  simp_arith [wp_ite, wr_ite, av_nc h, isi_av _ h]
  cases d <;> simp [wholeB, evE, evEs, evOr1, evOr2, evAnd1, evAnd2, evIfs, evIt, Sim.asg, asgs, evS, wp_bd, wp_ok, wp_ofO, thn_val, bk_val, ek_val, thn_exc, bk_exc, ek_exc, wr_some, wr_ex, wr_nil, wr_cons, sk_nx, sk_ret, sk_exc, sk_bk, sk_ct, fin_ret, fin_nx, fin_exc, orc_call, getV_nc, getL_zero, getL_succ, nc_non, nc_bl, nc_int, nc_str, nc_tup, nc_ref, nc_klst, Option.bind_some, Option.some.injEq, exists_eq_left', tru_bl, tru_tup, cmp_lt, cmp_le, cmp_gt, cmp_ge, cmp_eq, cmp_ne, cmp_is_non, cmp_isn_non, bin_add, bin_sub, bin_mul, bin_fdiv, bin_mod, bin_addT, un_neg, bi_int, bi_intb, bi_max2, bi_min2, bi_lenT, bi_lenK, bi_tupT, bi_lstT, isi_wp, wp_intM, wp_slUT, wp_slLT, wp_slBT, wp_rgS1, wp_rgS2, seq_T, seq_K, enum_T, wp_alloc, decide_eq_true_eq, List.set_cons_zero, List.set_cons_succ, List.length_cons, List.length_nil, Bool.not_eq_true', decide_eq_false_iff_not, Bool.not_true, Bool.not_false, pow106, pow109, pow1018, pow1020, pow1030, mem_ints, leT3, ty_int_non, ty_int_bl, ty_int_int, ty_int_str, ty_int_tup, ty_int_ref, ty_int_klst, ty_bool_non, ty_bool_bl, ty_bool_int, ty_bool_str, ty_bool_tup, ty_bool_ref, ty_bool_klst, ty_str_non, ty_str_bl, ty_str_int, ty_str_str, ty_str_tup, ty_str_ref, ty_str_klst, ty_tuple_non, ty_tuple_bl, ty_tuple_int, ty_tuple_str, ty_tuple_tup, ty_tuple_ref, ty_tuple_klst, ty_list_non, ty_list_bl, ty_list_int, ty_list_str, ty_list_tup, ty_list_ref, ty_list_klst, ty_int_clo, ty_bool_clo, ty_str_clo, ty_tuple_clo, ty_list_clo, onx_nx, trn_nx, trn_ret, trn_exc, trn_bk, trn_ct, wp_guard, wp_lrg1, wp_trg1, and_self, if_true, if_false, Nat.reduceAdd, Nat.reduceSub, Nat.reduceLT, Nat.reduceLeDiff, Int.cast_ofNat_Int, Int.reduceNeg, Int.reduceAdd, Int.reduceSub, Int.reduceLT, Int.reduceLE, Int.reduceEq, Int.reduceToNat, decide_true, decide_false, reduceCtorEq, eq_self, Bool.not_eq_eq_eq_not, Bool.false_eq_true, ite_self, wp_ite, wr_ite]
  split <;> (intros; omega)
theorem iswhole_eq (n : Nat) {S : Store} {d : D} (h : Av S d) : callN prog 0 n f_law_is_whole [d] S = some (.val (.bl (match d with | .int _ => true | _ => false)), S) := by
  apply eq_of_wp
  refine wp_def (fd := d_law_is_whole) rfl rfl ?_; simp only [d_law_is_whole, b_law_is_whole, argsL, List.map_cons, List.map_nil, List.replicate, List.cons_append, List.nil_append, List.append_nil, Nat.sub_self, List.length_cons, List.length_nil, Nat.reduceAdd, Nat.reduceSub, List.replicate_succ, List.replicate_zero]
  simp_arith [wp_ite, wr_ite, av_nc h, isi_av _ h]
  cases d <;> simp [evE, evEs, evOr1, evOr2, evAnd1, evAnd2, evIfs, evIt, Sim.asg, asgs, evS, wp_bd, wp_ok, wp_ofO, thn_val, bk_val, ek_val, thn_exc, bk_exc, ek_exc, wr_some, wr_ex, wr_nil, wr_cons, sk_nx, sk_ret, sk_exc, sk_bk, sk_ct, fin_ret, fin_nx, fin_exc, orc_call, getV_nc, getL_zero, getL_succ, nc_non, nc_bl, nc_int, nc_str, nc_tup, nc_ref, nc_klst, Option.bind_some, Option.some.injEq, exists_eq_left', tru_bl, tru_tup, cmp_lt, cmp_le, cmp_gt, cmp_ge, cmp_eq, cmp_ne, cmp_is_non, cmp_isn_non, bin_add, bin_sub, bin_mul, bin_fdiv, bin_mod, bin_addT, un_neg, bi_int, bi_intb, bi_max2, bi_min2, bi_lenT, bi_lenK, bi_tupT, bi_lstT, isi_wp, wp_intM, wp_slUT, wp_slLT, wp_slBT, wp_rgS1, wp_rgS2, seq_T, seq_K, enum_T, wp_alloc, decide_eq_true_eq, List.set_cons_zero, List.set_cons_succ, List.length_cons, List.length_nil, Bool.not_eq_true', decide_eq_false_iff_not, Bool.not_true, Bool.not_false, pow106, pow109, pow1018, pow1020, pow1030, mem_ints, leT3, ty_int_non, ty_int_bl, ty_int_int, ty_int_str, ty_int_tup, ty_int_ref, ty_int_klst, ty_bool_non, ty_bool_bl, ty_bool_int, ty_bool_str, ty_bool_tup, ty_bool_ref, ty_bool_klst, ty_str_non, ty_str_bl, ty_str_int, ty_str_str, ty_str_tup, ty_str_ref, ty_str_klst, ty_tuple_non, ty_tuple_bl, ty_tuple_int, ty_tuple_str, ty_tuple_tup, ty_tuple_ref, ty_tuple_klst, ty_list_non, ty_list_bl, ty_list_int, ty_list_str, ty_list_tup, ty_list_ref, ty_list_klst, ty_int_clo, ty_bool_clo, ty_str_clo, ty_tuple_clo, ty_list_clo, onx_nx, trn_nx, trn_ret, trn_exc, trn_bk, trn_ct, wp_guard, wp_lrg1, wp_trg1, and_self, if_true, if_false, Nat.reduceAdd, Nat.reduceSub, Nat.reduceLT, Nat.reduceLeDiff, Int.cast_ofNat_Int, Int.reduceNeg, Int.reduceAdd, Int.reduceSub, Int.reduceLT, Int.reduceLE, Int.reduceEq, Int.reduceToNat, decide_true, decide_false, reduceCtorEq, eq_self, Bool.not_eq_eq_eq_not, Bool.false_eq_true, ite_self, wp_ite, wr_ite]
theorem isnum_eq (n : Nat) {S : Store} {d : D} {lo hi : Int} (h : Av S d) : callN prog 0 (n + 1) f_law_is_number [d, .int lo, .int hi] S = some (.val (.bl (wholeB d lo hi)), S) := by
  apply eq_of_wp
  refine wp_def (fd := d_law_is_number) rfl rfl ?_; simp only [d_law_is_number, b_law_is_number, argsL, List.map_cons, List.map_nil, List.replicate, List.cons_append, List.nil_append, List.append_nil, Nat.sub_self, List.length_cons, List.length_nil, Nat.reduceAdd, Nat.reduceSub, List.replicate_succ, List.replicate_zero]
  simp_arith [wp_ite, wr_ite, av_nc h, wp_of_eq (iswhole_eq n h)]
  cases d <;> simp [wholeB, evE, evEs, evOr1, evOr2, evAnd1, evAnd2, evIfs, evIt, Sim.asg, asgs, evS, wp_bd, wp_ok, wp_ofO, thn_val, bk_val, ek_val, thn_exc, bk_exc, ek_exc, wr_some, wr_ex, wr_nil, wr_cons, sk_nx, sk_ret, sk_exc, sk_bk, sk_ct, fin_ret, fin_nx, fin_exc, orc_call, getV_nc, getL_zero, getL_succ, nc_non, nc_bl, nc_int, nc_str, nc_tup, nc_ref, nc_klst, Option.bind_some, Option.some.injEq, exists_eq_left', tru_bl, tru_tup, cmp_lt, cmp_le, cmp_gt, cmp_ge, cmp_eq, cmp_ne, cmp_is_non, cmp_isn_non, bin_add, bin_sub, bin_mul, bin_fdiv, bin_mod, bin_addT, un_neg, bi_int, bi_intb, bi_max2, bi_min2, bi_lenT, bi_lenK, bi_tupT, bi_lstT, isi_wp, wp_intM, wp_slUT, wp_slLT, wp_slBT, wp_rgS1, wp_rgS2, seq_T, seq_K, enum_T, wp_alloc, decide_eq_true_eq, List.set_cons_zero, List.set_cons_succ, List.length_cons, List.length_nil, Bool.not_eq_true', decide_eq_false_iff_not, Bool.not_true, Bool.not_false, pow106, pow109, pow1018, pow1020, pow1030, mem_ints, leT3, ty_int_non, ty_int_bl, ty_int_int, ty_int_str, ty_int_tup, ty_int_ref, ty_int_klst, ty_bool_non, ty_bool_bl, ty_bool_int, ty_bool_str, ty_bool_tup, ty_bool_ref, ty_bool_klst, ty_str_non, ty_str_bl, ty_str_int, ty_str_str, ty_str_tup, ty_str_ref, ty_str_klst, ty_tuple_non, ty_tuple_bl, ty_tuple_int, ty_tuple_str, ty_tuple_tup, ty_tuple_ref, ty_tuple_klst, ty_list_non, ty_list_bl, ty_list_int, ty_list_str, ty_list_tup, ty_list_ref, ty_list_klst, ty_int_clo, ty_bool_clo, ty_str_clo, ty_tuple_clo, ty_list_clo, onx_nx, trn_nx, trn_ret, trn_exc, trn_bk, trn_ct, wp_guard, wp_lrg1, wp_trg1, and_self, if_true, if_false, Nat.reduceAdd, Nat.reduceSub, Nat.reduceLT, Nat.reduceLeDiff, Int.cast_ofNat_Int, Int.reduceNeg, Int.reduceAdd, Int.reduceSub, Int.reduceLT, Int.reduceLE, Int.reduceEq, Int.reduceToNat, decide_true, decide_false, reduceCtorEq, eq_self, Bool.not_eq_eq_eq_not, Bool.false_eq_true, ite_self, wp_ite, wr_ite]
  rename_i i
  split <;> (intros; omega)
theorem wmany_eq (n : Nat) {S : Store} {d : D} {lo hi : Int} (h : Av S d) :
    callN prog 0 (n + 2) f_law_wrong_many [d, .int lo, .int hi] S = some (.val (if wholeB d lo hi then .non else .tup [.str (Str.ofString "BadMany"), d]), S) := by
  apply eq_of_wp
  refine wp_def (fd := d_law_wrong_many) rfl rfl ?_; simp only [d_law_wrong_many, b_law_wrong_many, argsL, List.map_cons, List.map_nil, List.replicate, List.cons_append, List.nil_append, List.append_nil, Nat.sub_self, List.length_cons, List.length_nil, Nat.reduceAdd, Nat.reduceSub, List.replicate_succ, List.replicate_zero]
  simp_arith [wp_ite, wr_ite, av_nc h, wp_of_eq (isnum_eq n h)]
  cases wholeB d lo hi <;> simp
theorem askS_eq (n : Nat) {S : Store} {d : D} (h : Av S d) :
    callN prog 0 (n + 1) f_asked_streams [d] S = some (if wholeB d 0 24 then .val .non else .exc ⟨59, d⟩, S) := by
  apply eq_of_wp
  refine wp_def (fd := d_asked_streams) rfl rfl ?_; simp only [d_asked_streams, b_asked_streams, argsL, List.map_cons, List.map_nil, List.replicate, List.cons_append, List.nil_append, List.append_nil, Nat.sub_self, List.length_cons, List.length_nil, Nat.reduceAdd, Nat.reduceSub, List.replicate_succ, List.replicate_zero]
  simp_arith [wp_ite, wr_ite, av_nc h, wp_of_eq (whole_eq n h)]
  cases wholeB d 0 24 <;> simp [evE, evEs, evOr1, evOr2, evAnd1, evAnd2, evIfs, evIt, Sim.asg, asgs, evS, wp_bd, wp_ok, wp_ofO, thn_val, bk_val, ek_val, thn_exc, bk_exc, ek_exc, wr_some, wr_ex, wr_nil, wr_cons, sk_nx, sk_ret, sk_exc, sk_bk, sk_ct, fin_ret, fin_nx, fin_exc, orc_call, getV_nc, getL_zero, getL_succ, nc_non, nc_bl, nc_int, nc_str, nc_tup, nc_ref, nc_klst, Option.bind_some, Option.some.injEq, exists_eq_left', tru_bl, tru_tup, cmp_lt, cmp_le, cmp_gt, cmp_ge, cmp_eq, cmp_ne, cmp_is_non, cmp_isn_non, bin_add, bin_sub, bin_mul, bin_fdiv, bin_mod, bin_addT, un_neg, bi_int, bi_intb, bi_max2, bi_min2, bi_lenT, bi_lenK, bi_tupT, bi_lstT, isi_wp, wp_intM, wp_slUT, wp_slLT, wp_slBT, wp_rgS1, wp_rgS2, seq_T, seq_K, enum_T, wp_alloc, decide_eq_true_eq, List.set_cons_zero, List.set_cons_succ, List.length_cons, List.length_nil, Bool.not_eq_true', decide_eq_false_iff_not, Bool.not_true, Bool.not_false, pow106, pow109, pow1018, pow1020, pow1030, mem_ints, leT3, ty_int_non, ty_int_bl, ty_int_int, ty_int_str, ty_int_tup, ty_int_ref, ty_int_klst, ty_bool_non, ty_bool_bl, ty_bool_int, ty_bool_str, ty_bool_tup, ty_bool_ref, ty_bool_klst, ty_str_non, ty_str_bl, ty_str_int, ty_str_str, ty_str_tup, ty_str_ref, ty_str_klst, ty_tuple_non, ty_tuple_bl, ty_tuple_int, ty_tuple_str, ty_tuple_tup, ty_tuple_ref, ty_tuple_klst, ty_list_non, ty_list_bl, ty_list_int, ty_list_str, ty_list_tup, ty_list_ref, ty_list_klst, ty_int_clo, ty_bool_clo, ty_str_clo, ty_tuple_clo, ty_list_clo, onx_nx, trn_nx, trn_ret, trn_exc, trn_bk, trn_ct, wp_guard, wp_lrg1, wp_trg1, and_self, if_true, if_false, Nat.reduceAdd, Nat.reduceSub, Nat.reduceLT, Nat.reduceLeDiff, Int.cast_ofNat_Int, Int.reduceNeg, Int.reduceAdd, Int.reduceSub, Int.reduceLT, Int.reduceLE, Int.reduceEq, Int.reduceToNat, decide_true, decide_false, reduceCtorEq, eq_self, Bool.not_eq_eq_eq_not, Bool.false_eq_true, ite_self, wp_ite, wr_ite]
/-- the first wrong stream of a lot -/
def badLot (n : Int) : Nat → Int → List D → Option Nat
  | _, _, [] => none
  | i, last, d :: r => if wholeB d (last + 1) (n - 1) then (match d with
    | .int k => badLot n (i + 1) k r
    | _ => none) else some i
def lotX (n : Int) : D → Ex D
  | .tup l => match badLot n 0 (-1) l with
    | none => .val .non
    | some i => .exc ⟨8, .int i⟩
  | _ => .exc ⟨8, .int (-1)⟩
theorem wholeB_int {d : D} {lo hi : Int} (h : wholeB d lo hi = true) : ∃ i, d = .int i ∧ lo ≤ i ∧ i ≤ hi := by
  cases d <;> simp [wholeB] at h
  exact ⟨_, rfl, h⟩
theorem badLot_cons {n : Int} {i : Nat} {last : Int} {d : D} {r : List D} : badLot n i last (d :: r) = if wholeB d (last + 1) (n - 1) then (match d with
    | .int k => badLot n (i + 1) k r
    | _ => none) else some i := rfl
theorem lot_eq (n : Nat) {S : Store} {N : Int} {d : D} (h : Av S d) :
    callN prog 0 (n + 1) f_asked_lot [.int N, d] S = some (lotX N d, S) := by
  apply eq_of_wp
  refine wp_def (fd := d_asked_lot) rfl rfl ?_; simp only [d_asked_lot, b_asked_lot, argsL, List.map_cons, List.map_nil, List.replicate, List.cons_append, List.nil_append, List.append_nil, Nat.sub_self, List.length_cons, List.length_nil, Nat.reduceAdd, Nat.reduceSub, List.replicate_succ, List.replicate_zero]
  simp_arith [wp_ite, wr_ite, av_nc h, isi_av _ h]
  cases d with
  | tup l =>
    simp [evE, evEs, evOr1, evOr2, evAnd1, evAnd2, evIfs, evIt, Sim.asg, asgs, evS, wp_bd, wp_ok, wp_ofO, thn_val, bk_val, ek_val, thn_exc, bk_exc, ek_exc, wr_some, wr_ex, wr_nil, wr_cons, sk_nx, sk_ret, sk_exc, sk_bk, sk_ct, fin_ret, fin_nx, fin_exc, orc_call, getV_nc, getL_zero, getL_succ, nc_non, nc_bl, nc_int, nc_str, nc_tup, nc_ref, nc_klst, Option.bind_some, Option.some.injEq, exists_eq_left', tru_bl, tru_tup, cmp_lt, cmp_le, cmp_gt, cmp_ge, cmp_eq, cmp_ne, cmp_is_non, cmp_isn_non, bin_add, bin_sub, bin_mul, bin_fdiv, bin_mod, bin_addT, un_neg, bi_int, bi_intb, bi_max2, bi_min2, bi_lenT, bi_lenK, bi_tupT, bi_lstT, isi_wp, wp_intM, wp_slUT, wp_slLT, wp_slBT, wp_rgS1, wp_rgS2, seq_T, seq_K, enum_T, wp_alloc, decide_eq_true_eq, List.set_cons_zero, List.set_cons_succ, List.length_cons, List.length_nil, Bool.not_eq_true', decide_eq_false_iff_not, Bool.not_true, Bool.not_false, pow106, pow109, pow1018, pow1020, pow1030, mem_ints, leT3, ty_int_non, ty_int_bl, ty_int_int, ty_int_str, ty_int_tup, ty_int_ref, ty_int_klst, ty_bool_non, ty_bool_bl, ty_bool_int, ty_bool_str, ty_bool_tup, ty_bool_ref, ty_bool_klst, ty_str_non, ty_str_bl, ty_str_int, ty_str_str, ty_str_tup, ty_str_ref, ty_str_klst, ty_tuple_non, ty_tuple_bl, ty_tuple_int, ty_tuple_str, ty_tuple_tup, ty_tuple_ref, ty_tuple_klst, ty_list_non, ty_list_bl, ty_list_int, ty_list_str, ty_list_tup, ty_list_ref, ty_list_klst, ty_int_clo, ty_bool_clo, ty_str_clo, ty_tuple_clo, ty_list_clo, onx_nx, trn_nx, trn_ret, trn_exc, trn_bk, trn_ct, wp_guard, wp_lrg1, wp_trg1, and_self, if_true, if_false, Nat.reduceAdd, Nat.reduceSub, Nat.reduceLT, Nat.reduceLeDiff, Int.cast_ofNat_Int, Int.reduceNeg, Int.reduceAdd, Int.reduceSub, Int.reduceLT, Int.reduceLE, Int.reduceEq, Int.reduceToNat, decide_true, decide_false, reduceCtorEq, eq_self, Bool.not_eq_eq_eq_not, Bool.false_eq_true, ite_self, wp_ite, wr_ite]
    refine wr_for (Inv := fun r L S1 => S1 = S ∧ ∃ (i : Nat) (last : Int) (rest : List D) (a b : Option D), r = enumL i rest ∧ L = [some (.int N), some (.tup l), some (.int last), a, b] ∧ AvL S rest ∧ badLot N 0 (-1) l = badLot N i last rest) ?_ ?_ ?_ _ _ _ ?_
    · intros; rfl
    · rintro d r L S1 ⟨rfl, i, last, rest, a, b, hr, rfl, hav, hb⟩
      cases rest with
      | nil => cases hr
      | cons x rest =>
        simp only [enumL, List.cons.injEq] at hr
        obtain ⟨rfl, rfl⟩ := hr
        rw [AvL] at hav
        simp_arith [wp_ite, wr_ite, List.isEmpty_nil, av_nc hav.1, wp_of_eq (whole_eq n hav.1)]
        rw [badLot_cons] at hb
        cases hw : wholeB x (last + 1) (N - 1) with
        | false => simp [evE, evEs, evOr1, evOr2, evAnd1, evAnd2, evIfs, evIt, Sim.asg, asgs, evS, wp_bd, wp_ok, wp_ofO, thn_val, bk_val, ek_val, thn_exc, bk_exc, ek_exc, wr_some, wr_ex, wr_nil, wr_cons, sk_nx, sk_ret, sk_exc, sk_bk, sk_ct, fin_ret, fin_nx, fin_exc, orc_call, getV_nc, getL_zero, getL_succ, nc_non, nc_bl, nc_int, nc_str, nc_tup, nc_ref, nc_klst, Option.bind_some, Option.some.injEq, exists_eq_left', tru_bl, tru_tup, cmp_lt, cmp_le, cmp_gt, cmp_ge, cmp_eq, cmp_ne, cmp_is_non, cmp_isn_non, bin_add, bin_sub, bin_mul, bin_fdiv, bin_mod, bin_addT, un_neg, bi_int, bi_intb, bi_max2, bi_min2, bi_lenT, bi_lenK, bi_tupT, bi_lstT, isi_wp, wp_intM, wp_slUT, wp_slLT, wp_slBT, wp_rgS1, wp_rgS2, seq_T, seq_K, enum_T, wp_alloc, decide_eq_true_eq, List.set_cons_zero, List.set_cons_succ, List.length_cons, List.length_nil, Bool.not_eq_true', decide_eq_false_iff_not, Bool.not_true, Bool.not_false, pow106, pow109, pow1018, pow1020, pow1030, mem_ints, leT3, ty_int_non, ty_int_bl, ty_int_int, ty_int_str, ty_int_tup, ty_int_ref, ty_int_klst, ty_bool_non, ty_bool_bl, ty_bool_int, ty_bool_str, ty_bool_tup, ty_bool_ref, ty_bool_klst, ty_str_non, ty_str_bl, ty_str_int, ty_str_str, ty_str_tup, ty_str_ref, ty_str_klst, ty_tuple_non, ty_tuple_bl, ty_tuple_int, ty_tuple_str, ty_tuple_tup, ty_tuple_ref, ty_tuple_klst, ty_list_non, ty_list_bl, ty_list_int, ty_list_str, ty_list_tup, ty_list_ref, ty_list_klst, ty_int_clo, ty_bool_clo, ty_str_clo, ty_tuple_clo, ty_list_clo, onx_nx, trn_nx, trn_ret, trn_exc, trn_bk, trn_ct, wp_guard, wp_lrg1, wp_trg1, and_self, if_true, if_false, Nat.reduceAdd, Nat.reduceSub, Nat.reduceLT, Nat.reduceLeDiff, Int.cast_ofNat_Int, Int.reduceNeg, Int.reduceAdd, Int.reduceSub, Int.reduceLT, Int.reduceLE, Int.reduceEq, Int.reduceToNat, decide_true, decide_false, reduceCtorEq, eq_self, Bool.not_eq_eq_eq_not, Bool.false_eq_true, ite_self, wp_ite, wr_ite, trn_exc, lotX, hb, hw]
        | true =>
          obtain ⟨k, rfl, -, -⟩ := wholeB_int hw
          simp_arith [wp_ite, wr_ite, trn_nx, hw]
          rw [hw] at hb
          exact ⟨trivial, i + 1, k, rest, _, _, rfl, rfl, hav.2, by simpa using hb⟩
    · rintro L S1 ⟨rfl, i, last, rest, a, b, hr, rfl, hav, hb⟩
      cases rest with
      | nil => simp [evE, evEs, evOr1, evOr2, evAnd1, evAnd2, evIfs, evIt, Sim.asg, asgs, evS, wp_bd, wp_ok, wp_ofO, thn_val, bk_val, ek_val, thn_exc, bk_exc, ek_exc, wr_some, wr_ex, wr_nil, wr_cons, sk_nx, sk_ret, sk_exc, sk_bk, sk_ct, fin_ret, fin_nx, fin_exc, orc_call, getV_nc, getL_zero, getL_succ, nc_non, nc_bl, nc_int, nc_str, nc_tup, nc_ref, nc_klst, Option.bind_some, Option.some.injEq, exists_eq_left', tru_bl, tru_tup, cmp_lt, cmp_le, cmp_gt, cmp_ge, cmp_eq, cmp_ne, cmp_is_non, cmp_isn_non, bin_add, bin_sub, bin_mul, bin_fdiv, bin_mod, bin_addT, un_neg, bi_int, bi_intb, bi_max2, bi_min2, bi_lenT, bi_lenK, bi_tupT, bi_lstT, isi_wp, wp_intM, wp_slUT, wp_slLT, wp_slBT, wp_rgS1, wp_rgS2, seq_T, seq_K, enum_T, wp_alloc, decide_eq_true_eq, List.set_cons_zero, List.set_cons_succ, List.length_cons, List.length_nil, Bool.not_eq_true', decide_eq_false_iff_not, Bool.not_true, Bool.not_false, pow106, pow109, pow1018, pow1020, pow1030, mem_ints, leT3, ty_int_non, ty_int_bl, ty_int_int, ty_int_str, ty_int_tup, ty_int_ref, ty_int_klst, ty_bool_non, ty_bool_bl, ty_bool_int, ty_bool_str, ty_bool_tup, ty_bool_ref, ty_bool_klst, ty_str_non, ty_str_bl, ty_str_int, ty_str_str, ty_str_tup, ty_str_ref, ty_str_klst, ty_tuple_non, ty_tuple_bl, ty_tuple_int, ty_tuple_str, ty_tuple_tup, ty_tuple_ref, ty_tuple_klst, ty_list_non, ty_list_bl, ty_list_int, ty_list_str, ty_list_tup, ty_list_ref, ty_list_klst, ty_int_clo, ty_bool_clo, ty_str_clo, ty_tuple_clo, ty_list_clo, onx_nx, trn_nx, trn_ret, trn_exc, trn_bk, trn_ct, wp_guard, wp_lrg1, wp_trg1, and_self, if_true, if_false, Nat.reduceAdd, Nat.reduceSub, Nat.reduceLT, Nat.reduceLeDiff, Int.cast_ofNat_Int, Int.reduceNeg, Int.reduceAdd, Int.reduceSub, Int.reduceLT, Int.reduceLE, Int.reduceEq, Int.reduceToNat, decide_true, decide_false, reduceCtorEq, eq_self, Bool.not_eq_eq_eq_not, Bool.false_eq_true, ite_self, wp_ite, wr_ite, lotX, hb, badLot]
      | cons x rest => cases hr
    · exact ⟨rfl, 0, -1, l, none, none, rfl, rfl, by simpa [Av] using h, rfl⟩
  | _ => simp [evE, evEs, evOr1, evOr2, evAnd1, evAnd2, evIfs, evIt, Sim.asg, asgs, evS, wp_bd, wp_ok, wp_ofO, thn_val, bk_val, ek_val, thn_exc, bk_exc, ek_exc, wr_some, wr_ex, wr_nil, wr_cons, sk_nx, sk_ret, sk_exc, sk_bk, sk_ct, fin_ret, fin_nx, fin_exc, orc_call, getV_nc, getL_zero, getL_succ, nc_non, nc_bl, nc_int, nc_str, nc_tup, nc_ref, nc_klst, Option.bind_some, Option.some.injEq, exists_eq_left', tru_bl, tru_tup, cmp_lt, cmp_le, cmp_gt, cmp_ge, cmp_eq, cmp_ne, cmp_is_non, cmp_isn_non, bin_add, bin_sub, bin_mul, bin_fdiv, bin_mod, bin_addT, un_neg, bi_int, bi_intb, bi_max2, bi_min2, bi_lenT, bi_lenK, bi_tupT, bi_lstT, isi_wp, wp_intM, wp_slUT, wp_slLT, wp_slBT, wp_rgS1, wp_rgS2, seq_T, seq_K, enum_T, wp_alloc, decide_eq_true_eq, List.set_cons_zero, List.set_cons_succ, List.length_cons, List.length_nil, Bool.not_eq_true', decide_eq_false_iff_not, Bool.not_true, Bool.not_false, pow106, pow109, pow1018, pow1020, pow1030, mem_ints, leT3, ty_int_non, ty_int_bl, ty_int_int, ty_int_str, ty_int_tup, ty_int_ref, ty_int_klst, ty_bool_non, ty_bool_bl, ty_bool_int, ty_bool_str, ty_bool_tup, ty_bool_ref, ty_bool_klst, ty_str_non, ty_str_bl, ty_str_int, ty_str_str, ty_str_tup, ty_str_ref, ty_str_klst, ty_tuple_non, ty_tuple_bl, ty_tuple_int, ty_tuple_str, ty_tuple_tup, ty_tuple_ref, ty_tuple_klst, ty_list_non, ty_list_bl, ty_list_int, ty_list_str, ty_list_tup, ty_list_ref, ty_list_klst, ty_int_clo, ty_bool_clo, ty_str_clo, ty_tuple_clo, ty_list_clo, onx_nx, trn_nx, trn_ret, trn_exc, trn_bk, trn_ct, wp_guard, wp_lrg1, wp_trg1, and_self, if_true, if_false, Nat.reduceAdd, Nat.reduceSub, Nat.reduceLT, Nat.reduceLeDiff, Int.cast_ofNat_Int, Int.reduceNeg, Int.reduceAdd, Int.reduceSub, Int.reduceLT, Int.reduceLE, Int.reduceEq, Int.reduceToNat, decide_true, decide_false, reduceCtorEq, eq_self, Bool.not_eq_eq_eq_not, Bool.false_eq_true, ite_self, wp_ite, wr_ite, lotX]
def wlotV (n : Int) : D → D
  | .tup l => match badLot n 0 (-1) l with
    | none => .non
    | some i => .tup [.str (Str.ofString "BadLot"), .int i]
  | _ => .tup [.str (Str.ofString "BadLot"), .int (-1)]
theorem badLot_ints {n : Int} : ∀ {l : List D} {i : Nat} {last : Int}, badLot n i last l = none → ∃ ts : List Int, l = ts.map D.int
  | [], _, _, _ => ⟨[], rfl⟩
  | d :: r, i, last, h => by
    rw [badLot_cons] at h
    cases hw : wholeB d (last + 1) (n - 1) with
    | false => simp [hw] at h
    | true =>
      obtain ⟨k, rfl, -, -⟩ := wholeB_int hw
      rw [hw] at h
      obtain ⟨ts, rfl⟩ := badLot_ints (by simpa using h)
      exact ⟨k :: ts, rfl⟩
theorem wlot_eq (n : Nat) {S : Store} {N : Int} {d : D} (h : Av S d) (hz : ∀ l, d = .tup l → l.length ≤ 1000000) :
    callN prog 0 (n + 2) f_law_wrong_lot [.int N, d] S = some (.val (wlotV N d), S) := by
  apply eq_of_wp
  refine wp_def (fd := d_law_wrong_lot) rfl rfl ?_; simp only [d_law_wrong_lot, b_law_wrong_lot, argsL, List.map_cons, List.map_nil, List.replicate, List.cons_append, List.nil_append, List.append_nil, Nat.sub_self, List.length_cons, List.length_nil, Nat.reduceAdd, Nat.reduceSub, List.replicate_succ, List.replicate_zero]
  simp_arith [wp_ite, wr_ite, av_nc h, isi_av _ h]
  cases d with
  | tup l =>
    have hl := hz l rfl
    simp [evE, evEs, evOr1, evOr2, evAnd1, evAnd2, evIfs, evIt, Sim.asg, asgs, evS, wp_bd, wp_ok, wp_ofO, thn_val, bk_val, ek_val, thn_exc, bk_exc, ek_exc, wr_some, wr_ex, wr_nil, wr_cons, sk_nx, sk_ret, sk_exc, sk_bk, sk_ct, fin_ret, fin_nx, fin_exc, orc_call, getV_nc, getL_zero, getL_succ, nc_non, nc_bl, nc_int, nc_str, nc_tup, nc_ref, nc_klst, Option.bind_some, Option.some.injEq, exists_eq_left', tru_bl, tru_tup, cmp_lt, cmp_le, cmp_gt, cmp_ge, cmp_eq, cmp_ne, cmp_is_non, cmp_isn_non, bin_add, bin_sub, bin_mul, bin_fdiv, bin_mod, bin_addT, un_neg, bi_int, bi_intb, bi_max2, bi_min2, bi_lenT, bi_lenK, bi_tupT, bi_lstT, isi_wp, wp_intM, wp_slUT, wp_slLT, wp_slBT, wp_rgS1, wp_rgS2, seq_T, seq_K, enum_T, wp_alloc, decide_eq_true_eq, List.set_cons_zero, List.set_cons_succ, List.length_cons, List.length_nil, Bool.not_eq_true', decide_eq_false_iff_not, Bool.not_true, Bool.not_false, pow106, pow109, pow1018, pow1020, pow1030, mem_ints, leT3, ty_int_non, ty_int_bl, ty_int_int, ty_int_str, ty_int_tup, ty_int_ref, ty_int_klst, ty_bool_non, ty_bool_bl, ty_bool_int, ty_bool_str, ty_bool_tup, ty_bool_ref, ty_bool_klst, ty_str_non, ty_str_bl, ty_str_int, ty_str_str, ty_str_tup, ty_str_ref, ty_str_klst, ty_tuple_non, ty_tuple_bl, ty_tuple_int, ty_tuple_str, ty_tuple_tup, ty_tuple_ref, ty_tuple_klst, ty_list_non, ty_list_bl, ty_list_int, ty_list_str, ty_list_tup, ty_list_ref, ty_list_klst, ty_int_clo, ty_bool_clo, ty_str_clo, ty_tuple_clo, ty_list_clo, onx_nx, trn_nx, trn_ret, trn_exc, trn_bk, trn_ct, wp_guard, wp_lrg1, wp_trg1, and_self, if_true, if_false, Nat.reduceAdd, Nat.reduceSub, Nat.reduceLT, Nat.reduceLeDiff, Int.cast_ofNat_Int, Int.reduceNeg, Int.reduceAdd, Int.reduceSub, Int.reduceLT, Int.reduceLE, Int.reduceEq, Int.reduceToNat, decide_true, decide_false, reduceCtorEq, eq_self, Bool.not_eq_eq_eq_not, Bool.false_eq_true, ite_self, wp_ite, wr_ite]
    refine ⟨by simp [small62]; omega, ?_⟩
    refine wr_for (Inv := fun r L S1 => S1 = S ∧ ∃ (pre rest : List D) (last : Int) (a : Option D), l = pre ++ rest ∧ r = rangeL pre.length rest.length ∧ L = [some (.int N), some (.tup l), a] ∧ AvL S rest ∧ badLot N 0 (-1) l = badLot N pre.length last rest ∧
       (pre = [] ∧ last = -1 ∨ (∃ p, pre = p ++ [.int last]) ∧ 0 ≤ last)) ?_ ?_ ?_ _ _ _ ?_
    · intros; rfl
    · rintro d r L S1 ⟨rfl, pre, rest, last, a, hsp, hr, rfl, hav, hb, hp⟩
      cases rest with
      | nil => cases hr
      | cons x rest =>
        simp only [List.length_cons, rangeL_succ, List.cons.injEq] at hr
        obtain ⟨rfl, rfl⟩ := hr
        rw [AvL] at hav
        have hx : l[pre.length]? = some x := by rw [hsp]; simp
        have hi : ixN l.length (pre.length : Int) = some pre.length := ixN_nat (by rw [hsp]; simp)
        simp_arith [wp_ite, wr_ite, sub_T hi hx, av_nc hav.1, wp_of_eq (isnum_eq n hav.1)]
        rw [badLot_cons] at hb
        cases hw : wholeB x 0 (N - 1) with
        | false =>
          have hw2 : wholeB x (last + 1) (N - 1) = false := by
            cases x <;> simp [wholeB] at hw ⊢
            rcases hp with ⟨-, rfl⟩ | ⟨-, h0⟩ <;> omega
          simp [evE, evEs, evOr1, evOr2, evAnd1, evAnd2, evIfs, evIt, Sim.asg, asgs, evS, wp_bd, wp_ok, wp_ofO, thn_val, bk_val, ek_val, thn_exc, bk_exc, ek_exc, wr_some, wr_ex, wr_nil, wr_cons, sk_nx, sk_ret, sk_exc, sk_bk, sk_ct, fin_ret, fin_nx, fin_exc, orc_call, getV_nc, getL_zero, getL_succ, nc_non, nc_bl, nc_int, nc_str, nc_tup, nc_ref, nc_klst, Option.bind_some, Option.some.injEq, exists_eq_left', tru_bl, tru_tup, cmp_lt, cmp_le, cmp_gt, cmp_ge, cmp_eq, cmp_ne, cmp_is_non, cmp_isn_non, bin_add, bin_sub, bin_mul, bin_fdiv, bin_mod, bin_addT, un_neg, bi_int, bi_intb, bi_max2, bi_min2, bi_lenT, bi_lenK, bi_tupT, bi_lstT, isi_wp, wp_intM, wp_slUT, wp_slLT, wp_slBT, wp_rgS1, wp_rgS2, seq_T, seq_K, enum_T, wp_alloc, decide_eq_true_eq, List.set_cons_zero, List.set_cons_succ, List.length_cons, List.length_nil, Bool.not_eq_true', decide_eq_false_iff_not, Bool.not_true, Bool.not_false, pow106, pow109, pow1018, pow1020, pow1030, mem_ints, leT3, ty_int_non, ty_int_bl, ty_int_int, ty_int_str, ty_int_tup, ty_int_ref, ty_int_klst, ty_bool_non, ty_bool_bl, ty_bool_int, ty_bool_str, ty_bool_tup, ty_bool_ref, ty_bool_klst, ty_str_non, ty_str_bl, ty_str_int, ty_str_str, ty_str_tup, ty_str_ref, ty_str_klst, ty_tuple_non, ty_tuple_bl, ty_tuple_int, ty_tuple_str, ty_tuple_tup, ty_tuple_ref, ty_tuple_klst, ty_list_non, ty_list_bl, ty_list_int, ty_list_str, ty_list_tup, ty_list_ref, ty_list_klst, ty_int_clo, ty_bool_clo, ty_str_clo, ty_tuple_clo, ty_list_clo, onx_nx, trn_nx, trn_ret, trn_exc, trn_bk, trn_ct, wp_guard, wp_lrg1, wp_trg1, and_self, if_true, if_false, Nat.reduceAdd, Nat.reduceSub, Nat.reduceLT, Nat.reduceLeDiff, Int.cast_ofNat_Int, Int.reduceNeg, Int.reduceAdd, Int.reduceSub, Int.reduceLT, Int.reduceLE, Int.reduceEq, Int.reduceToNat, decide_true, decide_false, reduceCtorEq, eq_self, Bool.not_eq_eq_eq_not, Bool.false_eq_true, ite_self, wp_ite, wr_ite, trn_ret, wlotV, hb, hw2]
        | true =>
          obtain ⟨k, rfl, h0, h1⟩ := wholeB_int hw
          rcases hp with ⟨rfl, rfl⟩ | ⟨⟨p, rfl⟩, hlast⟩
          · have : wholeB (.int k) (-1 + 1) (N - 1) = true := hw
            rw [this] at hb
            have h00 : ¬ (0 : Int) < (([] : List D).length : Nat) := by simp
            simp_arith [wp_ite, wr_ite, trn_nx, h00, decide_false]
            exact ⟨trivial, [.int k], rest, k, _, hsp, rfl, rfl, hav.2, by simpa using hb, Or.inr ⟨⟨[], rfl⟩, h0⟩⟩
          · have hj : l[p.length]? = some (.int last) := by rw [hsp]; simp
            have hi2 : ixN l.length ((p ++ [D.int last]).length - 1 : Int) = some p.length := by
              have : ((p ++ [D.int last]).length - 1 : Int) = (p.length : Nat) := by simp
              rw [this]; exact ixN_nat (by rw [hsp]; simp)
            have hpos : (0 : Int) < ((p ++ [D.int last]).length : Nat) := by simp
            simp_arith [wp_ite, wr_ite, hpos, decide_true, sub_T hi2 hj]
            by_cases hk : k ≤ last
            · have : wholeB (.int k) (last + 1) (N - 1) = false := by simp [wholeB]; omega
              rw [this] at hb
              simp [hk, trn_ret, fin_ret, sk_ret, wlotV, hb]
            · have : wholeB (.int k) (last + 1) (N - 1) = true := by simp [wholeB]; omega
              rw [this] at hb
              simp_arith [wp_ite, wr_ite, hk, decide_false, trn_nx]
              exact ⟨trivial, p ++ [.int last, .int k], rest, k, _, by simpa using hsp, by simp; rfl, rfl, hav.2, by simpa using hb, Or.inr ⟨⟨p ++ [.int last], by simp⟩, h0⟩⟩
    · rintro L S1 ⟨rfl, pre, rest, last, a, hsp, hr, rfl, hav, hb, hp⟩
      cases rest with
      | nil => simp [evE, evEs, evOr1, evOr2, evAnd1, evAnd2, evIfs, evIt, Sim.asg, asgs, evS, wp_bd, wp_ok, wp_ofO, thn_val, bk_val, ek_val, thn_exc, bk_exc, ek_exc, wr_some, wr_ex, wr_nil, wr_cons, sk_nx, sk_ret, sk_exc, sk_bk, sk_ct, fin_ret, fin_nx, fin_exc, orc_call, getV_nc, getL_zero, getL_succ, nc_non, nc_bl, nc_int, nc_str, nc_tup, nc_ref, nc_klst, Option.bind_some, Option.some.injEq, exists_eq_left', tru_bl, tru_tup, cmp_lt, cmp_le, cmp_gt, cmp_ge, cmp_eq, cmp_ne, cmp_is_non, cmp_isn_non, bin_add, bin_sub, bin_mul, bin_fdiv, bin_mod, bin_addT, un_neg, bi_int, bi_intb, bi_max2, bi_min2, bi_lenT, bi_lenK, bi_tupT, bi_lstT, isi_wp, wp_intM, wp_slUT, wp_slLT, wp_slBT, wp_rgS1, wp_rgS2, seq_T, seq_K, enum_T, wp_alloc, decide_eq_true_eq, List.set_cons_zero, List.set_cons_succ, List.length_cons, List.length_nil, Bool.not_eq_true', decide_eq_false_iff_not, Bool.not_true, Bool.not_false, pow106, pow109, pow1018, pow1020, pow1030, mem_ints, leT3, ty_int_non, ty_int_bl, ty_int_int, ty_int_str, ty_int_tup, ty_int_ref, ty_int_klst, ty_bool_non, ty_bool_bl, ty_bool_int, ty_bool_str, ty_bool_tup, ty_bool_ref, ty_bool_klst, ty_str_non, ty_str_bl, ty_str_int, ty_str_str, ty_str_tup, ty_str_ref, ty_str_klst, ty_tuple_non, ty_tuple_bl, ty_tuple_int, ty_tuple_str, ty_tuple_tup, ty_tuple_ref, ty_tuple_klst, ty_list_non, ty_list_bl, ty_list_int, ty_list_str, ty_list_tup, ty_list_ref, ty_list_klst, ty_int_clo, ty_bool_clo, ty_str_clo, ty_tuple_clo, ty_list_clo, onx_nx, trn_nx, trn_ret, trn_exc, trn_bk, trn_ct, wp_guard, wp_lrg1, wp_trg1, and_self, if_true, if_false, Nat.reduceAdd, Nat.reduceSub, Nat.reduceLT, Nat.reduceLeDiff, Int.cast_ofNat_Int, Int.reduceNeg, Int.reduceAdd, Int.reduceSub, Int.reduceLT, Int.reduceLE, Int.reduceEq, Int.reduceToNat, decide_true, decide_false, reduceCtorEq, eq_self, Bool.not_eq_eq_eq_not, Bool.false_eq_true, ite_self, wp_ite, wr_ite, wlotV, hb, badLot]
      | cons x rest => simp only [List.length_cons, rangeL_succ] at hr; cases hr
    · exact ⟨rfl, [], l, -1, none, rfl, rfl, rfl, by simpa [Av] using h, rfl, Or.inl ⟨rfl, rfl⟩⟩
  | _ => simp [evE, evEs, evOr1, evOr2, evAnd1, evAnd2, evIfs, evIt, Sim.asg, asgs, evS, wp_bd, wp_ok, wp_ofO, thn_val, bk_val, ek_val, thn_exc, bk_exc, ek_exc, wr_some, wr_ex, wr_nil, wr_cons, sk_nx, sk_ret, sk_exc, sk_bk, sk_ct, fin_ret, fin_nx, fin_exc, orc_call, getV_nc, getL_zero, getL_succ, nc_non, nc_bl, nc_int, nc_str, nc_tup, nc_ref, nc_klst, Option.bind_some, Option.some.injEq, exists_eq_left', tru_bl, tru_tup, cmp_lt, cmp_le, cmp_gt, cmp_ge, cmp_eq, cmp_ne, cmp_is_non, cmp_isn_non, bin_add, bin_sub, bin_mul, bin_fdiv, bin_mod, bin_addT, un_neg, bi_int, bi_intb, bi_max2, bi_min2, bi_lenT, bi_lenK, bi_tupT, bi_lstT, isi_wp, wp_intM, wp_slUT, wp_slLT, wp_slBT, wp_rgS1, wp_rgS2, seq_T, seq_K, enum_T, wp_alloc, decide_eq_true_eq, List.set_cons_zero, List.set_cons_succ, List.length_cons, List.length_nil, Bool.not_eq_true', decide_eq_false_iff_not, Bool.not_true, Bool.not_false, pow106, pow109, pow1018, pow1020, pow1030, mem_ints, leT3, ty_int_non, ty_int_bl, ty_int_int, ty_int_str, ty_int_tup, ty_int_ref, ty_int_klst, ty_bool_non, ty_bool_bl, ty_bool_int, ty_bool_str, ty_bool_tup, ty_bool_ref, ty_bool_klst, ty_str_non, ty_str_bl, ty_str_int, ty_str_str, ty_str_tup, ty_str_ref, ty_str_klst, ty_tuple_non, ty_tuple_bl, ty_tuple_int, ty_tuple_str, ty_tuple_tup, ty_tuple_ref, ty_tuple_klst, ty_list_non, ty_list_bl, ty_list_int, ty_list_str, ty_list_tup, ty_list_ref, ty_list_klst, ty_int_clo, ty_bool_clo, ty_str_clo, ty_tuple_clo, ty_list_clo, onx_nx, trn_nx, trn_ret, trn_exc, trn_bk, trn_ct, wp_guard, wp_lrg1, wp_trg1, and_self, if_true, if_false, Nat.reduceAdd, Nat.reduceSub, Nat.reduceLT, Nat.reduceLeDiff, Int.cast_ofNat_Int, Int.reduceNeg, Int.reduceAdd, Int.reduceSub, Int.reduceLT, Int.reduceLE, Int.reduceEq, Int.reduceToNat, decide_true, decide_false, reduceCtorEq, eq_self, Bool.not_eq_eq_eq_not, Bool.false_eq_true, ite_self, wp_ite, wr_ite, wlotV]
def dueB (n : Int) (ts : List Int) : D → Bool
  | .tup [a, b, c, e] => wholeB a 0 1000000 && (wholeB b 0 (n - 1) && (wholeB e 1 1000000 && (match a, b with
    | .int s, .int v => if ts.contains v then wholeB c s (s + 1000000) else wholeB c (-1) (-1)
    | _, _ => false)))
  | _ => false
theorem four {α : Type} {l : List α} (h : l.length = 4) : ∃ a b c d, l = [a, b, c, d] := by
  match l, h with
  | [a, b, c, d], _ => exact ⟨a, b, c, d, rfl⟩
theorem dueB_len {n : Int} {ts : List Int} {l : List D} (h : l.length ≠ 4) : dueB n ts (.tup l) = false := by
  match l with
  | [] => rfl
  | [_] => rfl
  | [_, _] => rfl
  | [_, _, _] => rfl
  | [_, _, _, _] => simp at h
  | _ :: _ :: _ :: _ :: _ :: _ => rfl
theorem dueB_int {n : Int} {ts : List Int} {d : D} (h : dueB n ts d = true) : ∃ a b c e : Int, d = .tup [.int a, .int b, .int c, .int e] := by
  cases d with
  | tup l =>
    by_cases hl : l.length = 4
    · obtain ⟨a, b, c, e, rfl⟩ := four hl
      simp only [dueB, Bool.and_eq_true] at h
      obtain ⟨h1, h2, h3, h4⟩ := h
      obtain ⟨a, rfl, -, -⟩ := wholeB_int h1
      obtain ⟨b, rfl, -, -⟩ := wholeB_int h2
      obtain ⟨e, rfl, -, -⟩ := wholeB_int h3
      simp only at h4
      split at h4
      · obtain ⟨c, rfl, -, -⟩ := wholeB_int h4; exact ⟨a, b, c, e, rfl⟩
      · obtain ⟨c, rfl, -, -⟩ := wholeB_int h4; exact ⟨a, b, c, e, rfl⟩
    · rw [dueB_len hl] at h; cases h
  | _ => simp [dueB] at h
theorem due_eq (n : Nat) {S : Store} {N : Int} {ts : List Int} {d : D} (h : Av S d) :
    callN prog 0 (n + 1) f_is_due_row [.int N, .tup (ts.map .int), d] S = some (.val (.bl (dueB N ts d)), S) := by
  apply eq_of_wp
  refine wp_def (fd := d_is_due_row) rfl rfl ?_; simp only [d_is_due_row, b_is_due_row, argsL, List.map_cons, List.map_nil, List.replicate, List.cons_append, List.nil_append, List.append_nil, Nat.sub_self, List.length_cons, List.length_nil, Nat.reduceAdd, Nat.reduceSub, List.replicate_succ, List.replicate_zero]
  simp_arith [av_nc h, isi_av _ h]
  cases d with
  | tup l =>
    by_cases hl : l.length = 4
    · obtain ⟨a, b, c, e, rfl⟩ := four hl
      simp only [Av, AvL] at h
      obtain ⟨ha, hb, hc, he, -⟩ := h
      have t4 : ([a, b, c, e].length : Int) = 4 := rfl
      simp_arith [bi_lenT, t4, decide_true, List.isEmpty_nil, av_nc ha, av_nc hb, av_nc hc, av_nc he, wp_of_eq (whole_eq n ha), wp_of_eq (whole_eq n hb), wp_of_eq (whole_eq n hc), wp_of_eq (whole_eq n he)]
      simp only [dueB]
      cases h1 : wholeB a 0 1000000 with
      | false => simp_arith [bi_lenT, t4, decide_true, List.isEmpty_nil, av_nc ha, av_nc hb, av_nc hc, av_nc he, wp_of_eq (whole_eq n ha), wp_of_eq (whole_eq n hb), wp_of_eq (whole_eq n hc), wp_of_eq (whole_eq n he), h1, Bool.false_and]
      | true =>
        obtain ⟨a, rfl, -, -⟩ := wholeB_int h1
        cases h2 : wholeB b 0 (N - 1) with
        | false => simp_arith [bi_lenT, t4, decide_true, List.isEmpty_nil, av_nc ha, av_nc hb, av_nc hc, av_nc he, wp_of_eq (whole_eq n ha), wp_of_eq (whole_eq n hb), wp_of_eq (whole_eq n hc), wp_of_eq (whole_eq n he), h1, h2, Bool.false_and]; simp
        | true =>
          obtain ⟨b, rfl, -, -⟩ := wholeB_int h2
          cases h3 : wholeB e 1 1000000 with
          | false => simp_arith [bi_lenT, t4, decide_true, List.isEmpty_nil, av_nc ha, av_nc hb, av_nc hc, av_nc he, wp_of_eq (whole_eq n ha), wp_of_eq (whole_eq n hb), wp_of_eq (whole_eq n hc), wp_of_eq (whole_eq n he), h1, h2, h3, Bool.false_and]; simp
          | true =>
            obtain ⟨e, rfl, -, -⟩ := wholeB_int h3
            simp_arith [bi_lenT, t4, decide_true, List.isEmpty_nil, av_nc ha, av_nc hb, av_nc hc, av_nc he, wp_of_eq (whole_eq n ha), wp_of_eq (whole_eq n hb), wp_of_eq (whole_eq n hc), wp_of_eq (whole_eq n he), h1, h2, h3, Bool.false_and]
            cases hcb : ts.contains b
            · simp_arith [bi_lenT, t4, decide_true, List.isEmpty_nil, av_nc ha, av_nc hb, av_nc hc, av_nc he, wp_of_eq (whole_eq n ha), wp_of_eq (whole_eq n hb), wp_of_eq (whole_eq n hc), wp_of_eq (whole_eq n he), hcb, Bool.false_eq_true, Bool.true_and]
            · simp_arith [bi_lenT, t4, decide_true, List.isEmpty_nil, av_nc ha, av_nc hb, av_nc hc, av_nc he, wp_of_eq (whole_eq n ha), wp_of_eq (whole_eq n hb), wp_of_eq (whole_eq n hc), wp_of_eq (whole_eq n he), hcb, Bool.false_eq_true, Bool.true_and]
    · have t4 : ¬ (l.length : Int) = 4 := by omega
      simp_arith [t4, decide_false, dueB_len hl]
  | _ => simp [evE, evEs, evOr1, evOr2, evAnd1, evAnd2, evIfs, evIt, Sim.asg, asgs, evS, wp_bd, wp_ok, wp_ofO, thn_val, bk_val, ek_val, thn_exc, bk_exc, ek_exc, wr_some, wr_ex, wr_nil, wr_cons, sk_nx, sk_ret, sk_exc, sk_bk, sk_ct, fin_ret, fin_nx, fin_exc, orc_call, getV_nc, getL_zero, getL_succ, nc_non, nc_bl, nc_int, nc_str, nc_tup, nc_ref, nc_klst, Option.bind_some, Option.some.injEq, exists_eq_left', tru_bl, tru_tup, cmp_lt, cmp_le, cmp_gt, cmp_ge, cmp_eq, cmp_ne, cmp_is_non, cmp_isn_non, bin_add, bin_sub, bin_mul, bin_fdiv, bin_mod, bin_addT, un_neg, bi_int, bi_intb, bi_max2, bi_min2, bi_lenT, bi_lenK, bi_tupT, bi_lstT, isi_wp, wp_intM, wp_slUT, wp_slLT, wp_slBT, wp_rgS1, wp_rgS2, seq_T, seq_K, enum_T, wp_alloc, decide_eq_true_eq, List.set_cons_zero, List.set_cons_succ, List.length_cons, List.length_nil, Bool.not_eq_true', decide_eq_false_iff_not, Bool.not_true, Bool.not_false, pow106, pow109, pow1018, pow1020, pow1030, mem_ints, leT3, ty_int_non, ty_int_bl, ty_int_int, ty_int_str, ty_int_tup, ty_int_ref, ty_int_klst, ty_bool_non, ty_bool_bl, ty_bool_int, ty_bool_str, ty_bool_tup, ty_bool_ref, ty_bool_klst, ty_str_non, ty_str_bl, ty_str_int, ty_str_str, ty_str_tup, ty_str_ref, ty_str_klst, ty_tuple_non, ty_tuple_bl, ty_tuple_int, ty_tuple_str, ty_tuple_tup, ty_tuple_ref, ty_tuple_klst, ty_list_non, ty_list_bl, ty_list_int, ty_list_str, ty_list_tup, ty_list_ref, ty_list_klst, ty_int_clo, ty_bool_clo, ty_str_clo, ty_tuple_clo, ty_list_clo, onx_nx, trn_nx, trn_ret, trn_exc, trn_bk, trn_ct, wp_guard, wp_lrg1, wp_trg1, and_self, if_true, if_false, Nat.reduceAdd, Nat.reduceSub, Nat.reduceLT, Nat.reduceLeDiff, Int.cast_ofNat_Int, Int.reduceNeg, Int.reduceAdd, Int.reduceSub, Int.reduceLT, Int.reduceLE, Int.reduceEq, Int.reduceToNat, decide_true, decide_false, reduceCtorEq, eq_self, Bool.not_eq_eq_eq_not, Bool.false_eq_true, ite_self, wp_ite, wr_ite, dueB]
/-- the first row that is none or does not rise -/
def badRows (n : Int) (ts : List Int) : Nat → Int → Int → Int → List D → Option Nat
  | _, _, _, _, [] => none
  | i, x, y, z, d :: r => if dueB n ts d then (match d with
    | .tup [.int a, .int b, .int c, .int e] => if lexLe [a, b, c] [x, y, z] then some i else badRows n ts (i + 1) a b c r
    | _ => none) else some i
theorem badRows_cons {n : Int} {ts : List Int} {i : Nat} {x y z : Int} {d : D} {r : List D} : badRows n ts i x y z (d :: r) = if dueB n ts d then (match d with
    | .tup [.int a, .int b, .int c, .int e] => if lexLe [a, b, c] [x, y, z] then some i else badRows n ts (i + 1) a b c r
    | _ => none) else some i := rfl
def row4 (p : Int × Int × Int × Int) : D := .tup [.int p.1, .int p.2.1, .int p.2.2.1, .int p.2.2.2]
theorem badRows_ints {n : Int} {ts : List Int} : ∀ {l : List D} {i : Nat} {x y z : Int}, badRows n ts i x y z l = none → ∃ rs : List (Int × Int × Int × Int), l = rs.map row4
  | [], _, _, _, _, _ => ⟨[], rfl⟩
  | d :: r, i, x, y, z, h => by
    rw [badRows_cons] at h
    cases hw : dueB n ts d with
    | false => simp [hw] at h
    | true =>
      obtain ⟨a, b, c, e, rfl⟩ := dueB_int hw
      simp only [hw, if_true] at h
      split at h
      · cases h
      · obtain ⟨ts, rfl⟩ := badRows_ints h
        exact ⟨(a, b, c, e) :: ts, rfl⟩
/-- what made_due_rows makes of rows -/
def rowsX (n : Int) (ts : List Int) : D → Ex D
  | .tup l => if 400 < (l.length : Int) then .exc ⟨60, .int l.length⟩ else match badRows n ts 0 (-1) (-1) (-1) l with
    | none => .val (.tup l)
    | some i => .exc ⟨61, .int i⟩
  | _ => .exc ⟨61, .int (-1)⟩
def wrowsV (n : Int) (ts : List Int) : D → D
  | .tup l => if 400 < (l.length : Int) then .tup [.str (Str.ofString "TooMany"), .int l.length] else match badRows n ts 0 (-1) (-1) (-1) l with
    | none => .non
    | some i => .tup [.str (Str.ofString "BadDueRows"), .int i]
  | _ => .tup [.str (Str.ofString "BadDueRows"), .int (-1)]
theorem made_eq (n : Nat) {S : Store} {N : Int} {ts : List Int} {d : D} (hN : wholeB (.int N) 0 24 = true) (ht : badLot N 0 (-1) (ts.map .int) = none) (h : Av S d) :
    ∃ T, callN prog 0 (n + 2) f_made_due_rows [.int N, .tup (ts.map .int), d] S = some (rowsX N ts d, S ++ T) := by
  suffices hw : wp (callN prog 0 (n + 2) f_made_due_rows [.int N, .tup (ts.map .int), d]) S (fun r S1 => r = rowsX N ts d ∧ ∃ T, S1 = S ++ T) by
    obtain ⟨r, S1, e, rfl, T, rfl⟩ := hw
    exact ⟨T, e⟩
  have h1 := askS_eq (n := n) (S := S) (d := .int N) (by simp [Av])
  rw [hN] at h1
  have h2 := lot_eq (n := n) (S := S) (N := N) (d := .tup (ts.map .int)) (by rw [av_tup]; intro d hd; obtain ⟨i, -, rfl⟩ := List.mem_map.1 hd; exact av_int i)
  simp only [lotX, ht] at h2
  refine wp_def (fd := d_made_due_rows) rfl rfl ?_; simp only [d_made_due_rows, b_made_due_rows, argsL, List.map_cons, List.map_nil, List.replicate, List.cons_append, List.nil_append, List.append_nil, Nat.sub_self, List.length_cons, List.length_nil, Nat.reduceAdd, Nat.reduceSub, List.replicate_succ, List.replicate_zero]
  simp_arith [wp_of_eq h1, wp_of_eq h2, av_nc h, isi_av _ h]
  cases d with
  | tup l =>
    by_cases hl : 400 < (l.length : Int)
    · simp_arith [hl, decide_true, rowsX]
      exact ⟨trivial, [], by simp⟩
    · simp_arith [hl, decide_false, rowsX]
      refine wr_for (Inv := fun r L S1 => S1 = S ∧ ∃ (i : Nat) (x y z : Int) (rest : List D) (a b : Option D), r = enumL i rest ∧ L = [some (.int N), some (.tup (ts.map .int)), some (.tup l), some (.tup [.int x, .int y, .int z]), a, b, none, none, none, none] ∧ AvL S rest ∧ badRows N ts 0 (-1) (-1) (-1) l = badRows N ts i x y z rest) ?_ ?_ ?_ _ _ _ ?_
      · intros; rfl
      · rintro d r L S1 ⟨rfl, i, x, y, z, rest, a, b, hr, rfl, hav, hb⟩
        cases rest with
        | nil => cases hr
        | cons w rest =>
          simp only [enumL, List.cons.injEq] at hr
          obtain ⟨rfl, rfl⟩ := hr
          rw [AvL] at hav
          rw [badRows_cons] at hb
          simp_arith [List.isEmpty_nil, av_nc hav.1, wp_of_eq (due_eq n hav.1)]
          cases hw : dueB N ts w with
          | false =>
            simp_arith []
            rw [hw] at hb
            simp only [Bool.false_eq_true, if_false] at hb
            simp only [trn_exc, sk_exc, fin_exc, hb]
            exact ⟨trivial, [], by simp⟩
          | true =>
            obtain ⟨a, b, c, e, rfl⟩ := dueB_int hw
            rw [hw] at hb
            simp only [if_true] at hb
            simp_arith [cut3]
            cases hle : lexLe [a, b, c] [x, y, z] with
            | true =>
              rw [hle] at hb
              simp_arith [trn_exc]
              simp only [if_true] at hb
              simp only [hb]
              exact ⟨trivial, [], by simp⟩
            | false =>
              rw [hle] at hb
              simp_arith [trn_nx, cut3]
              exact ⟨trivial, i + 1, a, b, c, rest, _, _, rfl, rfl, hav.2, by simpa using hb⟩
      · rintro L S1 ⟨rfl, i, x, y, z, rest, a, b, hr, rfl, hav, hb⟩
        cases rest with
        | nil =>
          simp only [badRows] at hb
          rw [hb]
          obtain ⟨rs, rfl⟩ := badRows_ints hb
          simp_arith []
          refine ⟨?_, ?_⟩
          · simp at hl ⊢; omega
          refine wp_noX (wp_wv (wv_cmp (Inv := fun r T => T = S1 ∧ ∀ d ∈ r, ∃ p, d = row4 p) (G := fun d y => y = some d) ?_ ?_ _ _ ⟨rfl, ?_⟩) ?_)
          · intros; rfl
          · rintro d r T ⟨rfl, hd⟩
            obtain ⟨p, rfl⟩ := hd _ (List.mem_cons_self ..)
            refine wv_wp ?_
            simp only [row4]
            simp_arith [wipeL, List.foldr, List.isEmpty_nil]
            exact ⟨trivial, trivial, fun d h => hd d (List.mem_cons_of_mem _ h)⟩
          · intro d hd
            obtain ⟨p, -, rfl⟩ := List.mem_map.1 hd
            exact ⟨p, rfl⟩
          · rintro v T ⟨⟨rfl, -⟩, yos, hlen, hz, rfl⟩
            have : yos.filterMap id = rs.map row4 := by
              have h2 : yos = (rs.map row4).map some := by
                apply List.ext_getElem
                · simpa using hlen
                · intro i h1 h2
                  have := hz ((rs.map row4)[i]'(by simpa using h2), yos[i]) (by
                    rw [List.mem_iff_getElem]
                    refine ⟨i, by simp at h1 h2 ⊢; omega, by simp⟩)
                  simpa using this
              rw [h2]; simp
            rw [this]
            have hr : (T ++ [MO.lst (rs.map row4)])[T.length]? = some (MO.lst (rs.map row4)) := by simp
            simp_arith [bi_tupL hr]
            exact ⟨trivial, _, rfl⟩
        | cons x rest => cases hr
      · exact ⟨rfl, 0, -1, -1, -1, l, none, none, rfl, rfl, by simpa [Av] using h, rfl⟩
  | _ => 
    simp_arith [rowsX]
    exact ⟨trivial, [], by simp⟩
theorem wrows_eq (n : Nat) {S : Store} {N : Int} {ts : List Int} {d : D} (h : Av S d) :
    callN prog 0 (n + 2) f_law_wrong_due_rows [.int N, .tup (ts.map .int), d] S = some (.val (wrowsV N ts d), S) := by
  apply eq_of_wp
  refine wp_def (fd := d_law_wrong_due_rows) rfl rfl ?_; simp only [d_law_wrong_due_rows, b_law_wrong_due_rows, argsL, List.map_cons, List.map_nil, List.replicate, List.cons_append, List.nil_append, List.append_nil, Nat.sub_self, List.length_cons, List.length_nil, Nat.reduceAdd, Nat.reduceSub, List.replicate_succ, List.replicate_zero]
  simp_arith [av_nc h, isi_av _ h]
  cases d with
  | tup l =>
    by_cases hl : 400 < (l.length : Int)
    · simp_arith [hl, wrowsV]
    · simp_arith [hl, wrowsV]
      refine ⟨by simp [small62]; omega, ?_⟩
      have hz : ((l.length : Int)).toNat = l.length := by simp
      rw [hz]
      refine wr_for (Inv := fun r L S1 => S1 = S ∧ ∃ (pre rest : List D) (x y z : Int) (a b c e : Option D), l = pre ++ rest ∧ r = rangeL pre.length rest.length ∧ L = [some (.int N), some (.tup (ts.map .int)), some (.tup l), a, b, c, e] ∧ AvL S rest ∧ badRows N ts 0 (-1) (-1) (-1) l = badRows N ts pre.length x y z rest ∧
       (pre = [] ∧ x = -1 ∧ y = -1 ∧ z = -1 ∨ (∃ p e, pre = p ++ [.tup [.int x, .int y, .int z, .int e]]))) ?_ ?_ ?_ _ _ _ ?_
      · intros; rfl
      · rintro d r L S1 ⟨rfl, pre, rest, x, y, z, a, b, c, e, hsp, hr, rfl, hav, hb, hp⟩
        cases rest with
        | nil => cases hr
        | cons w rest =>
          simp only [List.length_cons, rangeL_succ, List.cons.injEq] at hr
          obtain ⟨rfl, rfl⟩ := hr
          rw [AvL] at hav
          have hx : l[pre.length]? = some w := by rw [hsp]; simp
          have hi : ixN l.length (pre.length : Int) = some pre.length := ixN_nat (by rw [hsp]; simp)
          simp_arith [sub_T hi hx, av_nc hav.1, isi_av _ hav.1]
          rw [badRows_cons] at hb
          have bad : dueB N ts w = false → badRows N ts 0 (-1) (-1) (-1) l = some pre.length := fun h => by simpa [h] using hb
          cases w with
          | tup w =>
            by_cases hw : w.length = 4
            · obtain ⟨a, b, c, e, rfl⟩ := four hw
              have h' := hav.1
              simp only [Av, AvL] at h'
              obtain ⟨ha, hbb, hc, he, -⟩ := h'
              have i0 : ixN [a, b, c, e].length 0 = some 0 := rfl
              have i1 : ixN [a, b, c, e].length 1 = some 1 := rfl
              have i2 : ixN [a, b, c, e].length 2 = some 2 := rfl
              have i3 : ixN [a, b, c, e].length 3 = some 3 := rfl
              have g0 : [a, b, c, e][0]? = some a := rfl
              have g1 : [a, b, c, e][1]? = some b := rfl
              have g2 : [a, b, c, e][2]? = some c := rfl
              have g3 : [a, b, c, e][3]? = some e := rfl
              cases h1 : wholeB a 0 1000000 with
              | false => 
                simp_arith [List.isEmpty_nil, sub_T i0 g0, sub_T i1 g1, sub_T i2 g2, sub_T i3 g3, av_nc ha, av_nc hbb, av_nc hc, av_nc he, wp_of_eq (isnum_eq n ha), wp_of_eq (isnum_eq n hbb), wp_of_eq (isnum_eq n hc), wp_of_eq (isnum_eq n he), h1, trn_ret]
                simp only [bad (by simp only [dueB, h1, Bool.false_and])]
                simp
              | true =>
                obtain ⟨a, rfl, -, -⟩ := wholeB_int h1
                cases h2 : wholeB b 0 (N - 1) with
                | false =>
                  simp_arith [List.isEmpty_nil, sub_T i0 g0, sub_T i1 g1, sub_T i2 g2, sub_T i3 g3, av_nc ha, av_nc hbb, av_nc hc, av_nc he, wp_of_eq (isnum_eq n ha), wp_of_eq (isnum_eq n hbb), wp_of_eq (isnum_eq n hc), wp_of_eq (isnum_eq n he), h1, h2, trn_ret]
                  simp only [bad (by simp only [dueB, h1, h2, Bool.false_and, Bool.and_false])]
                  simp
                | true =>
                  obtain ⟨b, rfl, -, -⟩ := wholeB_int h2
                  cases h3 : wholeB e 1 1000000 with
                  | false =>
                    simp_arith [List.isEmpty_nil, sub_T i0 g0, sub_T i1 g1, sub_T i2 g2, sub_T i3 g3, av_nc ha, av_nc hbb, av_nc hc, av_nc he, wp_of_eq (isnum_eq n ha), wp_of_eq (isnum_eq n hbb), wp_of_eq (isnum_eq n hc), wp_of_eq (isnum_eq n he), h1, h2, h3, trn_ret]
                    simp only [bad (by simp only [dueB, h1, h2, h3, Bool.false_and, Bool.and_false])]
                    simp
                  | true =>
                    obtain ⟨e, rfl, -, -⟩ := wholeB_int h3
                    simp_arith [List.isEmpty_nil, sub_T i0 g0, sub_T i1 g1, sub_T i2 g2, sub_T i3 g3, av_nc ha, av_nc hbb, av_nc hc, av_nc he, wp_of_eq (isnum_eq n ha), wp_of_eq (isnum_eq n hbb), wp_of_eq (isnum_eq n hc), wp_of_eq (isnum_eq n he), h1, h2, h3]
                    cases hcb : ts.contains b
                    · have hd : dueB N ts (.tup [.int a, .int b, c, .int e]) = wholeB c (-1) (-1) := by simp only [dueB, h1, h2, h3, Bool.true_and, hcb, if_true, Bool.false_eq_true, if_false]
                      cases h4 : wholeB c (-1) (-1) with
                      | false =>
                        simp_arith [List.isEmpty_nil, sub_T i0 g0, sub_T i1 g1, sub_T i2 g2, sub_T i3 g3, av_nc ha, av_nc hbb, av_nc hc, av_nc he, wp_of_eq (isnum_eq n ha), wp_of_eq (isnum_eq n hbb), wp_of_eq (isnum_eq n hc), wp_of_eq (isnum_eq n he), h1, h2, h3, hcb, h4, trn_ret]
                        simp only [bad (hd.trans h4)]
                        simp
                      | true =>
                        obtain ⟨c, rfl, -, -⟩ := wholeB_int h4
                        rw [hd, h4] at hb
                        simp only [if_true] at hb
                        rcases hp with ⟨rfl, rfl, rfl, rfl⟩ | ⟨p, q, rfl⟩
                        · have h00 : ¬ (0 : Int) < (([] : List D).length : Nat) := by simp
                          have hle : lexLe [a, b, c] [-1, -1, -1] = false := by
                            simp [wholeB] at h1
                            unfold lexLe
                            rw [if_neg (by omega)]
                            simp; omega
                          rw [hle] at hb
                          simp_arith [List.isEmpty_nil, sub_T i0 g0, sub_T i1 g1, sub_T i2 g2, sub_T i3 g3, av_nc ha, av_nc hbb, av_nc hc, av_nc he, wp_of_eq (isnum_eq n ha), wp_of_eq (isnum_eq n hbb), wp_of_eq (isnum_eq n hc), wp_of_eq (isnum_eq n he), h1, h2, h3, hcb, h4, trn_nx, h00]
                          exact ⟨trivial, [.tup [.int a, .int b, .int c, .int e]], rest, a, b, c, _, _, _, _, hsp, rfl, rfl, hav.2, by simpa using hb, Or.inr ⟨[], e, rfl⟩⟩
                        · have hj : l[p.length]? = some (.tup [.int x, .int y, .int z, .int q]) := by rw [hsp]; simp
                          have hi2 : ixN l.length ((p ++ [D.tup [.int x, .int y, .int z, .int q]]).length - 1 : Int) = some p.length := by
                            have : ((p ++ [D.tup [.int x, .int y, .int z, .int q]]).length - 1 : Int) = (p.length : Nat) := by simp
                            rw [this]; exact ixN_nat (by rw [hsp]; simp)
                          have hpos : (0 : Int) < ((p ++ [D.tup [.int x, .int y, .int z, .int q]]).length : Nat) := by simp
                          simp_arith [List.isEmpty_nil, sub_T i0 g0, sub_T i1 g1, sub_T i2 g2, sub_T i3 g3, av_nc ha, av_nc hbb, av_nc hc, av_nc he, wp_of_eq (isnum_eq n ha), wp_of_eq (isnum_eq n hbb), wp_of_eq (isnum_eq n hc), wp_of_eq (isnum_eq n he), h1, h2, h3, hcb, h4, hpos, sub_T hi2 hj, cut3]
                          cases hle : lexLe [a, b, c] [x, y, z] with
                          | true =>
                            rw [hle] at hb
                            simp only [if_true] at hb
                            simp_arith [trn_ret, hb]
                          | false =>
                            rw [hle] at hb
                            simp_arith [trn_nx]
                            exact ⟨trivial, p ++ [.tup [.int x, .int y, .int z, .int q], .tup [.int a, .int b, .int c, .int e]], rest, a, b, c, _, _, _, _, by simpa using hsp, by simp; rfl, rfl, hav.2, by simpa using hb, Or.inr ⟨p ++ [.tup [.int x, .int y, .int z, .int q]], e, by simp⟩⟩
                    · have hd : dueB N ts (.tup [.int a, .int b, c, .int e]) = wholeB c a (a + 1000000) := by simp only [dueB, h1, h2, h3, Bool.true_and, hcb, if_true, Bool.false_eq_true, if_false]
                      cases h4 : wholeB c a (a + 1000000) with
                      | false =>
                        simp_arith [List.isEmpty_nil, sub_T i0 g0, sub_T i1 g1, sub_T i2 g2, sub_T i3 g3, av_nc ha, av_nc hbb, av_nc hc, av_nc he, wp_of_eq (isnum_eq n ha), wp_of_eq (isnum_eq n hbb), wp_of_eq (isnum_eq n hc), wp_of_eq (isnum_eq n he), h1, h2, h3, hcb, h4, trn_ret]
                        simp only [bad (hd.trans h4)]
                        simp
                      | true =>
                        obtain ⟨c, rfl, -, -⟩ := wholeB_int h4
                        rw [hd, h4] at hb
                        simp only [if_true] at hb
                        rcases hp with ⟨rfl, rfl, rfl, rfl⟩ | ⟨p, q, rfl⟩
                        · have h00 : ¬ (0 : Int) < (([] : List D).length : Nat) := by simp
                          have hle : lexLe [a, b, c] [-1, -1, -1] = false := by
                            simp [wholeB] at h1
                            unfold lexLe
                            rw [if_neg (by omega)]
                            simp; omega
                          rw [hle] at hb
                          simp_arith [List.isEmpty_nil, sub_T i0 g0, sub_T i1 g1, sub_T i2 g2, sub_T i3 g3, av_nc ha, av_nc hbb, av_nc hc, av_nc he, wp_of_eq (isnum_eq n ha), wp_of_eq (isnum_eq n hbb), wp_of_eq (isnum_eq n hc), wp_of_eq (isnum_eq n he), h1, h2, h3, hcb, h4, trn_nx, h00]
                          exact ⟨trivial, [.tup [.int a, .int b, .int c, .int e]], rest, a, b, c, _, _, _, _, hsp, rfl, rfl, hav.2, by simpa using hb, Or.inr ⟨[], e, rfl⟩⟩
                        · have hj : l[p.length]? = some (.tup [.int x, .int y, .int z, .int q]) := by rw [hsp]; simp
                          have hi2 : ixN l.length ((p ++ [D.tup [.int x, .int y, .int z, .int q]]).length - 1 : Int) = some p.length := by
                            have : ((p ++ [D.tup [.int x, .int y, .int z, .int q]]).length - 1 : Int) = (p.length : Nat) := by simp
                            rw [this]; exact ixN_nat (by rw [hsp]; simp)
                          have hpos : (0 : Int) < ((p ++ [D.tup [.int x, .int y, .int z, .int q]]).length : Nat) := by simp
                          simp_arith [List.isEmpty_nil, sub_T i0 g0, sub_T i1 g1, sub_T i2 g2, sub_T i3 g3, av_nc ha, av_nc hbb, av_nc hc, av_nc he, wp_of_eq (isnum_eq n ha), wp_of_eq (isnum_eq n hbb), wp_of_eq (isnum_eq n hc), wp_of_eq (isnum_eq n he), h1, h2, h3, hcb, h4, hpos, sub_T hi2 hj, cut3]
                          cases hle : lexLe [a, b, c] [x, y, z] with
                          | true =>
                            rw [hle] at hb
                            simp only [if_true] at hb
                            simp_arith [trn_ret, hb]
                          | false =>
                            rw [hle] at hb
                            simp_arith [trn_nx]
                            exact ⟨trivial, p ++ [.tup [.int x, .int y, .int z, .int q], .tup [.int a, .int b, .int c, .int e]], rest, a, b, c, _, _, _, _, by simpa using hsp, by simp; rfl, rfl, hav.2, by simpa using hb, Or.inr ⟨p ++ [.tup [.int x, .int y, .int z, .int q]], e, by simp⟩⟩
            · have t4 : ¬ (w.length : Int) = 4 := by omega
              simp_arith [t4, trn_ret]
              simp only [bad (dueB_len hw)]
              simp
          | _ => 
            simp_arith [trn_ret]
            simp only [bad rfl]
            simp
      · rintro L S1 ⟨rfl, pre, rest, x, y, z, a, b, c, e, hsp, hr, rfl, hav, hb, hp⟩
        cases rest with
        | nil =>
          simp only [badRows] at hb
          simp_arith [hb]
        | cons x rest => simp only [List.length_cons, rangeL_succ] at hr; cases hr
      · exact ⟨rfl, [], l, -1, -1, -1, none, none, none, none, rfl, rfl, rfl, by simpa [Av] using h, rfl, Or.inl ⟨rfl, rfl, rfl, rfl⟩⟩
  | _ => simp_arith [wrowsV]
/-- plain and deep: no lists in it -/
def pvB : Nat → D → Bool
  | 0, _ => false
  | _ + 1, .non => true
  | _ + 1, .bl _ => true
  | _ + 1, .int _ => true
  | _ + 1, .str _ => true
  | k + 1, .tup l => l.all (pvB k) && decide (l.length ≤ 1000000)
  | _ + 1, _ => false
theorem pv_av {S : Store} : ∀ {k : Nat} {d : D}, pvB k d = true → Av S d
  | k + 1, .non, _ => av_non
  | k + 1, .bl _, _ => av_bl _
  | k + 1, .int _, _ => av_int _
  | k + 1, .str _, _ => av_str _
  | k + 1, .tup l, h => by
    simp only [pvB, Bool.and_eq_true, List.all_eq_true] at h
    rw [av_tup]
    exact fun d hd => pv_av (h.1 d hd)
theorem str_eqF {x : Str} : eqF (.str x) (.str x) = true := by simp only [eqF, beq_self_eq_true]
theorem cmp_eq_str {x : Str} {S : Store} {Q : Ex D → Store → Prop} : wp (cmpD .eq (.str x) (.str x)) S Q = Q (.val (.bl true)) S := by
  have : cmpD .eq (.str x) (.str x) S = some (.val (.bl true), S) := by simp only [cmpD, eqD, flat, Bool.and_self, if_true, str_eqF, Option.map_some]
  exact propext ⟨(fun ⟨_, _, h, q⟩ => by rw [this] at h; cases h; exact q), fun q => ⟨_, _, this, q⟩⟩
theorem cmp_is_bl {a b : Bool} {S : Store} {Q : Ex D → Store → Prop} : wp (cmpD .is (.bl a) (.bl b)) S Q = Q (.val (.bl (a == b))) S :=
  propext ⟨(fun ⟨_, _, h, q⟩ => by cases h; exact q), fun q => ⟨_, _, rfl, q⟩⟩
theorem same_refl : ∀ (k : Nat) (d : D), pvB k d = true → ∀ (n : Nat) (S : Store), callN prog 0 (n + k) f_law_same [d, d] S = some (.val (.bl true), S) := by
  intro k
  induction k with
  | zero => intro d h; cases h
  | succ k ih =>
    intro d h n S
    rw [show n + (k + 1) = (n + k) + 1 from rfl]
    have hav : Av S d := pv_av h
    apply eq_of_wp
    refine wp_def (fd := d_law_same) rfl rfl ?_; simp only [d_law_same, b_law_same, argsL, List.map_cons, List.map_nil, List.replicate, List.cons_append, List.nil_append, List.append_nil, Nat.sub_self, List.length_cons, List.length_nil, Nat.reduceAdd, Nat.reduceSub, List.replicate_succ, List.replicate_zero]
    cases d with
    | non => simp_arith []
    | bl b => cases b <;> simp_arith [cmp_is_bl, isiD, beq_self_eq_true, Bool.or_true, Bool.true_or, beq_iff_eq]
    | int i => 
      simp_arith [isi_av _ hav, wp_of_eq (iswhole_eq _ hav)]
    | str x => simp_arith [isi_av _ hav, cmp_eq_str]
    | tup l =>
      simp only [pvB, Bool.and_eq_true, List.all_eq_true, decide_eq_true_eq] at h
      simp_arith [isi_av _ hav]
      refine ⟨by simp [small62]; omega, ?_⟩
      have hz : ((l.length : Int)).toNat = l.length := by simp
      rw [hz]
      refine wr_for (Inv := fun r L S1 => S1 = S ∧ ∃ (pre rest : List D) (a : Option D), l = pre ++ rest ∧ r = rangeL pre.length rest.length ∧ L = [some (.tup l), some (.tup l), a]) ?_ ?_ ?_ _ _ _ ?_
      · intros; rfl
      · rintro d r L S1 ⟨rfl, pre, rest, a, hsp, hr, rfl⟩
        cases rest with
        | nil => cases hr
        | cons w rest =>
          simp only [List.length_cons, rangeL_succ, List.cons.injEq] at hr
          obtain ⟨rfl, rfl⟩ := hr
          have hx : l[pre.length]? = some w := by rw [hsp]; simp
          have hi : ixN l.length (pre.length : Int) = some pre.length := ixN_nat (by rw [hsp]; simp)
          simp_arith [sub_T hi hx, wp_of_eq (ih w (h.1 w (by rw [hsp]; simp)) n _), trn_nx]
          exact ⟨trivial, pre ++ [w], rest, _, by simp [hsp], by simp, rfl⟩
      · rintro L S1 ⟨rfl, pre, rest, a, hsp, hr, rfl⟩
        simp_arith []
      · exact ⟨rfl, [], l, none, rfl, rfl, rfl⟩
    | ref r => cases h
    | klst l => cases h
    | clo f i c => cases h
theorem heard_val (n f j : Nat) (caps : Loc) (S S1 : Store) (d : D) (h : runClo prog (orcN prog 0 n) f j caps S = some (.val d, S1)) :
    callN prog 0 (n + 1) f_law_heard [.clo f j caps] S = some (.val (.tup [.str (Str.ofString "told"), d]), S1) := by
  have h2 : (orcN prog 0 (n + 1) f_law_heard).clo f j caps S = some (.val d, S1) := h
  have hp : prog f_law_heard = some d_law_heard := rfl
  simp only [callN, runDef, hp]
  simp only [d_law_heard, b_law_heard, argsL, List.map_cons, List.map_nil, List.replicate_succ, List.replicate_zero, List.cons_append, List.nil_append, List.length_cons, List.length_nil, Nat.reduceAdd, Nat.reduceSub, evSs, evS, getL_zero, h2, if_true]
theorem heard_exc (n f j : Nat) (caps : Loc) (S S1 : Store) (c : Nat) (w : D) (nm : Str) (h : runClo prog (orcN prog 0 n) f j caps S = some (.exc ⟨c, w⟩, S1))
    (hc : (c, nm) = (59, Str.ofString "BadMany") ∨ (c, nm) = (8, Str.ofString "BadLot") ∨ (c, nm) = (60, Str.ofString "TooMany") ∨ (c, nm) = (61, Str.ofString "BadDueRows")) :
    callN prog 0 (n + 1) f_law_heard [.clo f j caps] S = some (.val (.tup [.str nm, w]), S1) := by
  have h2 : (orcN prog 0 (n + 1) f_law_heard).clo f j caps S = some (.exc ⟨c, w⟩, S1) := h
  have hp : prog f_law_heard = some d_law_heard := rfl
  simp only [callN, runDef, hp]
  simp only [d_law_heard, b_law_heard, argsL, List.map_cons, List.map_nil, List.replicate_succ, List.replicate_zero, List.cons_append, List.nil_append, List.length_cons, List.length_nil, Nat.reduceAdd, Nat.reduceSub, evSs, evS, getL_zero, h2, if_true]
  rcases hc with h | h | h | h <;> (cases h; rfl)
def small (d : D) : Prop := ∀ l, d = .tup l → l.length ≤ 1000000
theorem wlot_non {N : Int} {d : D} (h : wlotV N d = .non) : ∃ ts : List Int, d = .tup (ts.map .int) ∧ badLot N 0 (-1) (ts.map .int) = none := by
  cases d with
  | tup l =>
    simp only [wlotV] at h
    cases hb : badLot N 0 (-1) l with
    | none => obtain ⟨ts, rfl⟩ := badLot_ints hb; exact ⟨ts, rfl, hb⟩
    | some i => rw [hb] at h; cases h
  | _ => simp [wlotV] at h
theorem wlot_cases {N : Int} {d : D} : wlotV N d = .non ∨ ∃ i : Int, wlotV N d = .tup [.str (Str.ofString "BadLot"), .int i] ∧ lotX N d = .exc ⟨8, .int i⟩ := by
  cases d with
  | tup l =>
    simp only [wlotV, lotX]
    cases hb : badLot N 0 (-1) l with
    | none => exact Or.inl rfl
    | some i => exact Or.inr ⟨i, rfl, rfl⟩
  | _ => exact Or.inr ⟨-1, rfl, rfl⟩
theorem wrows_cases {N : Int} {ts : List Int} {d : D} : (wrowsV N ts d = .non ∧ rowsX N ts d = .val d ∧ ∃ rs : List (Int × Int × Int × Int), d = .tup (rs.map row4) ∧ rs.length ≤ 400) ∨
    ∃ (c : Nat) (nm : Str) (i : Int), wrowsV N ts d = .tup [.str nm, .int i] ∧ rowsX N ts d = .exc ⟨c, .int i⟩ ∧ ((c, nm) = (60, Str.ofString "TooMany") ∨ (c, nm) = (61, Str.ofString "BadDueRows")) := by
  cases d with
  | tup l =>
    simp only [wrowsV, rowsX]
    by_cases hl : 400 < (l.length : Int)
    · rw [if_pos hl, if_pos hl]
      exact Or.inr ⟨60, _, _, rfl, rfl, Or.inl rfl⟩
    · rw [if_neg hl, if_neg hl]
      cases hb : badRows N ts 0 (-1) (-1) (-1) l with
      | none =>
        obtain ⟨rs, rfl⟩ := badRows_ints hb
        exact Or.inl ⟨rfl, rfl, rs, rfl, by simp at hl; omega⟩
      | some i => exact Or.inr ⟨61, _, _, rfl, rfl, Or.inr rfl⟩
  | _ => exact Or.inr ⟨61, _, _, rfl, rfl, Or.inr rfl⟩
theorem madeN (n : Nat) {S : Store} {dn dt dr : D} (hn : Av S dn) (ht : Av S dt) (hr : Av S dr) (h : wholeB dn 0 24 = false) :
    callN prog 0 (n + 2) f_made_due_rows [dn, dt, dr] S = some (.exc ⟨59, dn⟩, S) := by
  suffices hw : wp (callN prog 0 (n + 2) f_made_due_rows [dn, dt, dr]) S (fun r S1 => r = .exc ⟨59, dn⟩ ∧ S1 = S) by
    obtain ⟨r, S1, e, rfl, rfl⟩ := hw
    exact e
  have h1 := askS_eq (n := n) hn
  rw [h] at h1
  refine wp_def (fd := d_made_due_rows) rfl rfl ?_; simp only [d_made_due_rows, b_made_due_rows, argsL, List.map_cons, List.map_nil, List.replicate, List.cons_append, List.nil_append, List.append_nil, Nat.sub_self, List.length_cons, List.length_nil, Nat.reduceAdd, Nat.reduceSub, List.replicate_succ, List.replicate_zero]
  simp_arith [av_nc hn, wp_of_eq h1]
theorem madeT (n : Nat) {S : Store} {N : Int} {dt dr : D} (ht : Av S dt) (hr : Av S dr) (h : wholeB (.int N) 0 24 = true) {x : Exn} (h2 : lotX N dt = .exc x) :
    callN prog 0 (n + 2) f_made_due_rows [.int N, dt, dr] S = some (.exc x, S) := by
  suffices hw : wp (callN prog 0 (n + 2) f_made_due_rows [.int N, dt, dr]) S (fun r S1 => r = .exc x ∧ S1 = S) by
    obtain ⟨r, S1, e, rfl, rfl⟩ := hw
    exact e
  have h1 := askS_eq (n := n) (S := S) (d := .int N) (av_int _)
  rw [h] at h1
  have h3 := lot_eq n (N := N) ht
  rw [h2] at h3
  refine wp_def (fd := d_made_due_rows) rfl rfl ?_; simp only [d_made_due_rows, b_made_due_rows, argsL, List.map_cons, List.map_nil, List.replicate, List.cons_append, List.nil_append, List.append_nil, Nat.sub_self, List.length_cons, List.length_nil, Nat.reduceAdd, Nat.reduceSub, List.replicate_succ, List.replicate_zero]
  simp_arith [av_nc ht, wp_of_eq h1, wp_of_eq h3]
theorem pv_up : ∀ {k : Nat} {d : D}, pvB k d = true → pvB (k + 1) d = true
  | k + 1, .non, _ => rfl
  | k + 1, .bl _, _ => rfl
  | k + 1, .int _, _ => rfl
  | k + 1, .str _, _ => rfl
  | k + 1, .tup l, h => by
    simp only [pvB, Bool.and_eq_true, List.all_eq_true] at h
    rw [pvB]
    simp only [Bool.and_eq_true, List.all_eq_true]
    exact ⟨fun d hd => pv_up (h.1 d hd), h.2⟩
theorem take_spec (n : Nat) {S : Store} {J : Nat} {top : Int} (h : JarAt S J) (h0 : 0 < top) (h1 : top < 1073741824) :
    wv (callN prog 0 n f_law_take [.ref J, .int top]) S (fun v S' => ∃ k : Int, v = .int k ∧ 0 ≤ k ∧ k < top ∧ Fj J S S') := by
  have hj := h
  obtain ⟨b, m, hg, hm0, hm1⟩ := h
  apply wv_wp
  refine wp_def (fd := d_law_take) rfl rfl ?_; simp only [d_law_take, b_law_take, argsL, List.map_cons, List.map_nil, List.replicate, List.cons_append, List.nil_append, List.append_nil, Nat.sub_self, List.length_cons, List.length_nil, Nat.reduceAdd, Nat.reduceSub, List.replicate_succ, List.replicate_zero]
  have l2 : ∀ x y : D, [x, y].length = 2 := fun _ _ => rfl
  have i0 : ∀ x y : D, ixN [x, y].length 0 = some 0 := fun _ _ => rfl
  have i1 : ∀ x y : D, ixN [x, y].length 1 = some 1 := fun _ _ => rfl
  have g0 : ∀ x y : D, [x, y][0]? = some x := fun _ _ => rfl
  have g1 : ∀ x y : D, [x, y][1]? = some y := fun _ _ => rfl
  simp_arith [sub_L hg (i0 _ _) (g0 _ _), sub_L hg (i1 _ _) (g1 _ _)]
  by_cases hb : 0 < b
  · simp_arith [sub_L hg (i0 _ _) (g0 _ _), sub_L hg (i1 _ _) (g1 _ _), hb]
    refine ⟨by omega, ⟨by omega, by omega⟩, ?_⟩
    refine wp_noX ?_
    simp_arith [set_L hg (i0 _ _), Int.toNat, List.set]
    refine ⟨_, rfl, (fmod_rng h0).1, (fmod_rng h0).2, jar_set hj hm0 hm1⟩
  · simp_arith [sub_L hg (i0 _ _) (g0 _ _), sub_L hg (i1 _ _) (g1 _ _), hb]
    refine ⟨Or.inl (by omega), by omega, ?_⟩
    refine wp_noX ?_
    simp_arith [set_L hg (i1 _ _), List.set]
    have hm := fmod_rng (a := m * 39373 + 7) (b := 2147483647) (by omega)
    have hg2 : (S.set J (.lst [.int b, .int ((m * 39373 + 7).fmod 2147483647)]))[J]? = some (.lst [.int b, .int ((m * 39373 + 7).fmod 2147483647)]) := List.getElem?_set_self (jar_lt hj)
    simp_arith [sub_L hg2 (i1 _ _) (g1 _ _)]
    refine ⟨Or.inl (by omega), by omega, ⟨by omega, by omega⟩, by omega, _, rfl, (fmod_rng h0).1, (fmod_rng h0).2, jar_set hj hm.1 hm.2⟩
theorem one_spec (n : Nat) {S : Store} {J q : Nat} {l : List D} (h : JarAt S J) (hq : S[q]? = some (.lst l)) (ne : q ≠ J) (h0 : l ≠ []) (h1 : l.length < 1000000) :
    wv (callN prog 0 (n + 1) f_law_one [.ref J, .ref q]) S (fun v S' => v ∈ l ∧ Fj J S S') := by
  apply wv_wp
  refine wp_def (fd := d_law_one) rfl rfl ?_; simp only [d_law_one, b_law_one, argsL, List.map_cons, List.map_nil, List.replicate, List.cons_append, List.nil_append, List.append_nil, Nat.sub_self, List.length_cons, List.length_nil, Nat.reduceAdd, Nat.reduceSub, List.replicate_succ, List.replicate_zero]
  simp_arith [bi_lenL hq]
  have : 0 < l.length := List.length_pos_iff.2 h0
  refine wp_wv (take_spec n h (by omega) (by omega)) ?_
  rintro v S1 ⟨k, rfl, hk0, hk1, hF⟩
  obtain ⟨j, rfl⟩ := Int.eq_ofNat_of_zero_le hk0
  have hj : j < l.length := by omega
  simp_arith [sub_L (hF.2 q ne _ hq) (ixN_nat hj) (List.getElem?_eq_getElem hj)]
  exact ⟨List.getElem_mem _, hF⟩
theorem one_lit (n : Nat) {S : Store} {J : Nat} {l : List D} (P : D → Prop) (h : JarAt S J) (h0 : l ≠ []) (h1 : l.length < 1000000) (hP : ∀ d ∈ l, P d) :
    wv (callN prog 0 (n + 1) f_law_one [.ref J, .ref S.length]) (S ++ [.lst l]) (fun v S' => P v ∧ Fj J S S') := by
  obtain ⟨v, S1, e, hv, hF⟩ := one_spec n (jar_app (T := [.lst l]) h) get_new (jar_ne h) h0 h1
  exact ⟨v, S1, e, hP v hv, fj_trans (fj_app h) hF⟩
theorem some_spec (n : Nat) {S : Store} {J q : Nat} {l : List D} (h : JarAt S J) (hq : S[q]? = some (.lst l)) (ne : q ≠ J) (h1 : l.length < 1000000) (hn : ∀ d ∈ l, nc d = some d) :
    wv (callN prog 0 (n + 1) f_law_some [.ref J, .ref q]) S (fun v S' => ∃ (r : Nat) (m : List D), v = .ref r ∧ S'[r]? = some (.lst m) ∧ (∀ d ∈ m, d ∈ l) ∧ m.length ≤ l.length ∧ S.length ≤ r ∧ r ≠ J ∧ Fj J S S') := by
  apply wv_wp
  refine wp_def (fd := d_law_some) rfl rfl ?_; simp only [d_law_some, b_law_some, argsL, List.map_cons, List.map_nil, List.replicate, List.cons_append, List.nil_append, List.append_nil, Nat.sub_self, List.length_cons, List.length_nil, Nat.reduceAdd, Nat.reduceSub, List.replicate_succ, List.replicate_zero]
  simp_arith [seq_L hq]
  refine ⟨by omega, ?_⟩
  refine wp_noX (wp_wv (wv_cmp (Inv := fun r T => Fj J S T ∧ ∀ d ∈ r, d ∈ l) (G := fun d y => y = some d ∧ d ∈ l ∨ y = none) ?_ ?_ _ _ ⟨fj_refl h, fun _ h => h⟩) ?_)
  · rintro r T ⟨hF, -⟩
    exact still_at (hF.2 q ne _ hq)
  · rintro d r T ⟨hF, hd⟩
    have hd1 := hd d (List.mem_cons_self ..)
    refine wv_wp ?_
    simp_arith [wipeL, List.foldr]
    refine wp_wv (take_spec n hF.1 (by omega) (by omega)) ?_
    rintro v T1 ⟨k, rfl, -, -, hF1⟩
    simp_arith []
    by_cases hk : k = 1
    · simp_arith [hk, hn d hd1]
      exact ⟨Or.inl ⟨trivial, hd1⟩, fj_trans hF hF1, fun d h => hd d (List.mem_cons_of_mem _ h)⟩
    · simp_arith [hk]
      exact ⟨Or.inr trivial, fj_trans hF hF1, fun d h => hd d (List.mem_cons_of_mem _ h)⟩
  · rintro v T ⟨⟨hF, -⟩, yos, hlen, hz, rfl⟩
    simp_arith []
    refine ⟨_, _, rfl, get_new, ?_, ?_, ?_, jar_ne hF.1, fj_trans hF (fj_app hF.1)⟩
    · intro d hd
      obtain ⟨y, hy, hyd⟩ := List.mem_filterMap.1 hd
      simp only [id] at hyd
      subst hyd
      obtain ⟨i, hi, he⟩ := List.mem_iff_getElem.1 hy
      have := hz (l[i]'(by omega), yos[i]) (by rw [List.mem_iff_getElem]; exact ⟨i, by simp; omega, by simp⟩)
      simp only [he, Option.some.injEq, reduceCtorEq, or_false] at this
      rw [this.1]; exact this.2
    · exact Nat.le_trans (List.length_filterMap_le _ _) (by omega)
    · have := (List.getElem?_eq_some_iff.1 (hF.2 q ne _ hq)).1
      by_cases hS : S.length ≤ T.length
      · exact hS
      · exfalso
        have h2 := hF.2
        have hjl := jar_lt h
        obtain ⟨T', hT⟩ : ∃ k, k = T.length := ⟨_, rfl⟩
        by_cases hTJ : T.length = J
        · have := jar_lt hF.1; omega
        · have h3 := h2 T.length hTJ (S[T.length]'(by omega)) (List.getElem?_eq_getElem _)
          simp at h3
theorem lot_spec (n : Nat) {S : Store} {J : Nat} {N : Int} (h : JarAt S J) (h0 : 0 ≤ N) (h1 : N ≤ 24) :
    wv (callN prog 0 (n + 2) f_law_drawn_lot [.ref J, .int N]) S (fun v S' => (∃ ts : List Int, v = .tup (ts.map .int) ∧ ts.length ≤ 24) ∧ Fj J S S') := by
  apply wv_wp
  refine wp_def (fd := d_law_drawn_lot) rfl rfl ?_; simp only [d_law_drawn_lot, b_law_drawn_lot, argsL, List.map_cons, List.map_nil, List.replicate, List.cons_append, List.nil_append, List.append_nil, Nat.sub_self, List.length_cons, List.length_nil, Nat.reduceAdd, Nat.reduceSub, List.replicate_succ, List.replicate_zero]
  simp_arith []
  refine ⟨by simp [small62]; omega, ?_⟩
  refine wp_wv (some_spec n (l := rangeL 0 N.toNat) (jar_app h) get_new (jar_ne h) (by rw [rngL_len]; omega) ?_) ?_
  · intro d hd
    simp only [rangeL, List.mem_map] at hd
    obtain ⟨i, -, rfl⟩ := hd; rfl
  rintro v S1 ⟨r, m, rfl, hr, hm, hl, -, -, hF⟩
  simp_arith [bi_tupL hr]
  refine ⟨?_, fj_trans (fj_app h) hF⟩
  rw [rngL_len] at hl
  have : ∃ ts : List Int, m = ts.map .int := by
    clear hr hl
    induction m with
    | nil => exact ⟨[], rfl⟩
    | cons d m ih =>
      obtain ⟨ts, rfl⟩ := ih (fun d hd => hm d (List.mem_cons_of_mem _ hd))
      have := hm d (List.mem_cons_self ..)
      simp only [rangeL, List.mem_map] at this
      obtain ⟨i, -, rfl⟩ := this
      exact ⟨_ :: ts, rfl⟩
  obtain ⟨ts, rfl⟩ := this
  exact ⟨ts, rfl, by simp at hl; omega⟩
theorem oddc_spec (n : Nat) {S : Store} {J : Nat} (h : JarAt S J) :
    wv (callN prog 0 (n + 2) f_law_odd_count [.ref J]) S (fun v S' => pvB 3 v = true ∧ Fj J S S') := by
  apply wv_wp
  refine wp_def (fd := d_law_odd_count) rfl rfl ?_; simp only [d_law_odd_count, b_law_odd_count, argsL, List.map_cons, List.map_nil, List.replicate, List.cons_append, List.nil_append, List.append_nil, Nat.sub_self, List.length_cons, List.length_nil, Nat.reduceAdd, Nat.reduceSub, List.replicate_succ, List.replicate_zero]
  simp_arith []
  refine wp_wv (one_lit n (fun v => pvB 3 v = true) h (by simp) (by simp) (by simp [pvB])) ?_
  rintro v S1 hv
  simp_arith []
  exact hv
theorem oddl_spec (n : Nat) {S : Store} {J : Nat} {N : Int} (h : JarAt S J) (h0 : 0 ≤ N) (h1 : N ≤ 24) :
    wv (callN prog 0 (n + 2) f_law_odd_lot [.ref J, .int N]) S (fun v S' => Av S' v ∧ small v ∧ Fj J S S') := by
  apply wv_wp
  refine wp_def (fd := d_law_odd_lot) rfl rfl ?_; simp only [d_law_odd_lot, b_law_odd_lot, argsL, List.map_cons, List.map_nil, List.replicate, List.cons_append, List.nil_append, List.append_nil, Nat.sub_self, List.length_cons, List.length_nil, Nat.reduceAdd, Nat.reduceSub, List.replicate_succ, List.replicate_zero]
  simp_arith []
  refine wp_wv (take_spec _ h (by omega) (by omega)) ?_
  rintro v S1 ⟨k, rfl, -, -, hF⟩
  simp_arith []
  have g1 : (S1 ++ [MO.lst [D.int k]])[S1.length]? = some (MO.lst [D.int k]) := get_new
  rw [bin_addL (get_app get_new) get_new (by simp [LIM])]
  simp_arith []
  refine wp_wv (one_lit n (fun v => Av (S1 ++ [MO.lst [D.int k]]) v ∧ small v) (jar_app (jar_app (jar_app hF.1))) (by simp) (by simp) ?_) ?_
  · have hS : ∃ l, (S1 ++ [MO.lst [D.int k]])[S1.length]? = some (.lst l) := ⟨_, g1⟩
    simp only [List.cons_append, List.nil_append, List.mem_cons, List.not_mem_nil, or_false, forall_eq_or_imp, forall_eq, small, reduceCtorEq, D.tup.injEq, false_imp_iff, implies_true, and_true, Av, AvL, true_and, and_self, hS, forall_eq', List.length_cons, List.length_nil, Nat.reduceAdd, Nat.reduceLeDiff]
  rintro v S2 ⟨⟨h1, h2⟩, hG⟩
  simp_arith []
  exact ⟨av_mon (mon_trans (fj_mon (fj_app (T := [_]) (jar_app hF.1))) (mon_trans (fj_mon (fj_app (T := [_]) (jar_app (jar_app hF.1)))) (fj_mon hG))) h1, h2, fj_trans hF (fj_trans (fj_trans (fj_trans (fj_app hF.1) (fj_app (jar_app hF.1))) (fj_app (jar_app (jar_app hF.1)))) hG)⟩
theorem pool_spec (n : Nat) {S : Store} {ns : List Int} {k : Nat} (hl : ns.length < 900) (hk : k < 1000) :
    wv (callN prog 0 n f_law_pool [.klst (ns.map .int), .int k]) S (fun v S' => ∃ q, v = .ref q ∧ JarAt S' q ∧ S.length ≤ q ∧ ∀ (r : Nat) o, S[r]? = some o → S'[r]? = some o) := by
  apply wv_wp
  refine wp_def (fd := d_law_pool) rfl rfl ?_; simp only [d_law_pool, b_law_pool, argsL, List.map_cons, List.map_nil, List.replicate, List.cons_append, List.nil_append, List.append_nil, Nat.sub_self, List.length_cons, List.length_nil, Nat.reduceAdd, Nat.reduceSub, List.replicate_succ, List.replicate_zero]
  simp_arith []
  have fin : ∀ (c : Int) (T : Store), (∀ (r : Nat) o, S[r]? = some o → T[r]? = some o) → S.length ≤ T.length → 
    wr (evSs (orcN prog 0 n f_law_pool) 0 (.cons (.asg (.name 3) (.bi .max2 (.cons (.bi .int (.cons (.var 2) .nil)) (.cons (.bi .int (.cons (.bin .sub (.un .neg (.int 1)) (.var 2)) .nil)) .nil))))
  (.cons (.asg (.name 4) (.bin .mod (.bi .int (.cons (.bin .mul (.bin .add (.bin .add (.bin .add (.bin .mod (.bi .int (.cons (.var 3) .nil)) (.int 2147483629)) (.bin .mul (.bin .mul (.int 7919) (.var 1)) (.var 1))) (.bin .mul (.int 31) (.var 1))) (.int 17)) (.int 48271)) .nil)) (.int 2147483647)))
  (.cons (.ret (.lst (.cons (.bin .mul (.var 3) (.bi .int (.cons (.and (.cons (.cmp .ge (.var 3) (.bin .pow (.int 10) (.int 18))) (.cons (.cmp .lt (.var 1) (.bi .len (.cons (.var 0) .nil))) .nil))) .nil))) (.cons (.var 4) .nil))))
  .nil))) [some (.klst (ns.map .int)), some (.int k), some (.int c), none, none] T) (fin (thn (β := D) (fun _ _ => False) fun v S' => ∃ q, v = .ref q ∧ JarAt S' q ∧ S.length ≤ q ∧ ∀ (r : Nat) o, S[r]? = some o → S'[r]? = some o)) := by
    intro c T hT hTl
    have hm := fmod_rng (a := ((if -1 - c > c then -1 - c else c).fmod 2147483629 + 7919 * (k : Int) * k + 31 * k + 17) * 48271) (b := 2147483647) (by omega)
    have fin : ∀ (x y : Int), 0 ≤ y → y < 2147483647 → ∃ q, D.ref T.length = .ref q ∧ JarAt (T ++ [.lst [.int x, .int y]]) q ∧ S.length ≤ q ∧ ∀ (r : Nat) o, S[r]? = some o → (T ++ [MO.lst [.int x, .int y]])[r]? = some o := by
      intro x y h0 h1
      exact ⟨_, rfl, ⟨x, y, get_new, h0, h1⟩, hTl, fun r o h => get_app (hT r o h)⟩
    simp_arith []
    refine ⟨by omega, Or.inl (by omega), Or.inr (by omega), Or.inl (by omega), Or.inr (by omega), by omega, ?_⟩
    by_cases h1 : (1000000000000000000 : Int) ≤ if -1 - c > c then -1 - c else c
    · simp_arith [h1]
      refine ⟨Or.inr ?_, ?_⟩
      · split <;> omega
      · exact fin _ _ hm.1 hm.2
    · simp_arith [h1]
      refine ⟨Or.inr ?_, ?_⟩
      · omega
      · exact fin _ _ hm.1 hm.2
  have hlen : ((ns.map D.int).length : Int) = ns.length := by simp
  by_cases h1 : k < ns.length
  · have hx : (ns.map D.int)[k]? = some (.int (ns[k])) := by simp [h1]
    have h2 : (k : Int) < (ns.map D.int).length := by simp; omega
    simp_arith [h2, sub_K (ixN_nat (by simp; omega)) hx]
    have f := fin ns[k] _ (fun _ _ h => h) (Nat.le_refl _)
    simp_arith [] at f
    exact f
  · have h2 : ¬ (k : Int) < (ns.map D.int).length := by simp; omega
    simp_arith [h2, cmp_ne_nil hl get_new]
    cases ns with
    | nil =>
      simp_arith [List.isEmpty_nil]
      have f := fin 0 (S ++ [MO.lst []]) (fun _ _ h => get_app h) (by simp)
      simp_arith [] at f
      exact f
    | cons a ns =>
      have i0 : ixN ((a :: ns).map D.int).length 0 = some 0 := by simp [ixN]
      have g0 : ((a :: ns).map D.int)[0]? = some (.int a) := by simp
      simp_arith [List.isEmpty_cons, sub_K i0 g0]
      have f := fin a (S ++ [MO.lst []]) (fun _ _ h => get_app h) (by simp)
      simp_arith [] at f
      exact f
end K03
set_option linter.all false
set_option autoImplicit false
set_option maxRecDepth 100000
namespace K03
open Sim
open PySem (Str PyData)
/-- trees: numbers, words, tuples of at most 1000 -/
def trm : Nat → D → Bool
  | _, .non => true
  | _, .int _ => true
  | _, .str x => PyData.canLay0 (.str x) && decide (x.length ≤ 1000)
  | 0, _ => false
  | k + 1, .tup l => l.all (trm k) && decide (l.length ≤ 1000)
  | _ + 1, _ => false
theorem trm_cases {k : Nat} {d : D} (h : trm k d = true) : d = .non ∨ (∃ i, d = .int i) ∨ (∃ x, d = .str x ∧ PyData.canLay0 (.str x) = true ∧ x.length ≤ 1000) ∨ ∃ l j, k = j + 1 ∧ d = .tup l ∧ (∀ x ∈ l, trm j x = true) ∧ l.length ≤ 1000 := by
  cases d with
  | non => exact Or.inl rfl
  | int i => exact Or.inr (Or.inl ⟨i, rfl⟩)
  | str x => cases k <;> (simp only [trm, Bool.and_eq_true, decide_eq_true_eq] at h; exact Or.inr (Or.inr (Or.inl ⟨x, rfl, h⟩)))
  | tup l =>
    cases k with
    | zero => cases h
    | succ j =>
      simp only [trm, Bool.and_eq_true, decide_eq_true_eq, List.all_eq_true] at h
      exact Or.inr (Or.inr (Or.inr ⟨l, j, rfl, rfl, h⟩))
  | _ => cases k <;> cases h
theorem trm_nc {k : Nat} {d : D} (h : trm k d = true) : nc d = some d := by
  rcases trm_cases h with rfl | ⟨i, rfl⟩ | ⟨x, rfl, -⟩ | ⟨l, j, -, rfl, -⟩ <;> rfl
theorem trm_av {S : Store} : ∀ {k : Nat} {d : D}, trm k d = true → Av S d
  | k, d, h => by
    rcases trm_cases h with rfl | ⟨i, rfl⟩ | ⟨x, rfl, -⟩ | ⟨l, j, rfl, rfl, hl, -⟩
    · exact av_non
    · exact av_int _
    · exact av_str _
    · rw [av_tup]; exact fun d hd => trm_av (hl d hd)
theorem trm_up {k : Nat} {d : D} (h : trm k d = true) : trm (k + 1) d = true := by
  induction k generalizing d with
  | zero =>
    rcases trm_cases h with rfl | ⟨i, rfl⟩ | ⟨x, rfl, h1, h2⟩ | ⟨l, j, hk, rfl, hl, -⟩
    · rfl
    · rfl
    · exact h
    · cases hk
  | succ k ih =>
    rcases trm_cases h with rfl | ⟨i, rfl⟩ | ⟨x, rfl, h1, h2⟩ | ⟨l, j, hk, rfl, hl, hn⟩
    · rfl
    · rfl
    · exact h
    · cases hk
      rw [trm]
      simp only [Bool.and_eq_true, decide_eq_true_eq, List.all_eq_true]
      exact ⟨fun x hx => ih (hl x hx), hn⟩
mutual
/-- the fuel that its reading wants -/
def fu : D → Nat
  | .tup l => fuL l + 1
  | _ => 1
def fuL : List D → Nat
  | [] => 0
  | d :: r => max (fu d) (fuL r) + 1
end
theorem fuL_le {F : Nat} : ∀ {l : List D}, (∀ x ∈ l, fu x ≤ F) → fuL l ≤ l.length + F
  | [], _ => by simp [fuL]
  | d :: r, h => by
    have h1 := h d (List.mem_cons_self ..)
    have h2 := fuL_le (l := r) fun x hx => h x (List.mem_cons_of_mem _ hx)
    simp only [fuL, List.length_cons]
    omega
/-- such a value as data -/
theorem trm_pd (S : Store) : ∀ (k : Nat) (d : D), trm k d = true → ∀ n, fu d ≤ n → ∃ p, pd S n d = some p ∧ PyData.canLay0 p = true ∧ PyData.depth p ≤ k := by
  intro k
  induction k with
  | zero =>
    intro d h n hn
    rcases trm_cases h with rfl | ⟨i, rfl⟩ | ⟨x, rfl, h1, h2⟩ | ⟨l, j, hk, rfl, hl, -⟩
    · obtain ⟨n, rfl⟩ : ∃ m, n = m + 1 := ⟨n - 1, by simp [fu] at hn; omega⟩
      exact ⟨.none, rfl, rfl, Nat.le_refl _⟩
    · obtain ⟨n, rfl⟩ : ∃ m, n = m + 1 := ⟨n - 1, by simp [fu] at hn; omega⟩
      exact ⟨.int i, rfl, rfl, Nat.le_refl _⟩
    · obtain ⟨n, rfl⟩ : ∃ m, n = m + 1 := ⟨n - 1, by simp [fu] at hn; omega⟩
      exact ⟨.str x, rfl, h1, Nat.le_refl _⟩
    · cases hk
  | succ k ih =>
    intro d h n hn
    rcases trm_cases h with rfl | ⟨i, rfl⟩ | ⟨x, rfl, h1, h2⟩ | ⟨l, j, hk, rfl, hl, hlen⟩
    · obtain ⟨n, rfl⟩ : ∃ m, n = m + 1 := ⟨n - 1, by simp [fu] at hn; omega⟩
      exact ⟨.none, rfl, rfl, by simp [PyData.depth]⟩
    · obtain ⟨n, rfl⟩ : ∃ m, n = m + 1 := ⟨n - 1, by simp [fu] at hn; omega⟩
      exact ⟨.int i, rfl, rfl, by simp [PyData.depth]⟩
    · obtain ⟨n, rfl⟩ : ∃ m, n = m + 1 := ⟨n - 1, by simp [fu] at hn; omega⟩
      exact ⟨.str x, rfl, h1, by simp [PyData.depth]⟩
    · cases hk
      have key : ∀ (l : List D), (∀ x ∈ l, trm k x = true) → ∀ n, fuL l ≤ n → ∃ ps, pdA S n l = some ps ∧ PyData.canLayAll0 ps = true ∧ PyData.depthAll ps ≤ k := by
        intro l
        induction l with
        | nil => intro _ n _; exact ⟨[], by cases n <;> rfl, by simp only [PyData.canLayAll0], by simp [PyData.depthAll]⟩
        | cons x l ihl =>
          intro hx n hn
          simp only [fuL] at hn
          obtain ⟨n, rfl⟩ : ∃ m, n = m + 1 := ⟨n - 1, by omega⟩
          obtain ⟨p, e1, e2, e3⟩ := ih x (hx x (List.mem_cons_self ..)) n (by omega)
          obtain ⟨ps, f1, f2, f3⟩ := ihl (fun y hy => hx y (List.mem_cons_of_mem _ hy)) n (by omega)
          refine ⟨p :: ps, by simp only [pdA, e1, f1], by simp only [PyData.canLayAll0, e2, f2, Bool.and_self], ?_⟩
          simp only [PyData.depthAll]
          omega
      simp only [fu] at hn
      obtain ⟨n, rfl⟩ : ∃ m, n = m + 1 := ⟨n - 1, by omega⟩
      obtain ⟨ps, e1, e2, e3⟩ := key l hl n (by omega)
      exact ⟨.tuple ps, by simp only [pd, e1, Option.map_some], by simp only [PyData.canLay0, e2], by simp only [PyData.depth]; omega⟩
theorem list_pd {S : Store} {l : List D} (hl : ∀ x ∈ l, trm 4 x = true) : ∀ n, fuL l ≤ n → ∃ ps, pdA S n l = some ps ∧ PyData.canLayAll0 ps = true ∧ PyData.depthAll ps ≤ 4 ∧ ps.isEmpty = l.isEmpty := by
  induction l with
  | nil => intro n _; exact ⟨[], by cases n <;> rfl, by simp only [PyData.canLayAll0], by simp [PyData.depthAll], rfl⟩
  | cons x l ihl =>
    intro n hn
    simp only [fuL] at hn
    obtain ⟨n, rfl⟩ : ∃ m, n = m + 1 := ⟨n - 1, by omega⟩
    obtain ⟨p, e1, e2, e3⟩ := trm_pd S 4 x (hl x (List.mem_cons_self ..)) n (by omega)
    obtain ⟨ps, f1, f2, f3, -⟩ := ihl (fun y hy => hl y (List.mem_cons_of_mem _ hy)) n (by omega)
    refine ⟨p :: ps, by simp only [pdA, e1, f1], by simp only [PyData.canLayAll0, e2, f2, Bool.and_self], ?_, rfl⟩
    simp only [PyData.depthAll]
    omega
theorem eqD_nil {S : Store} {a b : Nat} {l : List D} (ha : S[a]? = some (.lst l)) (hb : S[b]? = some (.lst [])) (hl : ∀ x ∈ l, trm 4 x = true) (hlen : fuL l ≤ 999) : eqD S (.ref a) (.ref b) = some l.isEmpty := by
  obtain ⟨ps, e1, e2, e3, e4⟩ := list_pd (S := S) hl 999 hlen
  have h1 : pd S 1000 (.ref a) = some (.list ps) := by simp only [pd, ha, e1, Option.map_some]
  have h2 : pd S 1000 (.ref b) = some (.list []) := by simp only [pd, hb]; rfl
  have h3 : PySem.SeqAt.shaped (.list ps) = true := by
    have : PyData.depth (.list ps) ≤ 64 := by simp only [PyData.depth]; omega
    have h0 : PyData.canLay0 (.list ps) = true := by simp only [PyData.canLay0, e2]
    simp only [PySem.SeqAt.shaped, h0, decide_eq_true this, Bool.and_self]
  have h4 : PySem.SeqAt.shaped (.list []) = true := by
    simp only [PySem.SeqAt.shaped, PyData.canLay0, PyData.canLayAll0, PyData.depth, PyData.depthAll]; decide
  have h5 : PyData.eqv (.list ps) (.list []) = l.isEmpty := by
    rw [← e4]; cases ps <;> simp [PyData.eqv, PyData.eqvAll]
  simp only [eqD, flat, Bool.false_and, Bool.false_eq_true, if_false, eqDp, h1, h2, h3, h4, h5, Bool.and_self, if_true]
theorem cmp_eq_nil {S : Store} {a b : Nat} {l : List D} {Q : Ex D → Store → Prop} (ha : S[a]? = some (.lst l)) (hb : S[b]? = some (.lst [])) (hl : ∀ x ∈ l, trm 4 x = true) (hlen : fuL l ≤ 999) :
    wp (cmpD .eq (.ref a) (.ref b)) S Q = Q (.val (.bl l.isEmpty)) S := by
  have : cmpD .eq (.ref a) (.ref b) S = some (.val (.bl l.isEmpty), S) := by
    simp only [cmpD, eqD_nil ha hb hl hlen, Option.map_some]
  exact propext ⟨(fun ⟨_, _, h, q⟩ => by rw [this] at h; cases h; exact q), fun q => ⟨_, _, this, q⟩⟩
theorem cmp_ne_nilL {S : Store} {a b : Nat} {l : List D} {Q : Ex D → Store → Prop} (ha : S[a]? = some (.lst l)) (hb : S[b]? = some (.lst [])) (hl : ∀ x ∈ l, trm 4 x = true) (hlen : fuL l ≤ 999) :
    wp (cmpD .ne (.ref a) (.ref b)) S Q = Q (.val (.bl (!l.isEmpty))) S := by
  have : cmpD .ne (.ref a) (.ref b) S = some (.val (.bl (!l.isEmpty)), S) := by
    simp only [cmpD, eqD_nil ha hb hl hlen, Option.map_some]
  exact propext ⟨(fun ⟨_, _, h, q⟩ => by rw [this] at h; cases h; exact q), fun q => ⟨_, _, this, q⟩⟩
theorem cmp_eq_tnil {S : Store} {l : List D} {Q : Ex D → Store → Prop} (h : trm 4 (.tup l) = true) (hf : fuL l ≤ 999) :
    wp (cmpD .eq (.tup l) (.tup [])) S Q = Q (.val (.bl l.isEmpty)) S := by
  have : cmpD .eq (.tup l) (.tup []) S = some (.val (.bl l.isEmpty), S) := by
    have hl : ∀ x ∈ l, trm 4 x = true := by
      intro x hx
      rcases trm_cases h with h | ⟨i, h⟩ | ⟨x, h, -⟩ | ⟨l', j, hj, h, h1, -⟩
      · cases h
      · cases h
      · cases h
      · cases h; cases hj; exact trm_up (h1 x hx)
    obtain ⟨ps, e1, e2, e3, e4⟩ := list_pd (S := S) hl 999 hf
    have h1 : pd S 1000 (.tup l) = some (.tuple ps) := by simp only [pd, e1, Option.map_some]
    have h2 : pd S 1000 (.tup []) = some (.tuple []) := rfl
    have h3 : PySem.SeqAt.shaped (.tuple ps) = true := by
      have : PyData.depth (.tuple ps) ≤ 64 := by simp only [PyData.depth]; omega
      have h0 : PyData.canLay0 (.tuple ps) = true := by simp only [PyData.canLay0, e2]
      simp only [PySem.SeqAt.shaped, h0, decide_eq_true this, Bool.and_self]
    have h4 : PySem.SeqAt.shaped (.tuple []) = true := by
      simp only [PySem.SeqAt.shaped, PyData.canLay0, PyData.canLayAll0, PyData.depth, PyData.depthAll]; decide
    have h5 : PyData.eqv (.tuple ps) (.tuple []) = l.isEmpty := by
      rw [← e4]; cases ps <;> simp [PyData.eqv, PyData.eqvAll]
    simp only [cmpD, eqD, flat, Bool.false_and, Bool.false_eq_true, if_false, eqDp, h1, h2, h3, h4, h5, Bool.and_self, if_true, Option.map_some]
  exact propext ⟨(fun ⟨_, _, h, q⟩ => by rw [this] at h; cases h; exact q), fun q => ⟨_, _, this, q⟩⟩
/-- comprehensions that only read -/
theorem cmp_det {f : D → Loc → M (Option D)} {src : Src} {L : Loc} {S : Store} (g : D → Option D) (hst : still src S = true) : ∀ (l : List D), (∀ d ∈ l, f d L S = some (.val (g d), S)) → cmpRun f src L l S = some (.val (l.filterMap g), S) := by
  intro l
  induction l with
  | nil => intro _; simp only [cmpRun, hst, if_true]; rfl
  | cons d r ih =>
    intro h
    simp only [cmpRun, hst, if_true, bd, h d (List.mem_cons_self ..), ih (fun x hx => h x (List.mem_cons_of_mem _ hx)), ok, List.filterMap_cons]
    cases g d <;> rfl
theorem cut_take {l : List D} {j : Nat} : cut l none (some (j : Int)) = l.take j := by
  have h : ¬ (j : Int) < 0 := by omega
  simp only [cut, sIx, h, if_false, List.drop_zero, Nat.sub_zero, Int.toNat_natCast]
  rw [List.take_eq_take_iff]
  omega
theorem cut_drop {l : List D} {j : Nat} : cut l (some (j : Int)) none = l.drop j := by
  have h : ¬ (j : Int) < 0 := by omega
  simp only [cut, sIx, h, if_false, Int.toNat_natCast]
  by_cases hj : j ≤ l.length
  · rw [Nat.min_eq_left hj, List.take_of_length_le (by simp)]
  · rw [Nat.min_eq_right (by omega)]
    simp
    omega
def down : Nat → List D
  | 0 => []
  | j + 1 => .int j :: down j
theorem down_eq : ∀ m : Nat, ((List.range m).map fun (k : Nat) => D.int ((m : Int) - 1 - (k : Int))) = down m
  | 0 => rfl
  | m + 1 => by
    rw [List.range_succ_eq_map, List.map_cons, List.map_map, down, ← down_eq m]
    congr 1
    · simp
    · apply List.map_congr_left
      intro k _
      simp only [Function.comp]
      congr 1
      omega
theorem wp_rgS3 {i j k : Int} {S : Store} {Q : Ex Src → Store → Prop} : wp (rgS3 (.int i) (.int j) (.int k)) S Q = ((k == -1 && small62 i && small62 j) = true ∧ Q (.val ⟨(List.range (i - j).toNat).map fun (k : Nat) => D.int (i - (k : Int)), none⟩) S) := by simp only [rgS3, wp_guard, wp_ok]
theorem wp_ext {S : Store} {r q : Nat} {l k : List D} {Q : Ex D → Store → Prop} (hr : S[r]? = some (.lst l)) (hq : S[q]? = some (.lst k)) (hl : l.length + k.length ≤ LIM) :
    wp (methD .extend (.ref r) [.ref q]) S Q = Q (.val .non) (S.set r (.lst (l ++ k))) := by
  have : methD .extend (.ref r) [.ref q] S = some (.val .non, S.set r (.lst (l ++ k))) := by simp only [methD, hr, hq, hl, if_true]
  exact propext ⟨(fun ⟨_, _, h, q⟩ => by rw [this] at h; cases h; exact q), fun q => ⟨_, _, this, q⟩⟩
theorem fj_old {J : Nat} {S S' : Store} (h : JarAt S J) (ho : ∀ (r : Nat) o, S[r]? = some o → S'[r]? = some o) : Fj J S S' := by
  refine ⟨?_, fun r _ o h => ho r o h⟩
  obtain ⟨b, m, h1, h2⟩ := h
  exact ⟨b, m, ho _ _ h1, h2⟩
theorem row_trm (p : Int × Int × Int × Int) : trm 3 (row4 p) = true := rfl
theorem row_av (S : Store) (p : Int × Int × Int × Int) : Av S (row4 p) := trm_av (row_trm p)
theorem rows_trm {rs : List (Int × Int × Int × Int)} (h : rs.length ≤ 1000) : trm 3 (.tup (rs.map row4)) = true := by
  rw [trm]
  simp only [Bool.and_eq_true, List.all_eq_true, decide_eq_true_eq, List.length_map]
  refine ⟨?_, h⟩
  intro d hd
  obtain ⟨p, -, rfl⟩ := List.mem_map.1 hd
  rfl
theorem rows_fu (rs : List (Int × Int × Int × Int)) : ∀ x ∈ rs.map row4, fu x ≤ 6 := by
  intro x hx
  obtain ⟨p, -, rfl⟩ := List.mem_map.1 hx
  simp [row4, fu, fuL]
theorem lot_av {S : Store} {ts : List Int} : Av S (.tup (ts.map .int)) := by
  rw [av_tup]; intro d hd; obtain ⟨i, -, rfl⟩ := List.mem_map.1 hd; exact av_int i
theorem rows_av {S : Store} {rs : List (Int × Int × Int × Int)} : Av S (.tup (rs.map row4)) := by
  rw [av_tup]; intro d hd; obtain ⟨i, -, rfl⟩ := List.mem_map.1 hd; exact row_av _ _
def isI (v : D) : Prop := ∃ k : Int, v = .int k
end K03
set_option linter.all false
set_option autoImplicit false
set_option maxRecDepth 100000
namespace K03
open Sim
open PySem (Str PyData)
/-! ### sums by slot and stream -/
abbrev R4 := Int × Int × Int × Int
abbrev K2 := Int × Int
def kv2 (p : K2 × Int) : D × D := (.tup [.int p.1.1, .int p.1.2], .int p.2)
def look2 (k : K2) : List (K2 × Int) → Option Int
  | [] => none
  | (q, u) :: r => if q = k then some u else look2 k r
def put2 (k : K2) (v : Int) : List (K2 × Int) → List (K2 × Int)
  | [] => [(k, v)]
  | (q, u) :: r => if q = k then (q, v) :: r else (q, u) :: put2 k v r
def add2 (k : K2) (c : Int) (ps : List (K2 × Int)) : List (K2 × Int) := put2 k ((look2 k ps).getD 0 + c) ps
def sums (rs : List R4) : List (K2 × Int) := rs.foldl (fun ps r => add2 (r.1, r.2.1) r.2.2.2 ps) []
theorem beq_k2 (a b : K2) : beqD (.tup [.int a.1, .int a.2]) (.tup [.int b.1, .int b.2]) = decide (a = b) := by
  obtain ⟨a1, a2⟩ := a
  obtain ⟨b1, b2⟩ := b
  simp only [beqD, beqL, Bool.and_true, Prod.mk.injEq]
  by_cases h1 : a1 = b1 <;> by_cases h2 : a2 = b2 <;> simp [h1, h2]
theorem look_kv2 (k : K2) : ∀ ps : List (K2 × Int), dLook (.tup [.int k.1, .int k.2]) (ps.map kv2) = (look2 k ps).map .int
  | [] => rfl
  | (q, u) :: r => by
    simp only [List.map_cons, kv2, dLook, beq_k2, look2]
    by_cases h : q = k
    · simp [h]
    · simp only [h, decide_false, Bool.false_eq_true, if_false]; exact look_kv2 k r
theorem put_kv2 (k : K2) (v : Int) : ∀ ps : List (K2 × Int), dPut (.tup [.int k.1, .int k.2]) (.int v) (ps.map kv2) = (put2 k v ps).map kv2
  | [] => rfl
  | (q, u) :: r => by
    simp only [List.map_cons, kv2, dPut, beq_k2, put2]
    by_cases h : q = k
    · simp [h, kv2]
    · simp only [h, decide_false, Bool.false_eq_true, if_false, List.map_cons, kv2]
      rw [← put_kv2 k v r]
theorem keyT_kv2 (ps : List (K2 × Int)) : ((ps.map kv2).all fun p => keyT p.1) = true := by
  rw [List.all_eq_true]
  intro p hp
  obtain ⟨q, -, rfl⟩ := List.mem_map.1 hp
  rfl
theorem fits_kv2 (k : K2) (ps : List (K2 × Int)) : keyFits (.tup [.int k.1, .int k.2]) (ps.map kv2) = true := by
  have hk : keyT (.tup [.int k.1, .int k.2]) = true := rfl
  simp only [keyFits, keyT_kv2, hk, Bool.and_self, Bool.or_true]
theorem put2_len (k : K2) (v : Int) : ∀ ps : List (K2 × Int), (put2 k v ps).length ≤ ps.length + 1
  | [] => Nat.le_refl _
  | (q, u) :: r => by
    have := put2_len k v r
    simp only [put2]
    split <;> simp <;> omega
theorem fold_len : ∀ (rs : List R4) (ps : List (K2 × Int)), (rs.foldl (fun ps r => add2 (r.1, r.2.1) r.2.2.2 ps) ps).length ≤ ps.length + rs.length
  | [], ps => Nat.le_refl _
  | r :: rs, ps => by
    have h1 := fold_len rs (add2 (r.1, r.2.1) r.2.2.2 ps)
    have h2 := put2_len (r.1, r.2.1) ((look2 (r.1, r.2.1) ps).getD 0 + r.2.2.2) ps
    simp only [List.foldl_cons, List.length_cons]
    unfold add2 at h1 ⊢
    omega
theorem sums_len (rs : List R4) : (sums rs).length ≤ rs.length := by
  have := fold_len rs []
  simpa [sums] using this
/-! ### rising rows -/
def lt2 (a b : K2) : Prop := a.1 < b.1 ∨ (a.1 = b.1 ∧ a.2 < b.2)
def le2 (a b : K2) : Prop := a = b ∨ lt2 a b
theorem lt2_trans {a b c : K2} (h : lt2 a b) (g : lt2 b c) : lt2 a c := by
  unfold lt2 at *; omega
theorem lt2_irr {a : K2} (h : lt2 a a) : False := by
  unfold lt2 at h; omega
/-- keys that rise -/
def Ris (ps : List (K2 × Int)) : Prop := (ps.map (·.1)).Pairwise lt2
theorem put2_last {k : K2} {v : Int} : ∀ {ps : List (K2 × Int)}, Ris ps → (∀ p ∈ ps, le2 p.1 k) → Ris (put2 k v ps) ∧ ∀ p ∈ put2 k v ps, le2 p.1 k
  | [], _, _ => ⟨by simp [Ris, put2], by simp [put2, le2]⟩
  | (q, u) :: r, h, hk => by
    have h' : (∀ x ∈ r.map (·.1), lt2 q x) ∧ (r.map (·.1)).Pairwise lt2 := List.pairwise_cons.1 h
    have hk1 := hk (q, u) (List.mem_cons_self ..)
    have hk2 : ∀ p ∈ r, le2 p.1 k := fun p hp => hk p (List.mem_cons_of_mem _ hp)
    simp only [put2]
    by_cases e : q = k
    · rw [if_pos e]
      refine ⟨h, ?_⟩
      intro p hp
      rcases List.mem_cons.1 hp with rfl | hp
      · exact Or.inl e
      · exact hk2 p hp
    · rw [if_neg e]
      obtain ⟨i1, i2⟩ := put2_last (v := v) h'.2 hk2
      refine ⟨?_, ?_⟩
      · refine List.pairwise_cons.2 ⟨?_, i1⟩
        have hq : lt2 q k := by rcases hk1 with h | h; exact absurd h e; exact h
        clear i1 i2 hk1 hk2 hk
        have hr := h'.1
        have h2 := h'.2
        clear h h'
        induction r with
        | nil => intro x hx; simp [put2] at hx; rw [hx]; exact hq
        | cons p r ih =>
          obtain ⟨s, t⟩ := p
          intro x hx
          simp only [put2] at hx
          split at hx
          · rename_i hs
            exact hr x hx
          · simp only [List.map_cons, List.mem_cons] at hx
            rcases hx with rfl | hx
            · exact hr _ (by simp)
            · exact ih (fun x hx => hr x (by simp at hx ⊢; exact Or.inr hx)) (List.pairwise_cons.1 h2).2 x (by simpa using hx)
      · intro p hp
        rcases List.mem_cons.1 hp with rfl | hp
        · exact hk1
        · exact i2 p hp
/-- rows whose slots and streams do not fall -/
def Up : List R4 → Prop
  | [] => True
  | r :: rs => (∀ q ∈ rs, le2 (r.1, r.2.1) (q.1, q.2.1)) ∧ Up rs
theorem fold_ris : ∀ {rs : List R4} {ps : List (K2 × Int)}, Up rs → Ris ps → (∀ p ∈ ps, ∀ r ∈ rs, le2 p.1 (r.1, r.2.1)) → Ris (rs.foldl (fun ps r => add2 (r.1, r.2.1) r.2.2.2 ps) ps)
  | [], _, _, h, _ => h
  | r :: rs, ps, hu, h, hp => by
    simp only [List.foldl_cons]
    obtain ⟨i1, i2⟩ := put2_last (k := (r.1, r.2.1)) (v := (look2 (r.1, r.2.1) ps).getD 0 + r.2.2.2) h fun p hp' => hp p hp' r (List.mem_cons_self ..)
    refine fold_ris hu.2 i1 ?_
    intro p hp' q hq
    have h1 := i2 p hp'
    have h2 := hu.1 q hq
    rcases h1 with h1 | h1
    · rw [h1]; exact h2
    · rcases h2 with h2 | h2
      · rw [← h2]; exact Or.inr h1
      · exact Or.inr (lt2_trans h1 h2)
theorem sums_ris {rs : List R4} (h : Up rs) : Ris (sums rs) := fold_ris h (by simp [Ris]) (by simp)
theorem le2_of {a b c x y z : Int} (h : lexLe [a, b, c] [x, y, z] = false) : le2 (x, y) (a, b) := by
  simp only [lexLe] at h
  unfold le2 lt2
  by_cases h1 : a = x
  · rw [if_pos h1] at h
    by_cases h2 : b = y
    · left; rw [h1, h2]
    · rw [if_neg h2] at h
      simp only [decide_eq_false_iff_not] at h
      right; right; exact ⟨h1.symm, by omega⟩
  · rw [if_neg h1] at h
    simp only [decide_eq_false_iff_not] at h
    right; left; simp; omega
theorem le2_trans {a b c : K2} (h : le2 a b) (g : le2 b c) : le2 a c := by
  rcases h with rfl | h
  · exact g
  · rcases g with rfl | g
    · exact Or.inr h
    · exact Or.inr (lt2_trans h g)
theorem row4_inj {p q : R4} (h : row4 p = row4 q) : p = q := by
  obtain ⟨a, b, c, d⟩ := p
  obtain ⟨a', b', c', d'⟩ := q
  simp only [row4, D.tup.injEq, List.cons.injEq, D.int.injEq, and_true] at h
  obtain ⟨rfl, rfl, rfl, rfl⟩ := h
  rfl
theorem bad_up {n : Int} {ts : List Int} : ∀ {rs : List R4} {i : Nat} {x y z : Int}, badRows n ts i x y z (rs.map row4) = none → Up rs ∧ ∀ r ∈ rs, le2 (x, y) (r.1, r.2.1)
  | [], _, _, _, _, _ => ⟨trivial, by simp⟩
  | r :: rs, i, x, y, z, h => by
    rw [List.map_cons, badRows_cons] at h
    split at h
    · simp only [row4] at h
      split at h
      · cases h
      · rename_i hl
        obtain ⟨u, hu⟩ := bad_up h
        have h1 : le2 (x, y) (r.1, r.2.1) := le2_of (by simpa using hl)
        refine ⟨⟨hu, u⟩, ?_⟩
        intro q hq
        rcases List.mem_cons.1 hq with rfl | hq
        · exact h1
        · exact le2_trans h1 (hu q hq)
    · cases h
/-! ### sorted keys -/
theorem ltK_k2 {a b : K2} (h : lt2 a b) : ltK (.tup [.int a.1, .int a.2]) (.tup [.int b.1, .int b.2]) = true := by
  simp only [ltK, sortKey, intsL, Option.map_some, lexLt]
  unfold lt2 at h
  by_cases h1 : a.1 = b.1
  · rw [if_pos h1]
    by_cases h2 : a.2 = b.2
    · omega
    · rw [if_neg h2]; simp; omega
  · rw [if_neg h1]; simp; omega
def kD (k : K2) : D := .tup [.int k.1, .int k.2]
theorem sort_ris : ∀ {ks : List K2}, ks.Pairwise lt2 → sortL ltK (ks.map kD) = ks.map kD
  | [], _ => rfl
  | k :: ks, h => by
    rw [List.pairwise_cons] at h
    rw [List.map_cons, sortL, sort_ris h.2]
    cases ks with
    | nil => rfl
    | cons q ks =>
      rw [List.map_cons, insertL, if_pos]
      exact ltK_k2 (h.1 q (List.mem_cons_self ..))
theorem sortD_k2 {ks : List K2} (h : ks.Pairwise lt2) (hl : ks.length ≤ 1000000) : sortD (ks.map kD) = some (ks.map kD) := by
  cases ks with
  | nil => rfl
  | cons k ks =>
    unfold sortD
    have h1 : allInts ((k :: ks).map kD) = false := rfl
    rw [h1]
    simp only [List.map_cons, kD, Bool.false_eq_true, if_false]
    have h2 : tupsOf [D.int k.1, D.int k.2].length (D.tup [.int k.1, .int k.2] :: ks.map kD) = true := by
      unfold tupsOf
      rw [List.all_eq_true]
      intro x hx
      rcases List.mem_cons.1 hx with rfl | hx
      · rfl
      · obtain ⟨q, -, rfl⟩ := List.mem_map.1 hx; rfl
    have h3 : (D.tup [.int k.1, .int k.2] :: ks.map kD).length ≤ 1000000 := by simpa using hl
    rw [h2, decide_eq_true h3]
    have := sort_ris h
    simp only [List.map_cons, kD] at this
    simp only [List.length_cons, List.length_nil, Nat.reduceAdd, Nat.reduceLeDiff, decide_true, Bool.and_self, if_true]
    exact congrArg some this
theorem sorted_k2 {S : Store} {q : Nat} {ps : List (K2 × Int)} (h : S[q]? = some (.dct (ps.map kv2) false)) (hr : Ris ps) (hl : ps.length ≤ 1000000) :
    biD .sorted [.ref q] S = some (.val (.ref S.length), S ++ [.lst ((ps.map (·.1)).map kD)]) := by
  have e : (ps.map kv2).map (·.1) = (ps.map (·.1)).map kD := by rw [List.map_map, List.map_map]; rfl
  simp only [biD, h, keyT_kv2, if_true, e, sortD_k2 hr (by simpa using hl), Option.bind_some, alloc]
theorem look_in2 : ∀ {ps : List (K2 × Int)} {p : K2 × Int}, Ris ps → p ∈ ps → look2 p.1 ps = some p.2
  | [], _, _, h => by cases h
  | (k, u) :: r, p, h, hp => by
    have h' : (∀ x ∈ r.map (·.1), lt2 k x) ∧ (r.map (·.1)).Pairwise lt2 := List.pairwise_cons.1 h
    simp only [look2]
    rcases List.mem_cons.1 hp with rfl | hp
    · simp
    · have : ¬ k = p.1 := fun e => lt2_irr (h'.1 p.1 (List.mem_map.2 ⟨p, hp, rfl⟩) |> fun z => by rw [← e] at z; exact z)
      rw [if_neg this]
      exact look_in2 h'.2 hp
end K03
set_option linter.all false
set_option autoImplicit false
set_option maxRecDepth 100000
namespace K03
open Sim
open PySem (Str PyData)
theorem set_D2 {S : Store} {q : Nat} {ps : List (K2 × Int)} {k : K2} {v : Int} {Q : Ex Unit → Store → Prop} (hq : S[q]? = some (.dct (ps.map kv2) false)) (hl : ps.length < 1000000) :
    wp (setD (.ref q) (.tup [.int k.1, .int k.2]) (.int v)) S Q = Q (.val ()) (S.set q (.dct ((put2 k v ps).map kv2) false)) := by
  have : setD (.ref q) (.tup [.int k.1, .int k.2]) (.int v) S = some (.val (), S.set q (.dct ((put2 k v ps).map kv2) false)) := by
    have h2 : (ps.map kv2).length < 1000000 := by simpa using hl
    simp only [setD, hq, fits_kv2, Bool.not_false, Bool.and_self, h2, decide_true, if_true, put_kv2]
  exact propext ⟨(fun ⟨_, _, h, q⟩ => by rw [this] at h; cases h; exact q), fun q => ⟨_, _, this, q⟩⟩
theorem get_D2 {S : Store} {q : Nat} {ps : List (K2 × Int)} {k : K2} {x : Int} {Q : Ex D → Store → Prop} (hq : S[q]? = some (.dct (ps.map kv2) false)) :
    wp (methD .get2 (.ref q) [.tup [.int k.1, .int k.2], .int x]) S Q = Q (.val (.int ((look2 k ps).getD x))) S := by
  have : methD .get2 (.ref q) [.tup [.int k.1, .int k.2], .int x] S = some (.val (.int ((look2 k ps).getD x)), S) := by
    simp only [methD, hq, fits_kv2, if_true, look_kv2, ok]
    cases look2 k ps <;> rfl
  exact propext ⟨(fun ⟨_, _, h, q⟩ => by rw [this] at h; cases h; exact q), fun q => ⟨_, _, this, q⟩⟩
theorem mTy_get {S : Store} {r : Nat} {l : List (D × D)} {b : Bool} {Q : Ex Unit → Store → Prop} (hr : S[r]? = some (.dct l b)) : wp (mTy .get2 (.ref r)) S Q = Q (.val ()) S := by
  have : mTy .get2 (.ref r) S = some (.val (), S) := by simp only [mTy, hr, ok]
  exact propext ⟨(fun ⟨_, _, h, q⟩ => by rw [this] at h; cases h; exact q), fun q => ⟨_, _, this, q⟩⟩
theorem sub_D2 {S : Store} {q : Nat} {ps : List (K2 × Int)} {k : K2} {v : Int} {Q : Ex D → Store → Prop} (hq : S[q]? = some (.dct (ps.map kv2) false)) (hl : look2 k ps = some v) :
    wp (subD (.ref q) (.tup [.int k.1, .int k.2])) S Q = Q (.val (.int v)) S := by
  have : subD (.ref q) (.tup [.int k.1, .int k.2]) S = some (.val (.int v), S) := by
    simp only [subD, hq, fits_kv2, if_true, look_kv2, hl, Option.map_some]
  exact propext ⟨(fun ⟨_, _, h, q⟩ => by rw [this] at h; cases h; exact q), fun q => ⟨_, _, this, q⟩⟩
theorem set_app {S : Store} {x y : MO} : (S ++ [x]).set S.length y = S ++ [y] := by simp
theorem summed_eq (n : Nat) {S : Store} {rs : List R4} (hl : rs.length ≤ 400) :
    callN prog 0 n f_summed [.tup (rs.map row4)] S = some (.val (.ref S.length), S ++ [.dct ((sums rs).map kv2) false]) := by
  suffices hw : wp (callN prog 0 n f_summed [.tup (rs.map row4)]) S (fun r S1 => r = .val (.ref S.length) ∧ S1 = S ++ [.dct ((sums rs).map kv2) false]) by
    obtain ⟨r, S1, e, rfl, rfl⟩ := hw
    exact e
  refine wp_def (fd := d_summed) rfl rfl ?_; simp only [d_summed, b_summed, argsL, List.map_cons, List.map_nil, List.replicate, List.cons_append, List.nil_append, List.append_nil, Nat.sub_self, List.length_cons, List.length_nil, Nat.reduceAdd, Nat.reduceSub, List.replicate_succ, List.replicate_zero]
  simp_arith []
  refine wr_for (Inv := fun r L S1 => ∃ (pre rest : List R4) (a b c d : Option D), rs = pre ++ rest ∧ r = rest.map row4 ∧ L = [some (.tup (rs.map row4)), some (.ref S.length), a, b, c, d] ∧ S1 = S ++ [.dct ((sums pre).map kv2) false]) ?_ ?_ ?_ _ _ _ ?_
  · intros; rfl
  · rintro d r L S1 ⟨pre, rest, a, b, c, e, hsp, hr, rfl, rfl⟩
    cases rest with
    | nil => cases hr
    | cons p rest =>
      simp only [List.map_cons, List.cons.injEq] at hr
      obtain ⟨rfl, rfl⟩ := hr
      have hq : (S ++ [MO.dct ((sums pre).map kv2) false])[S.length]? = some (.dct ((sums pre).map kv2) false) := get_new
      have hpl : (sums pre).length < 1000000 := by
        have := sums_len pre
        rw [hsp] at hl
        simp at hl
        omega
      simp_arith [row4, List.isEmpty_nil, mTy_get hq, get_D2 (k := (p.1, p.2.1)) hq]
      refine wp_noX ?_
      simp_arith [set_D2 (k := (p.1, p.2.1)) hq hpl, set_app]
      refine ⟨pre ++ [p], rest, _, _, _, _, by simp [hsp], rfl, rfl, ?_⟩
      simp only [sums, List.foldl_append, List.foldl_cons, List.foldl_nil, add2]
  · rintro L S1 ⟨pre, rest, a, b, c, e, hsp, hr, rfl, rfl⟩
    cases rest with
    | cons p rest => cases hr
    | nil =>
      rw [List.append_nil] at hsp
      subst hsp
      simp_arith []
  · exact ⟨[], rs, none, none, none, none, rfl, rfl, rfl, rfl⟩
def row3 (p : K2 × Int) : D := .tup [.int p.1.1, .int p.1.2, .int p.2]
/-- the first sum that is too great -/
def big (ps : List (K2 × Int)) : Option Int := (ps.map (·.2)).find? fun t => decide (1000000 < t)
def sumsX (rs : List R4) : Ex D := match big (sums rs) with
  | some t => .exc ⟨60, .int t⟩
  | none => .val (.tup ((sums rs).map row3))
theorem awayF_at {r : Nat} {S : Store} {kvs : List (D × D)} {f : List (D × D) → Store → R} (h : S[r]? = some (.dct kvs false)) : awayF (some (.ref r)) S f = awayR r (.dct kvs false) (f kvs) S := by
  simp only [awayF, h]
theorem wr_away {r : Nat} {mo : MO} {f : Store → R} {S : Store} {Q : Out → Loc → Store → Prop} (h : wr (f (S.set r .gone)) (fun o L S1 => match o with | .exc _ => Q o L S1 | _ => Q o L (S1.set r mo))) : wr (awayR r mo f S) Q := by
  obtain ⟨o, L, S1, e, q⟩ := h
  unfold awayR
  rw [e]
  cases o <;> exact ⟨_, _, _, rfl, q⟩
theorem awayD_at {r : Nat} {S : Store} {kvs : List (D × D)} {f : List (D × D) → M D} (h : S[r]? = some (.dct kvs false)) {Q : Ex D → Store → Prop}
    (q : wp (f kvs) (S.set r .gone) (fun v S1 => match v with | .val d => Q (.val d) (S1.set r (.dct kvs false)) | .exc x => Q (.exc x) S1)) : wp (awayD (some (.ref r)) f) S Q := by
  obtain ⟨v, S1, e, q⟩ := q
  have : awayD (some (.ref r)) f S = away r (.dct kvs false) (f kvs) S := by simp only [awayD, h]
  unfold wp
  rw [this]
  unfold away
  rw [e]
  cases v <;> exact ⟨_, _, rfl, q⟩
theorem find_pre {pre rest : List Int} (h : pre.find? (fun t => decide (1000000 < t)) = none) : (pre ++ rest).find? (fun t => decide (1000000 < t)) = rest.find? (fun t => decide (1000000 < t)) := by
  rw [List.find?_append, h]; rfl
theorem sumsA_eq (n : Nat) {S : Store} {rs : List R4} (hl : rs.length ≤ 400) :
    ∃ T, callN prog 0 (n + 1) f_asked_sums [.tup (rs.map row4)] S = some (sumsX rs, S ++ T) := by
  suffices hw : wp (callN prog 0 (n + 1) f_asked_sums [.tup (rs.map row4)]) S (fun r S1 => r = sumsX rs ∧ ∃ T, S1 = S ++ T) by
    obtain ⟨r, S1, e, rfl, T, rfl⟩ := hw
    exact ⟨T, e⟩
  refine wp_def (fd := d_asked_sums) rfl rfl ?_; simp only [d_asked_sums, b_asked_sums, argsL, List.map_cons, List.map_nil, List.replicate, List.cons_append, List.nil_append, List.append_nil, Nat.sub_self, List.length_cons, List.length_nil, Nat.reduceAdd, Nat.reduceSub, List.replicate_succ, List.replicate_zero]
  simp_arith [wp_of_eq2 (summed_eq n (S := S) hl)]
  have hq : (S ++ [MO.dct ((sums rs).map kv2) false])[S.length]? = some (.dct ((sums rs).map kv2) false) := get_new
  rw [awayF_at hq]
  refine wr_away ?_
  rw [set_app]
  have hit : dItems false ((sums rs).map kv2) = ((sums rs).map (·.2)).map .int := by
    simp only [dItems, Bool.false_eq_true, if_false, List.map_map]; rfl
  rw [hit]
  have hlen := sums_len rs
  refine wr_for (Inv := fun r L S1 => ∃ (pre rest : List Int) (a : Option D), (sums rs).map (·.2) = pre ++ rest ∧ r = rest.map .int ∧ L = [some (.tup (rs.map row4)), some (.ref S.length), a, none, none] ∧ S1 = S ++ [.gone] ∧ pre.find? (fun t => decide (1000000 < t)) = none) ?_ ?_ ?_ _ _ _ ?_
  · intros; rfl
  · rintro d r L S1 ⟨pre, rest, a, hsp, hr, rfl, rfl, hp⟩
    cases rest with
    | nil => cases hr
    | cons p rest =>
      simp only [List.map_cons, List.cons.injEq] at hr
      obtain ⟨rfl, rfl⟩ := hr
      by_cases hb : 1000000 < p
      · simp_arith [hb]
        refine ⟨?_, _, rfl⟩
        have : big (sums rs) = some p := by
          unfold big
          rw [hsp, find_pre hp, List.find?_cons]
          simp [hb]
        simp only [sumsX, this]
      · simp_arith [hb]
        exact ⟨pre ++ [p], rest, _, by simp [hsp], rfl, rfl, trivial, by rw [List.find?_append, hp]; simp [hb]⟩
  · rintro L S1 ⟨pre, rest, a, hsp, hr, rfl, rfl, hp⟩
    cases rest with
    | cons p rest => cases hr
    | nil =>
      rw [List.append_nil] at hsp
      have hbig : big (sums rs) = none := by unfold big; rw [hsp]; exact hp
      simp_arith [set_app]
      refine awayD_at hq ?_
      rw [set_app]
      have hg : (S ++ [MO.gone])[S.length]? = some .gone := get_new
      have hit2 : dItems true ((sums rs).map kv2) = (sums rs).map fun p => .tup [.tup [.int p.1.1, .int p.1.2], .int p.2] := by
        simp only [dItems, if_true, List.map_map]; rfl
      have hl2 : (dItems true ((sums rs).map kv2)).length ≤ 1000000 := by rw [hit2]; simp; omega
      simp_arith [hl2]
      refine ⟨trivial, wp_noX ?_⟩
      rw [hit2, wp_of_eq (cmp_det (fun d => match d with | .tup [.tup [x, y], z] => some (.tup [x, y, z]) | _ => none) rfl _ ?_)]
      · simp_arith []
        have hf : ((sums rs).map fun p => D.tup [.tup [.int p.1.1, .int p.1.2], .int p.2]).filterMap (fun d => match d with | .tup [.tup [x, y], z] => some (.tup [x, y, z]) | _ => none) = (sums rs).map row3 := by
          rw [List.filterMap_map]
          rw [← List.filterMap_eq_map]
          rfl
        rw [hf]
        have e1 : (S ++ [MO.gone] ++ [MO.lst ((sums rs).map row3)]).set S.length (.dct ((sums rs).map kv2) false) = S ++ [.dct ((sums rs).map kv2) false, .lst ((sums rs).map row3)] := by simp
        rw [e1]
        have e2 : (S ++ [MO.gone]).length = (S ++ [MO.dct ((sums rs).map kv2) false]).length := by simp
        have e3 : (S ++ [MO.dct ((sums rs).map kv2) false, .lst ((sums rs).map row3)])[(S ++ [MO.gone]).length]? = some (.lst ((sums rs).map row3)) := by simp
        simp_arith [bi_tupL e3]
        simp only [sumsX, hbig]
        exact ⟨trivial, _, rfl⟩
      · intro d hd
        obtain ⟨p, -, rfl⟩ := List.mem_map.1 hd
        apply eq_of_wp
        simp_arith [wipeL, List.foldr, List.isEmpty_nil]
  · exact ⟨[], _, none, rfl, rfl, rfl, rfl, rfl⟩
end K03
set_option linter.all false
set_option autoImplicit false
set_option maxRecDepth 100000
namespace K03
open Sim
open PySem (Str PyData)
theorem fm_map {α : Type} (g : D → Option D) (f : α → D) (h : α → D) : ∀ (l : List α), (∀ x ∈ l, g (f x) = some (h x)) → (l.map f).filterMap g = l.map h
  | [], _ => rfl
  | x :: r, e => by
    rw [List.map_cons, List.filterMap_cons, e x (List.mem_cons_self ..), fm_map g f h r fun y hy => e y (List.mem_cons_of_mem _ hy)]
    rfl
theorem fm_flt {α : Type} (g : D → Option D) (f : α → D) (h : α → D) (c : α → Bool) : ∀ (l : List α), (∀ x ∈ l, g (f x) = if c x = true then some (h x) else none) → (l.map f).filterMap g = (l.filter c).map h
  | [], _ => rfl
  | x :: r, e => by
    rw [List.map_cons, List.filterMap_cons, e x (List.mem_cons_self ..), fm_flt g f h c r fun y hy => e y (List.mem_cons_of_mem _ hy), List.filter_cons]
    cases c x <;> rfl
theorem bin_addTT {a b : Int} {c : D} {S : Store} {Q : Ex D → Store → Prop} : wp (binD .add (.tup [.int a, .int b]) (.tup [c])) S Q = Q (.val (.tup [.int a, .int b, c])) S := by
  rw [bin_addT]; exact propext ⟨And.right, fun h => ⟨by simp [LIM], h⟩⟩
theorem plainof_eq (n : Nat) {S : Store} {rs : List R4} (hu : Up rs) (hl : rs.length ≤ 400) :
    ∃ T, callN prog 0 n f_law_plain_of [.tup (rs.map row4)] S = some (.val (.tup ((sums rs).map row3)), S ++ T) := by
  suffices hw : wp (callN prog 0 n f_law_plain_of [.tup (rs.map row4)]) S (fun r S1 => r = .val (.tup ((sums rs).map row3)) ∧ ∃ T, S1 = S ++ T) by
    obtain ⟨r, S1, e, rfl, T, rfl⟩ := hw
    exact ⟨T, e⟩
  have hlen := sums_len rs
  refine wp_def (fd := d_law_plain_of) rfl rfl ?_; simp only [d_law_plain_of, b_law_plain_of, argsL, List.map_cons, List.map_nil, List.replicate, List.cons_append, List.nil_append, List.append_nil, Nat.sub_self, List.length_cons, List.length_nil, Nat.reduceAdd, Nat.reduceSub, List.replicate_succ, List.replicate_zero]
  simp_arith []
  refine wr_for (Inv := fun r L S1 => ∃ (pre rest : List R4) (a b c d : Option D), rs = pre ++ rest ∧ r = rest.map row4 ∧ L = [some (.tup (rs.map row4)), some (.ref S.length), a, b, c, d, none] ∧ S1 = S ++ [.dct ((sums pre).map kv2) false]) ?_ ?_ ?_ _ _ _ ?_
  · intros; rfl
  · rintro d r L S1 ⟨pre, rest, a, b, c, e, hsp, hr, rfl, rfl⟩
    cases rest with
    | nil => cases hr
    | cons p rest =>
      simp only [List.map_cons, List.cons.injEq] at hr
      obtain ⟨rfl, rfl⟩ := hr
      have hq : (S ++ [MO.dct ((sums pre).map kv2) false])[S.length]? = some (.dct ((sums pre).map kv2) false) := get_new
      have hpl : (sums pre).length < 1000000 := by
        have := sums_len pre
        rw [hsp] at hl
        simp at hl
        omega
      simp_arith [row4, List.isEmpty_nil, mTy_get hq, get_D2 (k := (p.1, p.2.1)) hq]
      refine wp_noX ?_
      simp_arith [set_D2 (k := (p.1, p.2.1)) hq hpl, set_app]
      refine ⟨pre ++ [p], rest, _, _, _, _, by simp [hsp], rfl, rfl, ?_⟩
      simp only [sums, List.foldl_append, List.foldl_cons, List.foldl_nil, add2]
  · rintro L S1 ⟨pre, rest, a, b, c, e, hsp, hr, rfl, rfl⟩
    cases rest with
    | cons p rest => cases hr
    | nil =>
      rw [List.append_nil] at hsp
      subst hsp
      have hq : (S ++ [MO.dct ((sums rs).map kv2) false])[S.length]? = some (.dct ((sums rs).map kv2) false) := get_new
      have hR := sums_ris hu
      simp_arith [wp_of_eq2 (sorted_k2 hq hR (by omega)), seq_L get_new]
      refine ⟨by simp; omega, wp_noX ?_⟩
      have hq2 : (S ++ [MO.dct ((sums rs).map kv2) false] ++ [MO.lst (((sums rs).map (·.1)).map kD)])[S.length]? = some (.dct ((sums rs).map kv2) false) := get_app hq
      rw [wp_of_eq (cmp_det (fun d => match d with | .tup [.int x, .int y] => some (.tup [.int x, .int y, .int ((look2 (x, y) (sums rs)).getD 0)]) | _ => none) (still_at get_new) _ ?_)]
      · have hf : (((sums rs).map (·.1)).map kD).filterMap (fun d => match d with | .tup [.int x, .int y] => some (.tup [.int x, .int y, .int ((look2 (x, y) (sums rs)).getD 0)]) | _ => none) = (sums rs).map row3 := by
          rw [List.map_map]
          refine fm_map _ _ _ _ ?_
          intro p hp
          have := look_in2 hR hp
          simp only [Function.comp, kD, row3]
          rw [show (p.1.1, p.1.2) = p.1 from rfl, this]; rfl
        rw [hf]
        simp_arith [bi_tupL get_new]
        exact ⟨trivial, _, by simp only [List.append_assoc]; rfl⟩
      · intro d hd
        obtain ⟨k, hk, rfl⟩ := List.mem_map.1 hd
        obtain ⟨p, hp, rfl⟩ := List.mem_map.1 hk
        have hlk := look_in2 hR hp
        apply eq_of_wp
        simp_arith [wipeL, List.foldr, kD, sub_D2 (k := p.1) hq2 hlk]
        rw [show (p.1.1, p.1.2) = p.1 from rfl, hlk]
        exact ⟨by simp [LIM], rfl, trivial⟩
  · exact ⟨[], rs, none, none, none, none, rfl, rfl, rfl, rfl⟩
def wsumsV (rs : List R4) : D := match big (sums rs) with
  | some t => .tup [.str (Str.ofString "TooMany"), .int t]
  | none => .non
theorem row3_trm (p : K2 × Int) : trm 3 (row3 p) = true := rfl
theorem wsums_eq (n : Nat) {S : Store} {rs : List R4} (hu : Up rs) (hl : rs.length ≤ 400) :
    ∃ T, callN prog 0 (n + 1) f_law_wrong_sums [.tup (rs.map row4)] S = some (.val (wsumsV rs), S ++ T) := by
  suffices hw : wp (callN prog 0 (n + 1) f_law_wrong_sums [.tup (rs.map row4)]) S (fun r S1 => r = .val (wsumsV rs) ∧ ∃ T, S1 = S ++ T) by
    obtain ⟨r, S1, e, rfl, T, rfl⟩ := hw
    exact ⟨T, e⟩
  have hlen := sums_len rs
  obtain ⟨T, hT⟩ := plainof_eq n (S := S) hu hl
  refine wp_def (fd := d_law_wrong_sums) rfl rfl ?_; simp only [d_law_wrong_sums, b_law_wrong_sums, argsL, List.map_cons, List.map_nil, List.replicate, List.cons_append, List.nil_append, List.append_nil, Nat.sub_self, List.length_cons, List.length_nil, Nat.reduceAdd, Nat.reduceSub, List.replicate_succ, List.replicate_zero]
  simp_arith [wp_of_eq2 hT]
  refine ⟨by simp; omega, wp_noX ?_⟩
  rw [wp_of_eq (cmp_det (fun d => match d with | .tup [_, _, .int t] => if 1000000 < t then some (.int t) else none | _ => none) rfl _ ?_)]
  · have hf : ((sums rs).map row3).filterMap (fun d => match d with | .tup [_, _, .int t] => if 1000000 < t then some (D.int t) else none | _ => none) = (((sums rs).map (·.2)).filter fun t => decide (1000000 < t)).map .int := by
      rw [List.filter_map, List.map_map]
      refine fm_flt _ _ _ _ _ ?_
      intro p hp
      simp only [row3, Function.comp, decide_eq_true_eq]
    rw [hf]
    generalize hb : ((sums rs).map (·.2)).filter (fun t => decide (1000000 < t)) = bs
    have hbl : bs.length ≤ 400 := by
      rw [← hb]
      refine Nat.le_trans (List.length_filter_le _ _) ?_
      simp; omega
    have hbig : big (sums rs) = bs.head? := by
      unfold big
      rw [← hb, List.head?_filter]
    simp_arith []
    have hN1 : (S ++ T ++ [MO.lst (bs.map .int)] ++ [MO.lst []])[(S ++ T).length]? = some (.lst (bs.map .int)) := get_app get_new
    simp_arith [cmp_ne_nilL hN1 get_new (fun x hx => by obtain ⟨p, -, rfl⟩ := List.mem_map.1 hx; rfl) (Nat.le_trans (fuL_le (F := 1) (fun d hd => by obtain ⟨i, -, rfl⟩ := List.mem_map.1 hd; exact Nat.le_refl _)) (by simp; omega))]
    cases bs with
    | nil =>
      simp_arith [List.map_nil, List.isEmpty_nil]
      simp only [wsumsV, hbig, List.head?_nil]
      exact ⟨trivial, _, by simp only [List.append_assoc]; rfl⟩
    | cons t bs =>
      simp_arith [List.map_cons, List.isEmpty_cons]
      simp only [List.map_cons] at hN1
      have i0 : ixN (D.int t :: bs.map D.int).length 0 = some 0 := by simp [ixN]
      have g0 : (D.int t :: bs.map D.int)[0]? = some (.int t) := rfl
      rw [sub_L hN1 i0 g0]
      simp_arith []
      simp only [wsumsV, hbig, List.head?_cons]
      exact ⟨trivial, _, by simp only [List.append_assoc]; rfl⟩
  · intro d hd
    obtain ⟨p, hp, rfl⟩ := List.mem_map.1 hd
    apply eq_of_wp
    simp_arith [wipeL, List.foldr, row3, sub_T (l := [D.int p.1.1, .int p.1.2, .int p.2]) (k := 2) (j := 2) (d := .int p.2) rfl rfl]
    by_cases h : 1000000 < p.2 <;> simp_arith [h, sub_T (l := [D.int p.1.1, .int p.1.2, .int p.2]) (k := 2) (j := 2) (d := .int p.2) rfl rfl]
/-! ### loads -/
def loadOf (rs : List R4) (c : R4 → Bool) : Int := ((rs.filter c).map (·.2.2.2)).sum
theorem sumL_ints : ∀ l : List Int, sumL (l.map .int) = some l.sum
  | [] => rfl
  | x :: r => by rw [List.map_cons, sumL, sumL_ints r]; rfl
theorem bi_sumL {S : Store} {r : Nat} {l : List Int} {Q : Ex D → Store → Prop} (hr : S[r]? = some (.lst (l.map .int))) : wp (biD .sum [.ref r]) S Q = Q (.val (.int l.sum)) S := by
  have : biD .sum [.ref r] S = some (.val (.int l.sum), S) := by simp only [biD, lstAt, hr, sumL_ints, Option.map_some]
  exact propext ⟨(fun ⟨_, _, h, q⟩ => by rw [this] at h; cases h; exact q), fun q => ⟨_, _, this, q⟩⟩
theorem load_eq (n : Nat) {S : Store} {ts ls : List Int} {rs : List R4} {s u : Int} (hl : rs.length ≤ 400) :
    ∃ T, callN prog 0 n f_load_due [.tup (ts.map .int), .tup (rs.map row4), .tup (ls.map .int), .int s, .int u] S =
      some (.val (.int (loadOf rs fun r => ls.contains r.2.1 && (ts.contains r.2.1 && (decide (s ≤ r.1) && decide (r.2.2.1 ≤ u))))), S ++ T) := by
  suffices hw : wp (callN prog 0 n f_load_due [.tup (ts.map .int), .tup (rs.map row4), .tup (ls.map .int), .int s, .int u]) S (fun r S1 => r = .val (.int (loadOf rs fun r => ls.contains r.2.1 && (ts.contains r.2.1 && (decide (s ≤ r.1) && decide (r.2.2.1 ≤ u))))) ∧ ∃ T, S1 = S ++ T) by
    obtain ⟨r, S1, e, rfl, T, rfl⟩ := hw
    exact ⟨T, e⟩
  refine wp_def (fd := d_load_due) rfl rfl ?_; simp only [d_load_due, b_load_due, argsL, List.map_cons, List.map_nil, List.replicate, List.cons_append, List.nil_append, List.append_nil, Nat.sub_self, List.length_cons, List.length_nil, Nat.reduceAdd, Nat.reduceSub, List.replicate_succ, List.replicate_zero]
  simp_arith []
  refine ⟨by simp; omega, wp_noX ?_⟩
  rw [wp_of_eq (cmp_det (fun d => match d with | .tup [.int a, .int v, .int b, .int m] => if (ls.contains v && (ts.contains v && (decide (s ≤ a) && decide (b ≤ u)))) = true then some (.int m) else none | _ => none) rfl _ ?_)]
  · rw [fm_flt _ _ (fun (r : R4) => D.int r.2.2.2) (fun (r : R4) => ls.contains r.2.1 && (ts.contains r.2.1 && (decide (s ≤ r.1) && decide (r.2.2.1 ≤ u)))) rs (fun p hp => by simp only [row4])]
    simp_arith []
    have e : ((rs.filter fun (r : R4) => ls.contains r.2.1 && (ts.contains r.2.1 && (decide (s ≤ r.1) && decide (r.2.2.1 ≤ u)))).map fun r => D.int r.2.2.2) = (((rs.filter fun (r : R4) => ls.contains r.2.1 && (ts.contains r.2.1 && (decide (s ≤ r.1) && decide (r.2.2.1 ≤ u)))).map (·.2.2.2)).map .int) := by rw [List.map_map]; rfl
    rw [e, bi_sumL get_new]
    simp_arith []
    exact ⟨rfl, _, rfl⟩
  · intro d hd
    obtain ⟨p, hp, rfl⟩ := List.mem_map.1 hd
    apply eq_of_wp
    simp_arith [wipeL, List.foldr, row4, List.isEmpty_nil]
    cases h1 : ls.contains p.2.1 with
    | false => simp_arith [Bool.false_and]
    | true =>
      simp_arith [Bool.true_and]
      cases h2 : ts.contains p.2.1 with
      | false => simp_arith [Bool.false_and]
      | true =>
        simp_arith [Bool.true_and]
        by_cases h3 : s ≤ p.1
        · simp_arith [h3, Bool.true_and]
          by_cases h4 : p.2.2.1 ≤ u <;> simp_arith [h4]
        · simp_arith [h3, Bool.false_and]
theorem loadof_eq (n : Nat) {S : Store} {q : Nat} {vs : List Int} {rs : List R4} {s u : Int} (hl : rs.length ≤ 400) (hq : S[q]? = some (.lst (vs.map .int))) :
    ∃ T, callN prog 0 n f_law_due_load_of [.tup (rs.map row4), .ref q, .int s, .int u] S =
      some (.val (.int (loadOf rs fun r => vs.contains r.2.1 && (decide (s ≤ r.1) && decide (r.2.2.1 ≤ u)))), S ++ T) := by
  suffices hw : wp (callN prog 0 n f_law_due_load_of [.tup (rs.map row4), .ref q, .int s, .int u]) S (fun r S1 => r = .val (.int (loadOf rs fun r => vs.contains r.2.1 && (decide (s ≤ r.1) && decide (r.2.2.1 ≤ u)))) ∧ ∃ T, S1 = S ++ T) by
    obtain ⟨r, S1, e, rfl, T, rfl⟩ := hw
    exact ⟨T, e⟩
  refine wp_def (fd := d_law_due_load_of) rfl rfl ?_; simp only [d_law_due_load_of, b_law_due_load_of, argsL, List.map_cons, List.map_nil, List.replicate, List.cons_append, List.nil_append, List.append_nil, Nat.sub_self, List.length_cons, List.length_nil, Nat.reduceAdd, Nat.reduceSub, List.replicate_succ, List.replicate_zero]
  simp_arith []
  refine ⟨by simp; omega, wp_noX ?_⟩
  have hmem : ∀ (v : Int) (Q : Ex D → Store → Prop), wp (cmpD .mem (.int v) (.ref q)) S Q = Q (.val (.bl (vs.contains v))) S := by
    intro v Q
    have : cmpD .mem (.int v) (.ref q) S = some (.val (.bl (vs.contains v)), S) := by
      simp only [cmpD, memD, lstAt, hq, flat_ints, mem_any, flat, Bool.and_self, if_true, Option.map_some]
    exact propext ⟨(fun ⟨_, _, h, q⟩ => by rw [this] at h; cases h; exact q), fun q => ⟨_, _, this, q⟩⟩
  rw [wp_of_eq (cmp_det (fun d => match d with | .tup [.int a, .int v, .int b, .int m] => if (vs.contains v && (decide (s ≤ a) && decide (b ≤ u))) = true then some (.int m) else none | _ => none) rfl _ ?_)]
  · rw [fm_flt _ _ (fun (r : R4) => D.int r.2.2.2) (fun (r : R4) => vs.contains r.2.1 && (decide (s ≤ r.1) && decide (r.2.2.1 ≤ u))) rs (fun p hp => by simp only [row4])]
    simp_arith []
    have e : ((rs.filter fun (r : R4) => vs.contains r.2.1 && (decide (s ≤ r.1) && decide (r.2.2.1 ≤ u))).map fun r => D.int r.2.2.2) = (((rs.filter fun (r : R4) => vs.contains r.2.1 && (decide (s ≤ r.1) && decide (r.2.2.1 ≤ u))).map (·.2.2.2)).map .int) := by rw [List.map_map]; rfl
    rw [e, bi_sumL get_new]
    simp_arith []
    exact ⟨rfl, _, rfl⟩
  · intro d hd
    obtain ⟨p, hp, rfl⟩ := List.mem_map.1 hd
    apply eq_of_wp
    simp_arith [wipeL, List.foldr, row4, sub_T (l := [D.int p.1, .int p.2.1, .int p.2.2.1, .int p.2.2.2]) (k := 0) (j := 0) (d := .int p.1) rfl rfl, sub_T (l := [D.int p.1, .int p.2.1, .int p.2.2.1, .int p.2.2.2]) (k := 1) (j := 1) (d := .int p.2.1) rfl rfl, sub_T (l := [D.int p.1, .int p.2.1, .int p.2.2.1, .int p.2.2.2]) (k := 2) (j := 2) (d := .int p.2.2.1) rfl rfl, sub_T (l := [D.int p.1, .int p.2.1, .int p.2.2.1, .int p.2.2.2]) (k := 3) (j := 3) (d := .int p.2.2.2) rfl rfl, hmem]
    cases h1 : vs.contains p.2.1 with
    | false => simp_arith [Bool.false_and, sub_T (l := [D.int p.1, .int p.2.1, .int p.2.2.1, .int p.2.2.2]) (k := 0) (j := 0) (d := .int p.1) rfl rfl, sub_T (l := [D.int p.1, .int p.2.1, .int p.2.2.1, .int p.2.2.2]) (k := 1) (j := 1) (d := .int p.2.1) rfl rfl, sub_T (l := [D.int p.1, .int p.2.1, .int p.2.2.1, .int p.2.2.2]) (k := 2) (j := 2) (d := .int p.2.2.1) rfl rfl, sub_T (l := [D.int p.1, .int p.2.1, .int p.2.2.1, .int p.2.2.2]) (k := 3) (j := 3) (d := .int p.2.2.2) rfl rfl, hmem]
    | true =>
      simp_arith [Bool.true_and, sub_T (l := [D.int p.1, .int p.2.1, .int p.2.2.1, .int p.2.2.2]) (k := 0) (j := 0) (d := .int p.1) rfl rfl, sub_T (l := [D.int p.1, .int p.2.1, .int p.2.2.1, .int p.2.2.2]) (k := 1) (j := 1) (d := .int p.2.1) rfl rfl, sub_T (l := [D.int p.1, .int p.2.1, .int p.2.2.1, .int p.2.2.2]) (k := 2) (j := 2) (d := .int p.2.2.1) rfl rfl, sub_T (l := [D.int p.1, .int p.2.1, .int p.2.2.1, .int p.2.2.2]) (k := 3) (j := 3) (d := .int p.2.2.2) rfl rfl, hmem]
      by_cases h3 : s ≤ p.1
      · simp_arith [h3, Bool.true_and, sub_T (l := [D.int p.1, .int p.2.1, .int p.2.2.1, .int p.2.2.2]) (k := 0) (j := 0) (d := .int p.1) rfl rfl, sub_T (l := [D.int p.1, .int p.2.1, .int p.2.2.1, .int p.2.2.2]) (k := 1) (j := 1) (d := .int p.2.1) rfl rfl, sub_T (l := [D.int p.1, .int p.2.1, .int p.2.2.1, .int p.2.2.2]) (k := 2) (j := 2) (d := .int p.2.2.1) rfl rfl, sub_T (l := [D.int p.1, .int p.2.1, .int p.2.2.1, .int p.2.2.2]) (k := 3) (j := 3) (d := .int p.2.2.2) rfl rfl, hmem]
        by_cases h4 : p.2.2.1 ≤ u <;> simp_arith [h4, sub_T (l := [D.int p.1, .int p.2.1, .int p.2.2.1, .int p.2.2.2]) (k := 0) (j := 0) (d := .int p.1) rfl rfl, sub_T (l := [D.int p.1, .int p.2.1, .int p.2.2.1, .int p.2.2.2]) (k := 1) (j := 1) (d := .int p.2.1) rfl rfl, sub_T (l := [D.int p.1, .int p.2.1, .int p.2.2.1, .int p.2.2.2]) (k := 2) (j := 2) (d := .int p.2.2.1) rfl rfl, sub_T (l := [D.int p.1, .int p.2.1, .int p.2.2.1, .int p.2.2.2]) (k := 3) (j := 3) (d := .int p.2.2.2) rfl rfl, hmem]
      · simp_arith [h3, Bool.false_and, sub_T (l := [D.int p.1, .int p.2.1, .int p.2.2.1, .int p.2.2.2]) (k := 0) (j := 0) (d := .int p.1) rfl rfl, sub_T (l := [D.int p.1, .int p.2.1, .int p.2.2.1, .int p.2.2.2]) (k := 1) (j := 1) (d := .int p.2.1) rfl rfl, sub_T (l := [D.int p.1, .int p.2.1, .int p.2.2.1, .int p.2.2.2]) (k := 2) (j := 2) (d := .int p.2.2.1) rfl rfl, sub_T (l := [D.int p.1, .int p.2.1, .int p.2.2.1, .int p.2.2.2]) (k := 3) (j := 3) (d := .int p.2.2.2) rfl rfl, hmem]
theorem load_same {rs : List R4} {ts ls : List Int} {s u : Int} : (loadOf rs fun r => (ls.filter fun v => ts.contains v).contains r.2.1 && (decide (s ≤ r.1) && decide (r.2.2.1 ≤ u))) =
    loadOf rs fun r => ls.contains r.2.1 && (ts.contains r.2.1 && (decide (s ≤ r.1) && decide (r.2.2.1 ≤ u))) := by
  unfold loadOf
  congr 2
  apply List.filter_congr
  intro r _
  rw [← Bool.and_assoc, ← Bool.and_assoc, ← Bool.and_assoc]
  congr 2
  rw [Bool.eq_iff_iff]
  simp
end K03
set_option linter.all false
set_option autoImplicit false
set_option maxRecDepth 100000
namespace K03
open Sim
open PySem (Str PyData)
def okc (c : Nat) (nm : Str) : Prop := (c, nm) = (59, Str.ofString "BadMany") ∨ (c, nm) = (8, Str.ofString "BadLot") ∨ (c, nm) = (60, Str.ofString "TooMany") ∨ (c, nm) = (61, Str.ofString "BadDueRows") ∨ (c, nm) = (13, Str.ofString "BadSlot")
theorem heard_exc2 (n f j : Nat) (caps : Loc) (S S1 : Store) (c : Nat) (w : D) (nm : Str) (h : runClo prog (orcN prog 0 n) f j caps S = some (.exc ⟨c, w⟩, S1))
    (hc : okc c nm) :
    callN prog 0 (n + 1) f_law_heard [.clo f j caps] S = some (.val (.tup [.str nm, w]), S1) := by
  have h2 : (orcN prog 0 (n + 1) f_law_heard).clo f j caps S = some (.exc ⟨c, w⟩, S1) := h
  have hp : prog f_law_heard = some d_law_heard := rfl
  simp only [callN, runDef, hp]
  simp only [d_law_heard, b_law_heard, argsL, List.map_cons, List.map_nil, List.replicate_succ, List.replicate_zero, List.cons_append, List.nil_append, List.length_cons, List.length_nil, Nat.reduceAdd, Nat.reduceSub, evSs, evS, getL_zero, h2, if_true]
  rcases hc with h | h | h | h | h <;> (cases h; rfl)
theorem wslot_eq (n : Nat) {S : Store} {d : D} (h : Av S d) :
    callN prog 0 (n + 2) f_law_wrong_slot [d] S = some (.val (if wholeB d 0 1000000 then .non else .tup [.str (Str.ofString "BadSlot"), d]), S) := by
  apply eq_of_wp
  refine wp_def (fd := d_law_wrong_slot) rfl rfl ?_; simp only [d_law_wrong_slot, b_law_wrong_slot, argsL, List.map_cons, List.map_nil, List.replicate, List.cons_append, List.nil_append, List.append_nil, Nat.sub_self, List.length_cons, List.length_nil, Nat.reduceAdd, Nat.reduceSub, List.replicate_succ, List.replicate_zero]
  simp_arith [av_nc h, wp_of_eq (isnum_eq n h)]
  cases wholeB d 0 1000000 <;> simp_arith [av_nc h]
theorem aslot_eq (n : Nat) {S : Store} {d : D} (h : Av S d) :
    callN prog 0 (n + 1) f_asked_slot [d] S = some (if wholeB d 0 1000000 then .val .non else .exc ⟨13, d⟩, S) := by
  apply eq_of_wp
  refine wp_def (fd := d_asked_slot) rfl rfl ?_; simp only [d_asked_slot, b_asked_slot, argsL, List.map_cons, List.map_nil, List.replicate, List.cons_append, List.nil_append, List.append_nil, Nat.sub_self, List.length_cons, List.length_nil, Nat.reduceAdd, Nat.reduceSub, List.replicate_succ, List.replicate_zero]
  simp_arith [av_nc h, wp_of_eq (whole_eq n h)]
  cases wholeB d 0 1000000 <;> simp_arith [av_nc h]
theorem app_mon {S : Store} (T : Store) : Mon S (S ++ T) := fun r l h => ⟨l, by rw [List.getElem?_append_left]; exact h; exact (List.getElem?_eq_some_iff.1 h).1⟩
theorem hw1 (n : Nat) {S : Store} {dn dt dr : D} (hn : Av S dn) (ht : Av S dt) (hr : Av S dr) (h1 : wholeB dn 0 24 = false) : callN prog 0 (n + 4) f_law_head_wrong [dn, dt, dr] S = some (.val (.tup [.str (Str.ofString "BadMany"), dn]), S) := by
  apply eq_of_wp
  refine wp_def (fd := d_law_head_wrong) rfl rfl ?_; simp only [d_law_head_wrong, b_law_head_wrong, argsL, List.map_cons, List.map_nil, List.replicate, List.cons_append, List.nil_append, List.append_nil, Nat.sub_self, List.length_cons, List.length_nil, Nat.reduceAdd, Nat.reduceSub, List.replicate_succ, List.replicate_zero]
  simp_arith [av_nc hn, av_nc ht, av_nc hr, wp_of_eq (wmany_eq (n + 1) hn), h1]
theorem hw2 (n : Nat) {S : Store} {N : Int} {dt dr : D} {i : Int} (ht : Av S dt) (hr : Av S dr) (zt : small dt) (h1 : wholeB (.int N) 0 24 = true) (h2 : wlotV N dt = .tup [.str (Str.ofString "BadLot"), .int i]) : callN prog 0 (n + 4) f_law_head_wrong [.int N, dt, dr] S = some (.val (.tup [.str (Str.ofString "BadLot"), .int i]), S) := by
  have e2 := wlot_eq (n + 1) (N := N) ht zt
  rw [h2] at e2
  apply eq_of_wp
  refine wp_def (fd := d_law_head_wrong) rfl rfl ?_; simp only [d_law_head_wrong, b_law_head_wrong, argsL, List.map_cons, List.map_nil, List.replicate, List.cons_append, List.nil_append, List.append_nil, Nat.sub_self, List.length_cons, List.length_nil, Nat.reduceAdd, Nat.reduceSub, List.replicate_succ, List.replicate_zero]
  simp_arith [av_nc ht, av_nc hr, wp_of_eq (wmany_eq (n + 1) (d := .int N) (S := S) (av_int _)), h1, wp_of_eq e2]
theorem hw3' (n : Nat) {S : Store} {N : Int} {dt dr v : D} (ht : Av S dt) (hr : Av S dr) (h1 : wholeB (.int N) 0 24 = true) (e2 : callN prog 0 (n + 3) f_law_wrong_lot [.int N, dt] S = some (.val .non, S))
    (e3 : callN prog 0 (n + 3) f_law_wrong_due_rows [.int N, dt, dr] S = some (.val v, S)) : callN prog 0 (n + 4) f_law_head_wrong [.int N, dt, dr] S = some (.val v, S) := by
  apply eq_of_wp
  refine wp_def (fd := d_law_head_wrong) rfl rfl ?_; simp only [d_law_head_wrong, b_law_head_wrong, argsL, List.map_cons, List.map_nil, List.replicate, List.cons_append, List.nil_append, List.append_nil, Nat.sub_self, List.length_cons, List.length_nil, Nat.reduceAdd, Nat.reduceSub, List.replicate_succ, List.replicate_zero]
  simp_arith [av_nc ht, av_nc hr, wp_of_eq (wmany_eq (n + 1) (d := .int N) (S := S) (av_int _)), h1, wp_of_eq e2, wp_of_eq e3]
theorem hw3 (n : Nat) {S : Store} {N : Int} {ts : List Int} {dr : D} (ht : Av S (.tup (ts.map .int))) (hr : Av S dr) (zt : small (.tup (ts.map .int))) (h1 : wholeB (.int N) 0 24 = true) (h2 : wlotV N (.tup (ts.map .int)) = .non) : callN prog 0 (n + 4) f_law_head_wrong [.int N, .tup (ts.map .int), dr] S = some (.val (wrowsV N ts dr), S) := by
  have e2 := wlot_eq (n + 1) (N := N) ht zt
  rw [h2] at e2
  exact hw3' n ht hr h1 e2 (wrows_eq (n + 1) (N := N) (ts := ts) hr)
/-- what is wrong in the first three arguments -/
theorem head_cases {S0 : Store} {dn dt dr : D} (hn : pvB 3 dn = true) (ht0 : Av S0 dt) (hr0 : Av S0 dr) (zt : small dt) :
    (∃ c w nm, okc c nm ∧ pvB 3 w = true ∧ ∀ n S, Av S dt → Av S dr → callN prog 0 (n + 4) f_law_head_wrong [dn, dt, dr] S = some (.val (.tup [.str nm, w]), S) ∧ ∃ T, callN prog 0 (n + 2) f_made_due_rows [dn, dt, dr] S = some (.exc ⟨c, w⟩, S ++ T)) ∨
    ∃ (N : Int) (ts : List Int) (rs : List R4), dn = .int N ∧ dt = .tup (ts.map .int) ∧ dr = .tup (rs.map row4) ∧ rs.length ≤ 400 ∧ Up rs ∧
      ∀ n S, Av S dt → Av S dr → callN prog 0 (n + 4) f_law_head_wrong [dn, dt, dr] S = some (.val .non, S) ∧ ∃ T, callN prog 0 (n + 2) f_made_due_rows [dn, dt, dr] S = some (.val dr, S ++ T) := by
  have hn' : ∀ S, Av S dn := fun S => pv_av hn
  cases h1 : wholeB dn 0 24 with
  | false =>
    refine Or.inl ⟨59, dn, _, Or.inl rfl, hn, fun n S ht hr => ⟨?_, [], ?_⟩⟩
    · exact hw1 n (hn' S) ht hr h1
    · rw [List.append_nil]; exact madeN n (hn' S) ht hr h1
  | true =>
    obtain ⟨N, rfl, -, -⟩ := wholeB_int h1
    rcases wlot_cases (N := N) (d := dt) with h2 | ⟨i, h2, h2'⟩
    · obtain ⟨ts, rfl, hb⟩ := wlot_non h2
      rcases wrows_cases (N := N) (ts := ts) (d := dr) with ⟨h3, h3', rs, hrs, hlen⟩ | ⟨c, nm, i, h3, h3', hc⟩
      · subst hrs
        have hup : Up rs := by
          have h4 := h3'
          simp only [rowsX] at h4
          split at h4
          · cases h4
          · split at h4
            · rename_i hb
              exact (bad_up hb).1
            · cases h4
        refine Or.inr ⟨N, ts, rs, rfl, rfl, rfl, hlen, hup, fun n S ht hr => ⟨?_, ?_⟩⟩
        · have := hw3 n ht hr zt h1 h2
          rw [h3] at this
          exact this
        · have := made_eq n (S := S) h1 hb hr
          rw [h3'] at this
          exact this
      · refine Or.inl ⟨c, .int i, nm, ?_, rfl, fun n S ht hr => ⟨?_, ?_⟩⟩
        · rcases hc with h | h
          · exact Or.inr (Or.inr (Or.inl h))
          · exact Or.inr (Or.inr (Or.inr (Or.inl h)))
        · have := hw3 n ht hr zt h1 h2
          rw [h3] at this
          exact this
        · have := made_eq n (S := S) h1 hb hr
          rw [h3'] at this
          exact this
    · refine Or.inl ⟨8, .int i, _, Or.inr (Or.inl rfl), rfl, fun n S ht hr => ⟨?_, [], ?_⟩⟩
      · exact hw2 n ht hr zt h1 h2
      · rw [List.append_nil]; exact madeT n ht hr h1 h2'
/-! ### plain_rows asked -/
theorem lam_plain (n : Nat) {S S1 : Store} {dn dt dr : D} {r : Ex D} (hn : Av S dn) (ht : Av S dt) (hr : Av S dr) (h : callN prog 0 n f_plain_rows [dn, dt, dr] S = some (r, S1)) :
    runClo prog (orcN prog 0 (n + 1)) f_law_plain_asked 0 [some dn, some dt, some dr] S = some (r, S1) := by
  have hp : prog f_law_plain_asked = some d_law_plain_asked := rfl
  have hl : d_law_plain_asked.lams[0]? = some ([0, 1, 2], .call f_plain_rows (.cons (.var 0) (.cons (.var 1) (.cons (.var 2) .nil)))) := rfl
  have hc : capsL d_law_plain_asked.nl [0, 1, 2] [some dn, some dt, some dr] = [some dn, some dt, some dr, none, none] := rfl
  simp only [runClo, hp, hl, hc]
  have : wp (evE (orcN prog 0 (n + 1) f_law_plain_asked) (.call f_plain_rows (.cons (.var 0) (.cons (.var 1) (.cons (.var 2) .nil)))) [some dn, some dt, some dr, none, none]) S (fun q T => q = r ∧ T = S1) := by
    simp_arith [av_nc hn, av_nc ht, av_nc hr, wp_of_eq2 h]
  obtain ⟨q, T, e, rfl, rfl⟩ := this
  exact e
theorem plain_exc (n : Nat) {S S1 : Store} {dn dt dr : D} {x : Exn} (hn : Av S dn) (ht : Av S dt) (hr : Av S dr) (h : callN prog 0 n f_made_due_rows [dn, dt, dr] S = some (.exc x, S1)) :
    callN prog 0 (n + 1) f_plain_rows [dn, dt, dr] S = some (.exc x, S1) := by
  suffices hw : wp (callN prog 0 (n + 1) f_plain_rows [dn, dt, dr]) S (fun r T => r = .exc x ∧ T = S1) by
    obtain ⟨r, T, e, rfl, rfl⟩ := hw
    exact e
  refine wp_def (fd := d_plain_rows) rfl rfl ?_; simp only [d_plain_rows, b_plain_rows, argsL, List.map_cons, List.map_nil, List.replicate, List.cons_append, List.nil_append, List.append_nil, Nat.sub_self, List.length_cons, List.length_nil, Nat.reduceAdd, Nat.reduceSub, List.replicate_succ, List.replicate_zero]
  simp_arith [av_nc hn, av_nc ht, av_nc hr, wp_of_eq2 h]
theorem plain_val (n : Nat) {S S1 : Store} {dn dt : D} {rs : List R4} (hl : rs.length ≤ 400) (hn : Av S dn) (ht : Av S dt) (h : callN prog 0 (n + 1) f_made_due_rows [dn, dt, .tup (rs.map row4)] S = some (.val (.tup (rs.map row4)), S1)) :
    ∃ T, callN prog 0 (n + 2) f_plain_rows [dn, dt, .tup (rs.map row4)] S = some (sumsX rs, S1 ++ T) := by
  obtain ⟨T, hT⟩ := sumsA_eq n (S := S1) hl
  refine ⟨T, ?_⟩
  suffices hw : wp (callN prog 0 (n + 2) f_plain_rows [dn, dt, .tup (rs.map row4)]) S (fun r T' => r = sumsX rs ∧ T' = S1 ++ T) by
    obtain ⟨r, T, e, rfl, rfl⟩ := hw
    exact e
  refine wp_def (fd := d_plain_rows) rfl rfl ?_; simp only [d_plain_rows, b_plain_rows, argsL, List.map_cons, List.map_nil, List.replicate, List.cons_append, List.nil_append, List.append_nil, Nat.sub_self, List.length_cons, List.length_nil, Nat.reduceAdd, Nat.reduceSub, List.replicate_succ, List.replicate_zero]
  simp_arith [av_nc hn, av_nc ht, wp_of_eq2 h, wp_of_eq2 hT]
  unfold sumsX
  cases big (sums rs) <;> simp_arith []
theorem pvB_up {d : D} : ∀ {k : Nat}, pvB 3 d = true → pvB (k + 3) d = true
  | 0, h => h
  | k + 1, h => pv_up (pvB_up h)
theorem pasked_eq (n : Nat) {S : Store} {dn dt dr : D} (hn : pvB 3 dn = true) (ht : Av S dt) (hr : Av S dr) (zt : small dt) :
    ∃ T, callN prog 0 (n + 10) f_law_plain_asked [dn, dt, dr] S = some (.val (.bl true), S ++ T) := by
  have hn' : ∀ S, Av S dn := fun S => pv_av hn
  have hc : (orcN prog 0 (n + 10) f_law_plain_asked).caps 0 = [0, 1, 2] := rfl
  have hm : (orcN prog 0 (n + 10) f_law_plain_asked).me = f_law_plain_asked := rfl
  suffices hw : wp (callN prog 0 (n + 10) f_law_plain_asked [dn, dt, dr]) S (fun r S1 => r = .val (.bl true) ∧ ∃ T, S1 = S ++ T) by
    obtain ⟨r, S1, e, rfl, T, rfl⟩ := hw
    exact ⟨T, e⟩
  rcases head_cases hn ht hr zt with ⟨c, w, nm, hk, hpw, H⟩ | ⟨N, ts, rs, rfl, rfl, rfl, hl, hup, H⟩
  · obtain ⟨h1, T, h2⟩ := H (n + 5) S ht hr
    have h3 := heard_exc2 (n + 8) _ 0 _ _ _ c w nm (lam_plain (n + 7) (hn' S) ht hr (plain_exc (n + 6) (hn' S) ht hr (by have := (H (n + 4) S ht hr).2.choose_spec; exact this))) hk
    refine wp_def (fd := d_law_plain_asked) rfl rfl ?_; simp only [d_law_plain_asked, b_law_plain_asked, argsL, List.map_cons, List.map_nil, List.replicate, List.cons_append, List.nil_append, List.append_nil, Nat.sub_self, List.length_cons, List.length_nil, Nat.reduceAdd, Nat.reduceSub, List.replicate_succ, List.replicate_zero]
    simp_arith [hc, hm, restrict, List.map_cons, List.map_nil, av_nc (hn' S), av_nc ht, av_nc hr, wp_of_eq h1]
    rw [wp_of_eq2 h3]
    have hv : pvB 5 (.tup [.str nm, w]) = true := by
      have : pvB 4 w = true := pv_up hpw
      simp [pvB, this]
    simp_arith [wp_of_eq (same_refl 5 _ hv (n + 4) _)]
    exact ⟨trivial, _, rfl⟩
  · obtain ⟨h1, -⟩ := H (n + 5) S ht hr
    obtain ⟨T1, e1⟩ := wsums_eq (n + 8) (S := S) hup hl
    have ht1 := av_mon (app_mon (S := S) T1) ht
    have hr1 := av_mon (app_mon (S := S) T1) hr
    have hrA : ∀ S, Av S (.tup (rs.map row4)) := fun S => rows_av
    have htA : ∀ S, Av S (.tup (ts.map .int)) := fun S => lot_av
    cases hb : big (sums rs) with
    | some t =>
      have hw : wsumsV rs = .tup [.str (Str.ofString "TooMany"), .int t] := by simp only [wsumsV, hb]
      rw [hw] at e1
      have hx : sumsX rs = .exc ⟨60, .int t⟩ := by simp only [sumsX, hb]
      obtain ⟨T2, h2⟩ := (H (n + 4) (S ++ T1) (htA _) (hrA _)).2
      obtain ⟨T3, h3⟩ := plain_val (n + 5) hl (hn' _) (htA _) h2
      rw [hx] at h3
      have h4 := heard_exc2 (n + 8) _ 0 _ _ _ 60 _ _ (lam_plain (n + 7) (hn' _) (htA _) (hrA _) h3) (Or.inr (Or.inr (Or.inl rfl)))
      refine wp_def (fd := d_law_plain_asked) rfl rfl ?_; simp only [d_law_plain_asked, b_law_plain_asked, argsL, List.map_cons, List.map_nil, List.replicate, List.cons_append, List.nil_append, List.append_nil, Nat.sub_self, List.length_cons, List.length_nil, Nat.reduceAdd, Nat.reduceSub, List.replicate_succ, List.replicate_zero]
      simp_arith [hc, hm, restrict, List.map_cons, List.map_nil, wp_of_eq h1, wp_of_eq2 e1]
      rw [wp_of_eq2 h4]
      simp_arith [wp_of_eq (same_refl 5 (.tup [.str (Str.ofString "TooMany"), .int t]) rfl (n + 4) _)]
      exact ⟨trivial, _, by simp only [List.append_assoc]; rfl⟩
    | none =>
      have hw : wsumsV rs = .non := by simp only [wsumsV, hb]
      rw [hw] at e1
      have hx : sumsX rs = .val (.tup ((sums rs).map row3)) := by simp only [sumsX, hb]
      obtain ⟨T4, e4⟩ := plainof_eq (n + 9) (S := S ++ T1) hup hl
      obtain ⟨T2, h2⟩ := (H (n + 4) (S ++ T1 ++ T4) (htA _) (hrA _)).2
      obtain ⟨T3, h3⟩ := plain_val (n + 5) hl (hn' _) (htA _) h2
      rw [hx] at h3
      have h4 := heard_val (n + 8) _ 0 _ _ _ _ (lam_plain (n + 7) (hn' _) (htA _) (hrA _) h3)
      refine wp_def (fd := d_law_plain_asked) rfl rfl ?_; simp only [d_law_plain_asked, b_law_plain_asked, argsL, List.map_cons, List.map_nil, List.replicate, List.cons_append, List.nil_append, List.append_nil, Nat.sub_self, List.length_cons, List.length_nil, Nat.reduceAdd, Nat.reduceSub, List.replicate_succ, List.replicate_zero]
      simp_arith [hc, hm, restrict, List.map_cons, List.map_nil, wp_of_eq h1, wp_of_eq2 e1, wp_of_eq2 e4]
      rw [wp_of_eq2 h4]
      have hv : pvB 5 (.tup [.str (Str.ofString "told"), .tup ((sums rs).map row3)]) = true := by
        have hlen := sums_len rs
        simp only [pvB, List.all_cons, List.all_nil, Bool.and_true, Bool.true_and, List.length_cons, List.length_nil, Nat.reduceAdd, Nat.reduceLeDiff, decide_true, List.length_map, Bool.and_eq_true, decide_eq_true_eq, List.all_eq_true]
        refine ⟨?_, by omega⟩
        intro d hd
        obtain ⟨p, -, rfl⟩ := List.mem_map.1 hd
        rfl
      simp_arith [wp_of_eq (same_refl 5 _ hv (n + 4) _)]
      exact ⟨trivial, _, by simp only [List.append_assoc]; rfl⟩
end K03
set_option linter.all false
set_option autoImplicit false
set_option maxRecDepth 100000
namespace K03
open Sim
open PySem (Str PyData)
/-! ### due_load asked -/
theorem lam_load (n : Nat) {S S1 : Store} {dn dt dr dl ds du : D} {r : Ex D} (hn : Av S dn) (ht : Av S dt) (hr : Av S dr) (hl : Av S dl) (hs : Av S ds) (hu : Av S du) (h : callN prog 0 n f_due_load [dn, dt, dr, dl, ds, du] S = some (r, S1)) :
    runClo prog (orcN prog 0 (n + 1)) f_law_load_asked 0 [some dn, some dt, some dr, some dl, some ds, some du] S = some (r, S1) := by
  have hp : prog f_law_load_asked = some d_law_load_asked := rfl
  have hl' : d_law_load_asked.lams[0]? = some ([0, 1, 2, 3, 4, 5], .call f_due_load (.cons (.var 0) (.cons (.var 1) (.cons (.var 2) (.cons (.var 3) (.cons (.var 4) (.cons (.var 5) .nil))))))) := rfl
  have hc : capsL d_law_load_asked.nl [0, 1, 2, 3, 4, 5] [some dn, some dt, some dr, some dl, some ds, some du] = [some dn, some dt, some dr, some dl, some ds, some du, none, none, none] := rfl
  simp only [runClo, hp, hl', hc]
  have : wp (evE (orcN prog 0 (n + 1) f_law_load_asked) (.call f_due_load (.cons (.var 0) (.cons (.var 1) (.cons (.var 2) (.cons (.var 3) (.cons (.var 4) (.cons (.var 5) .nil))))))) [some dn, some dt, some dr, some dl, some ds, some du, none, none, none]) S (fun q T => q = r ∧ T = S1) := by
    simp_arith [av_nc hn, av_nc ht, av_nc hr, av_nc hl, av_nc hs, av_nc hu, wp_of_eq2 h]
  obtain ⟨q, T, e, rfl, rfl⟩ := this
  exact e
section
variable {S S1 : Store} {dn dt dr dl ds du : D}
theorem ld1 (n : Nat) {x : Exn} (hn : Av S dn) (ht : Av S dt) (hr : Av S dr) (h : callN prog 0 n f_made_due_rows [dn, dt, dr] S = some (.exc x, S1)) :
    callN prog 0 (n + 1) f_due_load [dn, dt, dr, dl, ds, du] S = some (.exc x, S1) := by
  suffices hw : wp (callN prog 0 (n + 1) f_due_load [dn, dt, dr, dl, ds, du]) S (fun r T => r = .exc x ∧ T = S1) by
    obtain ⟨r, T, e, rfl, rfl⟩ := hw
    exact e
  refine wp_def (fd := d_due_load) rfl rfl ?_; simp only [d_due_load, b_due_load, argsL, List.map_cons, List.map_nil, List.replicate, List.cons_append, List.nil_append, List.append_nil, Nat.sub_self, List.length_cons, List.length_nil, Nat.reduceAdd, Nat.reduceSub, List.replicate_succ, List.replicate_zero]
  simp_arith [av_nc hn, av_nc ht, av_nc hr, wp_of_eq2 h]
theorem ld2 (n : Nat) {x : Exn} {v : D} (hn : Av S dn) (ht : Av S dt) (hr : Av S dr) (hl : Av S dl) (h : callN prog 0 n f_made_due_rows [dn, dt, dr] S = some (.val v, S1)) (h2 : callN prog 0 n f_asked_lot [dn, dl] S1 = some (.exc x, S1)) :
    callN prog 0 (n + 1) f_due_load [dn, dt, dr, dl, ds, du] S = some (.exc x, S1) := by
  suffices hw : wp (callN prog 0 (n + 1) f_due_load [dn, dt, dr, dl, ds, du]) S (fun r T => r = .exc x ∧ T = S1) by
    obtain ⟨r, T, e, rfl, rfl⟩ := hw
    exact e
  refine wp_def (fd := d_due_load) rfl rfl ?_; simp only [d_due_load, b_due_load, argsL, List.map_cons, List.map_nil, List.replicate, List.cons_append, List.nil_append, List.append_nil, Nat.sub_self, List.length_cons, List.length_nil, Nat.reduceAdd, Nat.reduceSub, List.replicate_succ, List.replicate_zero]
  simp_arith [av_nc hn, av_nc ht, av_nc hr, av_nc hl, wp_of_eq2 h, wp_of_eq h2]
theorem ld3 (n : Nat) {v : D} (hn : Av S dn) (ht : Av S dt) (hr : Av S dr) (hl : Av S dl) (hs : ∀ S, Av S ds) (h : callN prog 0 (n + 1) f_made_due_rows [dn, dt, dr] S = some (.val v, S1)) (h2 : callN prog 0 (n + 1) f_asked_lot [dn, dl] S1 = some (.val .non, S1)) (h3 : wholeB ds 0 1000000 = false) :
    callN prog 0 (n + 2) f_due_load [dn, dt, dr, dl, ds, du] S = some (.exc ⟨13, ds⟩, S1) := by
  suffices hw : wp (callN prog 0 (n + 2) f_due_load [dn, dt, dr, dl, ds, du]) S (fun r T => r = .exc ⟨13, ds⟩ ∧ T = S1) by
    obtain ⟨r, T, e, rfl, rfl⟩ := hw
    exact e
  refine wp_def (fd := d_due_load) rfl rfl ?_; simp only [d_due_load, b_due_load, argsL, List.map_cons, List.map_nil, List.replicate, List.cons_append, List.nil_append, List.append_nil, Nat.sub_self, List.length_cons, List.length_nil, Nat.reduceAdd, Nat.reduceSub, List.replicate_succ, List.replicate_zero]
  simp_arith [av_nc hn, av_nc ht, av_nc hr, av_nc hl, av_nc (hs S1), wp_of_eq2 h, wp_of_eq h2, wp_of_eq (aslot_eq n (hs S1)), h3]
theorem ld4 (n : Nat) {v : D} (hn : Av S dn) (ht : Av S dt) (hr : Av S dr) (hl : Av S dl) (hs : ∀ S, Av S ds) (hu : ∀ S, Av S du) (h : callN prog 0 (n + 1) f_made_due_rows [dn, dt, dr] S = some (.val v, S1)) (h2 : callN prog 0 (n + 1) f_asked_lot [dn, dl] S1 = some (.val .non, S1)) (h3 : wholeB ds 0 1000000 = true) (h4 : wholeB du 0 2000000 = false) :
    callN prog 0 (n + 2) f_due_load [dn, dt, dr, dl, ds, du] S = some (.exc ⟨59, du⟩, S1) := by
  suffices hw : wp (callN prog 0 (n + 2) f_due_load [dn, dt, dr, dl, ds, du]) S (fun r T => r = .exc ⟨59, du⟩ ∧ T = S1) by
    obtain ⟨r, T, e, rfl, rfl⟩ := hw
    exact e
  refine wp_def (fd := d_due_load) rfl rfl ?_; simp only [d_due_load, b_due_load, argsL, List.map_cons, List.map_nil, List.replicate, List.cons_append, List.nil_append, List.append_nil, Nat.sub_self, List.length_cons, List.length_nil, Nat.reduceAdd, Nat.reduceSub, List.replicate_succ, List.replicate_zero]
  simp_arith [av_nc hn, av_nc ht, av_nc hr, av_nc hl, av_nc (hs S1), av_nc (hu S1), wp_of_eq2 h, wp_of_eq h2, wp_of_eq (aslot_eq n (hs S1)), wp_of_eq (whole_eq (n + 1) (hu S1)), h3, h4]
theorem ld5 (n : Nat) {v x : D} {S2 : Store} (hn : Av S dn) (ht : ∀ S, Av S dt) (hr : ∀ S, Av S dr) (hl : ∀ S, Av S dl) (hs : ∀ S, Av S ds) (hu : ∀ S, Av S du) (h : callN prog 0 (n + 1) f_made_due_rows [dn, dt, dr] S = some (.val v, S1)) (h2 : callN prog 0 (n + 1) f_asked_lot [dn, dl] S1 = some (.val .non, S1)) (h3 : wholeB ds 0 1000000 = true) (h4 : wholeB du 0 2000000 = true)
    (h5 : callN prog 0 (n + 1) f_load_due [dt, dr, dl, ds, du] S1 = some (.val x, S2)) :
    callN prog 0 (n + 2) f_due_load [dn, dt, dr, dl, ds, du] S = some (.val x, S2) := by
  suffices hw : wp (callN prog 0 (n + 2) f_due_load [dn, dt, dr, dl, ds, du]) S (fun r T => r = .val x ∧ T = S2) by
    obtain ⟨r, T, e, rfl, rfl⟩ := hw
    exact e
  refine wp_def (fd := d_due_load) rfl rfl ?_; simp only [d_due_load, b_due_load, argsL, List.map_cons, List.map_nil, List.replicate, List.cons_append, List.nil_append, List.append_nil, Nat.sub_self, List.length_cons, List.length_nil, Nat.reduceAdd, Nat.reduceSub, List.replicate_succ, List.replicate_zero]
  simp_arith [av_nc hn, av_nc (ht S), av_nc (hr S), av_nc (hl S), av_nc (ht S1), av_nc (hr S1), av_nc (hl S1), av_nc (hs S1), av_nc (hu S1), wp_of_eq2 h, wp_of_eq h2, wp_of_eq (aslot_eq n (hs S1)), wp_of_eq (whole_eq (n + 1) (hu S1)), h3, h4, wp_of_eq2 h5]
end
/-! ### the law's own look -/
section
variable {S S1 : Store} {dn dt dr dl ds du w : D} {nm : Str}
theorem la1 (n : Nat) (hn : Av S dn) (ht : Av S dt) (hr : Av S dr) (hl : Av S dl) (hs : Av S ds) (hu : Av S du) (hw : pvB 3 w = true)
    (h1 : callN prog 0 (n + 9) f_law_head_wrong [dn, dt, dr] S = some (.val (.tup [.str nm, w]), S)) (h9 : callN prog 0 (n + 9) f_law_heard [.clo f_law_load_asked 0 [some dn, some dt, some dr, some dl, some ds, some du]] S = some (.val (.tup [.str nm, w]), S1)) :
    callN prog 0 (n + 10) f_law_load_asked [dn, dt, dr, dl, ds, du] S = some (.val (.bl true), S1) := by
  have hc : (orcN prog 0 (n + 10) f_law_load_asked).caps 0 = [0, 1, 2, 3, 4, 5] := rfl
  have hm : (orcN prog 0 (n + 10) f_law_load_asked).me = f_law_load_asked := rfl
  suffices hw : wp (callN prog 0 (n + 10) f_law_load_asked [dn, dt, dr, dl, ds, du]) S (fun r T => r = .val (.bl true) ∧ T = S1) by
    obtain ⟨r, T, e, rfl, rfl⟩ := hw
    exact e
  have hv : pvB 5 (.tup [.str nm, w]) = true := by
    have : pvB 4 w = true := pv_up hw
    simp [pvB, this]
  refine wp_def (fd := d_law_load_asked) rfl rfl ?_; simp only [d_law_load_asked, b_law_load_asked, argsL, List.map_cons, List.map_nil, List.replicate, List.cons_append, List.nil_append, List.append_nil, Nat.sub_self, List.length_cons, List.length_nil, Nat.reduceAdd, Nat.reduceSub, List.replicate_succ, List.replicate_zero]
  simp_arith [hc, hm, restrict, List.map_cons, List.map_nil, av_nc hn, av_nc ht, av_nc hr, av_nc hl, av_nc hs, av_nc hu, wp_of_eq h1, wp_of_eq2 h9, wp_of_eq (same_refl 5 _ hv (n + 4) _)]
theorem la2 (n : Nat) (hn : Av S dn) (ht : Av S dt) (hr : Av S dr) (hl : Av S dl) (hs : Av S ds) (hu : Av S du) (hw : pvB 3 w = true)
    (h1 : callN prog 0 (n + 9) f_law_head_wrong [dn, dt, dr] S = some (.val .non, S)) (h2 : callN prog 0 (n + 9) f_law_wrong_lot [dn, dl] S = some (.val (.tup [.str nm, w]), S))
    (h9 : callN prog 0 (n + 9) f_law_heard [.clo f_law_load_asked 0 [some dn, some dt, some dr, some dl, some ds, some du]] S = some (.val (.tup [.str nm, w]), S1)) :
    callN prog 0 (n + 10) f_law_load_asked [dn, dt, dr, dl, ds, du] S = some (.val (.bl true), S1) := by
  have hc : (orcN prog 0 (n + 10) f_law_load_asked).caps 0 = [0, 1, 2, 3, 4, 5] := rfl
  have hm : (orcN prog 0 (n + 10) f_law_load_asked).me = f_law_load_asked := rfl
  suffices hw : wp (callN prog 0 (n + 10) f_law_load_asked [dn, dt, dr, dl, ds, du]) S (fun r T => r = .val (.bl true) ∧ T = S1) by
    obtain ⟨r, T, e, rfl, rfl⟩ := hw
    exact e
  have hv : pvB 5 (.tup [.str nm, w]) = true := by
    have : pvB 4 w = true := pv_up hw
    simp [pvB, this]
  refine wp_def (fd := d_law_load_asked) rfl rfl ?_; simp only [d_law_load_asked, b_law_load_asked, argsL, List.map_cons, List.map_nil, List.replicate, List.cons_append, List.nil_append, List.append_nil, Nat.sub_self, List.length_cons, List.length_nil, Nat.reduceAdd, Nat.reduceSub, List.replicate_succ, List.replicate_zero]
  simp_arith [hc, hm, restrict, List.map_cons, List.map_nil, av_nc hn, av_nc ht, av_nc hr, av_nc hl, av_nc hs, av_nc hu, wp_of_eq h1, wp_of_eq h2, wp_of_eq2 h9, wp_of_eq (same_refl 5 _ hv (n + 4) _)]
theorem la3 (n : Nat) (hn : Av S dn) (ht : Av S dt) (hr : Av S dr) (hl : Av S dl) (hs : Av S ds) (hu : Av S du) (hw : pvB 3 w = true)
    (h1 : callN prog 0 (n + 9) f_law_head_wrong [dn, dt, dr] S = some (.val .non, S)) (h2 : callN prog 0 (n + 9) f_law_wrong_lot [dn, dl] S = some (.val .non, S)) (h3 : callN prog 0 (n + 9) f_law_wrong_slot [ds] S = some (.val (.tup [.str nm, w]), S))
    (h9 : callN prog 0 (n + 9) f_law_heard [.clo f_law_load_asked 0 [some dn, some dt, some dr, some dl, some ds, some du]] S = some (.val (.tup [.str nm, w]), S1)) :
    callN prog 0 (n + 10) f_law_load_asked [dn, dt, dr, dl, ds, du] S = some (.val (.bl true), S1) := by
  have hc : (orcN prog 0 (n + 10) f_law_load_asked).caps 0 = [0, 1, 2, 3, 4, 5] := rfl
  have hm : (orcN prog 0 (n + 10) f_law_load_asked).me = f_law_load_asked := rfl
  suffices hw : wp (callN prog 0 (n + 10) f_law_load_asked [dn, dt, dr, dl, ds, du]) S (fun r T => r = .val (.bl true) ∧ T = S1) by
    obtain ⟨r, T, e, rfl, rfl⟩ := hw
    exact e
  have hv : pvB 5 (.tup [.str nm, w]) = true := by
    have : pvB 4 w = true := pv_up hw
    simp [pvB, this]
  refine wp_def (fd := d_law_load_asked) rfl rfl ?_; simp only [d_law_load_asked, b_law_load_asked, argsL, List.map_cons, List.map_nil, List.replicate, List.cons_append, List.nil_append, List.append_nil, Nat.sub_self, List.length_cons, List.length_nil, Nat.reduceAdd, Nat.reduceSub, List.replicate_succ, List.replicate_zero]
  simp_arith [hc, hm, restrict, List.map_cons, List.map_nil, av_nc hn, av_nc ht, av_nc hr, av_nc hl, av_nc hs, av_nc hu, wp_of_eq h1, wp_of_eq h2, wp_of_eq h3, wp_of_eq2 h9, wp_of_eq (same_refl 5 _ hv (n + 4) _)]
theorem la4 (n : Nat) (hn : Av S dn) (ht : Av S dt) (hr : Av S dr) (hl : Av S dl) (hs : Av S ds) (hu : Av S du) (hw : pvB 3 w = true)
    (h1 : callN prog 0 (n + 9) f_law_head_wrong [dn, dt, dr] S = some (.val .non, S)) (h2 : callN prog 0 (n + 9) f_law_wrong_lot [dn, dl] S = some (.val .non, S)) (h3 : callN prog 0 (n + 9) f_law_wrong_slot [ds] S = some (.val .non, S))
    (h4 : callN prog 0 (n + 9) f_law_wrong_many [du, .int 0, .int 2000000] S = some (.val (.tup [.str nm, w]), S))
    (h9 : callN prog 0 (n + 9) f_law_heard [.clo f_law_load_asked 0 [some dn, some dt, some dr, some dl, some ds, some du]] S = some (.val (.tup [.str nm, w]), S1)) :
    callN prog 0 (n + 10) f_law_load_asked [dn, dt, dr, dl, ds, du] S = some (.val (.bl true), S1) := by
  have hc : (orcN prog 0 (n + 10) f_law_load_asked).caps 0 = [0, 1, 2, 3, 4, 5] := rfl
  have hm : (orcN prog 0 (n + 10) f_law_load_asked).me = f_law_load_asked := rfl
  suffices hw : wp (callN prog 0 (n + 10) f_law_load_asked [dn, dt, dr, dl, ds, du]) S (fun r T => r = .val (.bl true) ∧ T = S1) by
    obtain ⟨r, T, e, rfl, rfl⟩ := hw
    exact e
  have hv : pvB 5 (.tup [.str nm, w]) = true := by
    have : pvB 4 w = true := pv_up hw
    simp [pvB, this]
  refine wp_def (fd := d_law_load_asked) rfl rfl ?_; simp only [d_law_load_asked, b_law_load_asked, argsL, List.map_cons, List.map_nil, List.replicate, List.cons_append, List.nil_append, List.append_nil, Nat.sub_self, List.length_cons, List.length_nil, Nat.reduceAdd, Nat.reduceSub, List.replicate_succ, List.replicate_zero]
  simp_arith [hc, hm, restrict, List.map_cons, List.map_nil, av_nc hn, av_nc ht, av_nc hr, av_nc hl, av_nc hs, av_nc hu, wp_of_eq h1, wp_of_eq h2, wp_of_eq h3]
  refine ⟨Or.inl (by omega), ?_⟩
  simp_arith [Int.reduceMul, hc, hm, restrict, List.map_cons, List.map_nil, av_nc hn, av_nc ht, av_nc hr, av_nc hl, av_nc hs, av_nc hu, wp_of_eq h4, wp_of_eq2 h9, wp_of_eq (same_refl 5 _ hv (n + 4) _)]
theorem la5 (n : Nat) {tsD lsD : List D} {ts ls : List Int} {k : Int} (hts : tsD = ts.map .int) (hls : lsD = ls.map .int) (hll : ls.length ≤ 1000000) (hn : ∀ S, Av S dn) (ht : ∀ S, Av S (.tup tsD)) (hr : ∀ S, Av S dr) (hl : ∀ S, Av S (.tup lsD)) (hs : ∀ S, Av S ds) (hu : ∀ S, Av S du)
    (h1 : callN prog 0 (n + 9) f_law_head_wrong [dn, .tup tsD, dr] S = some (.val .non, S)) (h2 : callN prog 0 (n + 9) f_law_wrong_lot [dn, .tup lsD] S = some (.val .non, S)) (h3 : callN prog 0 (n + 9) f_law_wrong_slot [ds] S = some (.val .non, S))
    (h4 : callN prog 0 (n + 9) f_law_wrong_many [du, .int 0, .int 2000000] S = some (.val .non, S))
    (h5 : ∀ S q, S[q]? = some (.lst ((ls.filter fun v => ts.contains v).map .int)) → ∃ T, callN prog 0 (n + 9) f_law_due_load_of [dr, .ref q, ds, du] S = some (.val (.int k), S ++ T))
    (h9 : ∀ S, ∃ T, callN prog 0 (n + 9) f_law_heard [.clo f_law_load_asked 0 [some dn, some (.tup tsD), some dr, some (.tup lsD), some ds, some du]] S = some (.val (.tup [.str (Str.ofString "told"), .int k]), S ++ T)) :
    ∃ T, callN prog 0 (n + 10) f_law_load_asked [dn, .tup tsD, dr, .tup lsD, ds, du] S = some (.val (.bl true), S ++ T) := by
  have hc : (orcN prog 0 (n + 10) f_law_load_asked).caps 0 = [0, 1, 2, 3, 4, 5] := rfl
  have hm : (orcN prog 0 (n + 10) f_law_load_asked).me = f_law_load_asked := rfl
  suffices hw : wp (callN prog 0 (n + 10) f_law_load_asked [dn, .tup tsD, dr, .tup lsD, ds, du]) S (fun r T' => r = .val (.bl true) ∧ ∃ T, T' = S ++ T) by
    obtain ⟨r, T', e, rfl, T, rfl⟩ := hw
    exact ⟨T, e⟩
  obtain ⟨T1, e5⟩ := h5 (S ++ [.lst ((ls.filter fun v => ts.contains v).map .int)]) S.length get_new
  obtain ⟨T2, e9⟩ := h9 (S ++ [.lst ((ls.filter fun v => ts.contains v).map .int)] ++ T1)
  have hv : pvB 5 (.tup [.str (Str.ofString "told"), .int k]) = true := rfl
  refine wp_def (fd := d_law_load_asked) rfl rfl ?_; simp only [d_law_load_asked, b_law_load_asked, argsL, List.map_cons, List.map_nil, List.replicate, List.cons_append, List.nil_append, List.append_nil, Nat.sub_self, List.length_cons, List.length_nil, Nat.reduceAdd, Nat.reduceSub, List.replicate_succ, List.replicate_zero]
  simp_arith [hc, hm, restrict, List.map_cons, List.map_nil, av_nc (hn S), av_nc (hr S), av_nc (hs S), av_nc (hu S), wp_of_eq h1, wp_of_eq h2, wp_of_eq h3]
  refine ⟨Or.inl (by omega), ?_⟩
  simp_arith [hc, hm, restrict, List.map_cons, List.map_nil, av_nc (hn S), av_nc (hr S), av_nc (hs S), av_nc (hu S), Int.reduceMul, wp_of_eq h4]
  refine ⟨by rw [hls]; simp; exact hll, wp_noX ?_⟩
  rw [wp_of_eq (cmp_det (fun d => match d with | .int v => if ts.contains v = true then some (.int v) else none | _ => none) rfl _ ?_)]
  · have hf : lsD.filterMap (fun d => match d with | .int v => if ts.contains v = true then some (D.int v) else none | _ => none) = (ls.filter fun v => ts.contains v).map .int := by
      rw [hls]
      exact fm_flt _ _ _ _ _ fun v hv => by simp only
    rw [hf]
    simp_arith [hc, hm, restrict, List.map_cons, List.map_nil, av_nc (hn S), av_nc (hr S), av_nc (hs S), av_nc (hu S), wp_of_eq2 e5, wp_of_eq2 e9, wp_of_eq (same_refl 5 _ hv (n + 4) _)]
    exact ⟨trivial, _, by simp only [List.append_assoc]; rfl⟩
  · intro d hd
    rw [hls] at hd
    obtain ⟨v, -, rfl⟩ := List.mem_map.1 hd
    apply eq_of_wp
    simp_arith [wipeL, List.foldr, hts]
    cases ts.contains v <;> simp_arith []
end
theorem lasked_eq (n : Nat) {S : Store} {dn dt dr dl ds du : D} (hn : pvB 3 dn = true) (ht : Av S dt) (hr : Av S dr) (hl : Av S dl) (hs : pvB 3 ds = true) (hu : pvB 3 du = true) (zt : small dt) (zl : small dl) :
    ∃ T, callN prog 0 (n + 10) f_law_load_asked [dn, dt, dr, dl, ds, du] S = some (.val (.bl true), S ++ T) := by
  have hn' : ∀ S, Av S dn := fun S => pv_av hn
  have hs' : ∀ S, Av S ds := fun S => pv_av hs
  have hu' : ∀ S, Av S du := fun S => pv_av hu
  rcases head_cases hn ht hr zt with ⟨c, w, nm, hk, hpw, H⟩ | ⟨N, ts, rs, rfl, rfl, rfl, hlen, hup, H⟩
  · obtain ⟨T, h2⟩ := (H (n + 4) S ht hr).2
    exact ⟨T, la1 n (hn' S) ht hr hl (hs' S) (hu' S) hpw (H (n + 5) S ht hr).1 (heard_exc2 (n + 8) _ 0 _ _ _ c w nm (lam_load (n + 7) (hn' S) ht hr hl (hs' S) (hu' S) (ld1 (n + 6) (hn' S) ht hr h2)) hk)⟩
  · have hrA : ∀ S, Av S (.tup (rs.map row4)) := fun S => rows_av
    have htA : ∀ S, Av S (.tup (ts.map .int)) := fun S => lot_av
    have hl' : ∀ T, Av (S ++ T) dl := fun T => av_mon (app_mon T) hl
    have h1 := (H (n + 5) S ht hr).1
    obtain ⟨T, h2⟩ := (H (n + 4) S ht hr).2
    have e2 := wlot_eq (n + 7) (N := N) hl zl
    have a2 := lot_eq (n + 5) (N := N) (hl' T)
    rcases wlot_cases (N := N) (d := dl) with h3 | ⟨i, h3, h3'⟩
    · obtain ⟨ls, rfl, hb⟩ := wlot_non h3
      have hlA : ∀ S, Av S (.tup (ls.map .int)) := fun S => lot_av
      rw [h3] at e2
      have hlx : lotX N (.tup (ls.map .int)) = .val .non := by simp only [lotX, hb]
      rw [hlx] at a2
      have e3 := wslot_eq (n + 7) (S := S) (hs' S)
      cases h4 : wholeB ds 0 1000000 with
      | false =>
        rw [h4] at e3
        exact ⟨T, la3 n (hn' S) ht hr hl (hs' S) (hu' S) hs h1 e2 e3 (heard_exc2 (n + 8) _ 0 _ _ _ 13 _ _ (lam_load (n + 7) (hn' S) ht hr hl (hs' S) (hu' S) (ld3 (n + 5) (hn' S) ht hr hl hs' h2 a2 h4)) (Or.inr (Or.inr (Or.inr (Or.inr rfl)))))⟩
      | true =>
        rw [h4] at e3
        have e4 := wmany_eq (n + 7) (S := S) (lo := 0) (hi := 2000000) (hu' S)
        cases h5 : wholeB du 0 2000000 with
        | false =>
          rw [h5] at e4
          exact ⟨T, la4 n (hn' S) ht hr hl (hs' S) (hu' S) hu h1 e2 e3 e4 (heard_exc2 (n + 8) _ 0 _ _ _ 59 _ _ (lam_load (n + 7) (hn' S) ht hr hl (hs' S) (hu' S) (ld4 (n + 5) (hn' S) ht hr hl hs' hu' h2 a2 h4 h5)) (Or.inl rfl))⟩
        | true =>
          rw [h5] at e4
          obtain ⟨s, rfl, -, -⟩ := wholeB_int h4
          obtain ⟨u, rfl, -, -⟩ := wholeB_int h5
          refine la5 n (k := loadOf rs fun r => ls.contains r.2.1 && (ts.contains r.2.1 && (decide (s ≤ r.1) && decide (r.2.2.1 ≤ u)))) rfl rfl (by have := zl _ rfl; simpa using this) hn' htA hrA hlA hs' hu' h1 e2 e3 e4 ?_ ?_
          · intro S q hq
            have := loadof_eq (n + 9) (S := S) (rs := rs) (s := s) (u := u) hlen hq
            rw [load_same] at this
            exact this
          · intro S
            obtain ⟨T, h2⟩ := (H (n + 4) S (htA S) (hrA S)).2
            have a2 := lot_eq (n + 5) (N := N) (hlA (S ++ T))
            rw [hlx] at a2
            obtain ⟨T2, h6⟩ := load_eq (n + 6) (S := S ++ T) (ts := ts) (ls := ls) (rs := rs) (s := s) (u := u) hlen
            refine ⟨T ++ T2, ?_⟩
            rw [← List.append_assoc]
            exact heard_val (n + 8) _ 0 _ _ _ _ (lam_load (n + 7) (hn' S) (htA S) (hrA S) (hlA S) (hs' S) (hu' S) (ld5 (n + 5) (hn' S) htA hrA hlA hs' hu' h2 a2 h4 h5 h6))
    · rw [h3] at e2
      rw [h3'] at a2
      exact ⟨T, la2 n (hn' S) ht hr hl (hs' S) (hu' S) rfl h1 e2 (heard_exc2 (n + 8) _ 0 _ _ _ 8 _ _ (lam_load (n + 7) (hn' S) ht hr hl (hs' S) (hu' S) (ld2 (n + 6) (hn' S) ht hr hl h2 a2)) (Or.inr (Or.inl rfl)))⟩
end K03
set_option linter.all false
set_option autoImplicit false
set_option maxRecDepth 100000
namespace K03
open Sim
open PySem (Str PyData)
/-- the rows of the dict, sorted: the end of law_drawn_due_rows -/
theorem law_drawn_due_rows_end (n : Nat) (a0 a1 a2 a3 a5 a6 a7 a8 a9 a10 a11 : Option D) {S : Store} {J q : Nat} {ps : List ((Int × Int × Int) × Int)} (hJ : JarAt S J) (hq : S[q]? = some (.dct (ps.map kvT) false)) (hl : ps.length < 64) :
    wr (evSs (orcN prog 0 n f_law_drawn_due_rows) 0 (.cons (.ret (.bi .tuple (.cons (.comp [11] (.bin .add (.var 11) (.tup (.cons (.sub (.var 4) (.var 11)) .nil))) (.name 11) (.seq (.bi .sorted (.cons (.var 4) .nil))) .nil) .nil))) .nil) [a0, a1, a2, a3, some (.ref q), a5, a6, a7, a8, a9, a10, a11] S)
      (fin (thn (β := D) (fun _ _ => False) fun v S' => (∃ rs : List (Int × Int × Int × Int), v = .tup (rs.map row4) ∧ rs.length = ps.length) ∧ Fj J S S')) := by
  obtain ⟨m, hm, hml, hsort⟩ := sort3 hq (by omega)
  simp_arith [wp_of_eq2 hsort, seq_L get_new]
  refine ⟨by omega, ?_⟩
  refine wp_noX (wp_wv (wv_cmp (Inv := fun r T => T = S ++ [.lst m] ∧ ∀ d ∈ r, d ∈ m) (G := fun d y => ∃ p, y = some (row4 p)) ?_ ?_ _ _ ⟨rfl, fun _ h => h⟩) ?_)
  · rintro r T ⟨rfl, -⟩
    exact still_at get_new
  · rintro d r T ⟨rfl, hd⟩
    obtain ⟨a, b, c, e, rfl, hlook⟩ := look3 ps d (hm d (hd _ (List.mem_cons_self ..)))
    refine wv_wp ?_
    simp_arith [wipeL, List.foldr, sub_D3 (get_app hq) hlook, List.cons_append, List.nil_append]
    exact ⟨by simp [LIM], ⟨(a, b, c, e), rfl⟩, trivial, fun d h => hd d (List.mem_cons_of_mem _ h)⟩
  · rintro v T ⟨⟨rfl, -⟩, yos, hlen, hz, rfl⟩
    have : ∃ rs : List (Int × Int × Int × Int), yos.filterMap id = rs.map row4 ∧ rs.length = yos.length := by
      clear hsort hm hml
      induction yos generalizing m with
      | nil => exact ⟨[], rfl, rfl⟩
      | cons y yos ih =>
        cases m with
        | nil => simp at hlen
        | cons d m =>
          obtain ⟨rs, h1, h2⟩ := ih m (by simpa using hlen) (fun p hp => hz p (by simp only [List.zip_cons_cons, List.mem_cons]; exact Or.inr hp))
          obtain ⟨p, hp⟩ := hz (d, y) (by simp)
          simp only at hp
          exact ⟨p :: rs, by rw [hp]; simp [h1], by simp [h2]⟩
    obtain ⟨rs, h1, h2⟩ := this
    rw [h1]
    simp_arith [bi_tupL get_new]
    exact ⟨⟨rs, rfl, by omega⟩, fj_trans (fj_app hJ) (fj_app (jar_app hJ))⟩
/-- rows of numbers -/
def Rows (N : Int) (v : D) : Prop := ∃ rs : List (Int × Int × Int × Int), v = .tup (rs.map row4) ∧ rs.length ≤ 24 ∧ (rs ≠ [] → 0 < N)
theorem drawn_spec (n : Nat) {S0 : Store} {J : Nat} {N : Int} {ts : List Int} {M : Nat} (hM : M ≤ 20) (h : JarAt S0 J) (h0 : 0 ≤ N) (h1 : N ≤ 24) :
    wv (callN prog 0 (n + 3) f_law_drawn_due_rows [.ref J, .int N, .tup (ts.map .int), .int (M : Int)]) S0 (fun v S' => Rows N v ∧ Fj J S0 S') := by
  apply wv_wp
  refine wp_def (fd := d_law_drawn_due_rows) rfl rfl ?_; simp only [d_law_drawn_due_rows, b_law_drawn_due_rows, argsL, List.map_cons, List.map_nil, List.replicate, List.cons_append, List.nil_append, List.append_nil, Nat.sub_self, List.length_cons, List.length_nil, Nat.reduceAdd, Nat.reduceSub, List.replicate_succ, List.replicate_zero]
  simp_arith [List.isEmpty_nil]
  have hrange : wp (evE (orcN prog 0 (n + 3) f_law_drawn_due_rows) (.ite (.cmp .gt (.var 1) (.int 0)) (.var 3) (.int 0)) [some (.ref J), some (.int N), some (.tup (ts.map .int)), some (.int (M : Int)), some (.ref S0.length), some (.tup [.int 0, .int 0]), none, none, none, none, none, none]) (S0 ++ [.dct [] false]) (fun r S1 => S1 = S0 ++ [.dct [] false] ∧ ∃ k : Nat, r = .val (.int k) ∧ k ≤ M ∧ (0 < k → 0 < N)) := by
    simp_arith []
    by_cases hN : 0 < N
    · simp_arith [hN]; exact ⟨trivial, M, rfl, by omega, fun _ => trivial⟩
    · simp_arith [hN]; exact ⟨trivial, 0, rfl, by omega, by simp⟩
  simp_arith [] at hrange
  refine wp_mono hrange ?_
  rintro _ _ ⟨rfl, k, rfl, hk8, hkN⟩
  simp_arith []
  refine ⟨by simp [small62]; omega, ?_⟩
  have hz : ((k : Int)).toNat = k := by simp
  rw [hz]
  refine wr_for (Inv := fun r L S1 => (r ≠ [] → 0 < N) ∧ Fj J S0 S1 ∧ ∃ (x y : Int) (a6 a7 a8 a9 a10 : Option D) (ps : List ((Int × Int × Int) × Int)), L = [some (.ref J), some (.int N), some (.tup (ts.map .int)), some (.int (M : Int)), some (.ref S0.length), some (.tup [.int x, .int y]), a6, a7, a8, a9, a10, none] ∧
      S1[S0.length]? = some (.dct (ps.map kvT) false) ∧ ps.length + r.length ≤ M ∧ (ps ≠ [] → 0 < N)) ?_ ?_ ?_ _ _ _ ?_
  · intros; rfl
  · rintro d r L S1 ⟨hN, hF, x, y, a6, a7, a8, a9, a10, ps, rfl, hq, hps, hpN⟩
    have hN := hN (by simp)
    simp_arith []
    refine wp_wv (take_spec _ hF.1 (by omega) (by omega)) ?_
    rintro v S2 ⟨k1, rfl, -, -, hF2⟩
    simp_arith []
    refine wp_join (fun v S' => ∃ k : Int, v = .int k ∧ Fj J S2 S') ?_ ?_ ?_
    · intro _
      simp_arith []
      refine wp_wv (take_spec _ hF2.1 (by omega) (by omega)) ?_
      rintro v S3 ⟨k, rfl, -, -, hF3⟩
      exact ⟨k, rfl, hF3⟩
    · intro _
      simp_arith []
      refine wp_wv (take_spec _ hF2.1 (by omega) (by omega)) ?_
      rintro v S3 ⟨k, rfl, -, -, hF3⟩
      exact ⟨k, rfl, hF3⟩
    rintro v S3 ⟨slot, rfl, hF3⟩
    simp_arith []
    refine wp_wv (take_spec _ hF3.1 (by omega) (by omega)) ?_
    rintro v S4 ⟨st, rfl, -, -, hF4⟩
    simp_arith []
    refine wp_wv (one_lit _ isI hF4.1 (by simp) (by simp) (by simp [isI])) ?_
    rintro v S5 ⟨⟨cars, rfl⟩, hF5⟩
    simp_arith [List.isEmpty_nil]
    refine wp_wv (take_spec _ hF5.1 (by omega) (by omega)) ?_
    rintro v S6 ⟨k4, rfl, -, -, hF6⟩
    simp_arith []
    have hF6' := fj_trans hF2 (fj_trans hF3 (fj_trans hF4 (fj_trans hF5 hF6)))
    have hq6 := hF6'.2 _ (jar_ne h) _ hq
    refine wr_join (fun L S => S = S6 ∧ ∃ a b : Int, L = [some (.ref J), some (.int N), some (.tup (ts.map .int)), some (.int (M : Int)), some (.ref S0.length), some (.tup [.int x, .int y]), some d, some (.int a), some (.int b), some (.int cars), a10, none]) ?_ ?_ ?_
    · intro _
      simp_arith [List.isEmpty_nil]
      exact ⟨trivial, _, _, rfl⟩
    · intro _
      simp_arith []
      exact ⟨trivial, _, _, rfl⟩
    rintro L S7 ⟨rfl, a, b, rfl⟩
    simp_arith [List.isEmpty_nil]
    refine wr_join (fun L S' => Fj J S7 S' ∧ ∃ e : Int, L = [some (.ref J), some (.int N), some (.tup (ts.map .int)), some (.int (M : Int)), some (.ref S0.length), some (.tup [.int a, .int b]), some d, some (.int a), some (.int b), some (.int cars), some (.int e), none]) ?_ ?_ ?_
    · intro _
      simp_arith []
      refine wp_wv (take_spec _ hF6.1 (by omega) (by omega)) ?_
      rintro v S8 ⟨k5, rfl, -, -, hF8⟩
      simp_arith []
      refine wp_wv (one_lit _ isI hF8.1 (by simp) (by simp) (by simp [isI])) ?_
      rintro v S9 ⟨⟨dd, rfl⟩, hF9⟩
      simp_arith []
      exact ⟨fj_trans hF8 hF9, _, rfl⟩
    · intro _
      simp_arith []
      exact ⟨fj_refl hF6.1, _, rfl⟩
    rintro L S8 ⟨hF8, e, rfl⟩
    simp_arith []
    refine wp_noX ?_
    have hq8 := hF8.2 _ (jar_ne h) _ hq6
    simp only [List.length_cons] at hps
    simp_arith [set_D3 hq8 (by omega)]
    obtain ⟨qs, hqs, hql⟩ := put3 a b e cars ps
    rw [hqs]
    refine ⟨fun _ => hN, fj_set (fj_trans hF (fj_trans hF6' hF8)) (Nat.le_refl _) (jar_ne h), _, _, _, _, _, _, _, qs, rfl, ?_, by omega, fun _ => hN⟩
    rw [List.getElem?_set_self]
    exact (List.getElem?_eq_some_iff.1 hq8).1
  · rintro L S1 ⟨hN, hF, x, y, a6, a7, a8, a9, a10, ps, rfl, hq, hps, hpN⟩
    refine wr_mono (law_drawn_due_rows_end (n + 3) _ _ _ _ _ _ _ _ _ _ _ hF.1 hq (by omega)) ?_
    rintro o L S2 hh
    cases o with
    | ret d =>
      obtain ⟨⟨rs, rfl, hrs⟩, hG⟩ := hh
      exact ⟨⟨rs, rfl, by simp at hps; omega, fun h => hpN (by rintro rfl; exact h (List.length_eq_zero_iff.1 hrs))⟩, fj_trans hF hG⟩
    | nx => obtain ⟨⟨rs, h, -⟩, -⟩ := hh; cases h
    | bk => exact hh.elim
    | ct => exact hh.elim
    | exc x => exact hh.elim
  · refine ⟨?_, fj_app h, 0, 0, none, none, none, none, none, [], rfl, get_new, by simp [rngL_len]; omega, by simp⟩
    intro hr
    refine hkN ?_
    cases k with
    | zero => exact absurd rfl hr
    | succ k => omega
theorem one_tup (n : Nat) {S : Store} {J : Nat} {l : List D} (h : JarAt S J) (h0 : l ≠ []) (h1 : l.length < 1000000) :
    wv (callN prog 0 (n + 1) f_law_one [.ref J, .tup l]) S (fun v S' => v ∈ l ∧ Fj J S S') := by
  apply wv_wp
  refine wp_def (fd := d_law_one) rfl rfl ?_; simp only [d_law_one, b_law_one, argsL, List.map_cons, List.map_nil, List.replicate, List.cons_append, List.nil_append, List.append_nil, Nat.sub_self, List.length_cons, List.length_nil, Nat.reduceAdd, Nat.reduceSub, List.replicate_succ, List.replicate_zero]
  simp_arith []
  have : 0 < l.length := List.length_pos_iff.2 h0
  refine wp_wv (take_spec n h (by omega) (by omega)) ?_
  rintro v S1 ⟨k, rfl, hk0, hk1, hF⟩
  obtain ⟨j, rfl⟩ := Int.eq_ofNat_of_zero_le hk0
  have hj : j < l.length := by omega
  simp_arith [sub_T (ixN_nat hj) (List.getElem?_eq_getElem hj)]
  exact ⟨List.getElem_mem _, hF⟩
theorem dmake2 {S : Store} (a b c e a' b' c' e' : Int) : ∃ qs : List ((Int × Int × Int) × Int), qs.length ≤ 2 ∧ dMake [.tup [.int a, .int b, .int c], .int e, .tup [.int a', .int b', .int c'], .int e'] S = some (.val (.ref S.length), S ++ [.dct (qs.map kvT) false]) := by
  obtain ⟨q1, h1, l1⟩ := put3 a b c e []
  obtain ⟨q2, h2, l2⟩ := put3 a' b' c' e' q1
  refine ⟨q2, by simp at l1; omega, ?_⟩
  have hp : pairsL [D.tup [.int a, .int b, .int c], .int e, .tup [.int a', .int b', .int c'], .int e'] = some [(.tup [.int a, .int b, .int c], .int e), (.tup [.int a', .int b', .int c'], .int e')] := rfl
  have hk : ((([(D.tup [.int a, .int b, .int c], D.int e), (D.tup [.int a', .int b', .int c'], D.int e')].all fun p => keyOk p.1) || ([(D.tup [.int a, .int b, .int c], D.int e), (D.tup [.int a', .int b', .int c'], D.int e')].all fun p => keyT p.1)) && ![(D.tup [.int a, .int b, .int c], D.int e), (D.tup [.int a', .int b', .int c'], D.int e')].isEmpty && decide ([(D.tup [.int a, .int b, .int c], D.int e), (D.tup [.int a', .int b', .int c'], D.int e')].length ≤ 15)) = true := rfl
  simp only [dMake, hp, hk, if_true, List.foldl_cons, List.foldl_nil, alloc]
  simp only [List.map_nil] at h1
  rw [h1, h2]
end K03
set_option linter.all false
set_option autoImplicit false
set_option maxRecDepth 100000
namespace K03
open Sim
open PySem (Str PyData)
theorem nmem_ints {ts : List Int} {v : Int} {S : Store} {Q : Ex D → Store → Prop} : wp (cmpD .nmem (.int v) (.tup (ts.map D.int))) S Q = Q (.val (.bl (!ts.contains v))) S := by
  have : cmpD .nmem (.int v) (.tup (ts.map D.int)) S = some (.val (.bl (!ts.contains v)), S) := by
    simp only [cmpD, memD, flat_ints, mem_any, flat, Bool.and_self, if_true, Option.map_some]
  exact propext ⟨(fun ⟨_, _, h, q⟩ => by rw [this] at h; cases h; exact q), fun q => ⟨_, _, this, q⟩⟩
/-- the rows of the dict that are near, sorted: the end of law_great_rows -/
theorem great_end (n : Nat) (a0 a1 a2 a3 a4 a5 a6 a8 a9 : Option D) {S : Store} {J q : Nat} {ps : List ((Int × Int × Int) × Int)} {Q : Ex D → Store → Prop} (hJ : JarAt S J) (hq : S[q]? = some (.dct (ps.map kvT) false)) (hl : ps.length < 64) (hQ : ∀ (rs : List (Int × Int × Int × Int)) S', rs.length ≤ ps.length → Fj J S S' → Q (.val (.tup (rs.map row4))) S') :
    wr (evSs (orcN prog 0 n f_law_great_rows) 0 (.cons (.ret (.bi .tuple (.cons (.comp [9] (.bin .add (.var 9) (.tup (.cons (.sub (.var 7) (.var 9)) .nil))) (.name 9) (.seq (.bi .sorted (.cons (.var 7) .nil))) (.cons (.and (.cons (.cmp .le (.sub (.var 9) (.int 0)) (.sub (.var 9) (.int 2))) (.cons (.cmp .le (.sub (.var 9) (.int 2)) (.bin .add (.sub (.var 9) (.int 0)) (.bin .pow (.int 10) (.int 6)))) .nil))) .nil)) .nil)))
  .nil) [a0, a1, a2, a3, a4, a5, a6, some (.ref q), a8, a9] S)
      (fin Q) := by
  suffices H : wr (evSs (orcN prog 0 n f_law_great_rows) 0 (.cons (.ret (.bi .tuple (.cons (.comp [9] (.bin .add (.var 9) (.tup (.cons (.sub (.var 7) (.var 9)) .nil))) (.name 9) (.seq (.bi .sorted (.cons (.var 7) .nil))) (.cons (.and (.cons (.cmp .le (.sub (.var 9) (.int 0)) (.sub (.var 9) (.int 2))) (.cons (.cmp .le (.sub (.var 9) (.int 2)) (.bin .add (.sub (.var 9) (.int 0)) (.bin .pow (.int 10) (.int 6)))) .nil))) .nil)) .nil)))
  .nil) [a0, a1, a2, a3, a4, a5, a6, some (.ref q), a8, a9] S) (fin (thn (β := D) (fun _ _ => False) fun v S' => (∃ rs : List (Int × Int × Int × Int), v = .tup (rs.map row4) ∧ rs.length ≤ ps.length) ∧ Fj J S S')) by
    refine wr_mono H ?_
    rintro o L S2 hh
    cases o with
    | ret d =>
      obtain ⟨⟨rs, rfl, hrs⟩, hG⟩ := hh
      exact hQ rs S2 hrs hG
    | nx => obtain ⟨⟨rs, h, -⟩, -⟩ := hh; cases h
    | bk => exact hh.elim
    | ct => exact hh.elim
    | exc x => exact hh.elim
  obtain ⟨m, hm, hml, hsort⟩ := sort3 hq (by omega)
  simp_arith [wp_of_eq2 hsort, seq_L get_new]
  refine ⟨by omega, ?_⟩
  refine wp_noX (wp_wv (wv_cmp (Inv := fun r T => T = S ++ [.lst m] ∧ ∀ d ∈ r, d ∈ m) (G := fun d y => y = none ∨ ∃ p, y = some (row4 p)) ?_ ?_ _ _ ⟨rfl, fun _ h => h⟩) ?_)
  · rintro r T ⟨rfl, -⟩
    exact still_at get_new
  · rintro d r T ⟨rfl, hd⟩
    obtain ⟨a, b, c, e, rfl, hlook⟩ := look3 ps d (hm d (hd _ (List.mem_cons_self ..)))
    refine wv_wp ?_
    simp_arith [wipeL, List.foldr, sub_T (l := [D.int a, .int b, .int c]) (k := 0) (j := 0) (d := .int a) rfl rfl, sub_T (l := [D.int a, .int b, .int c]) (k := 2) (j := 2) (d := .int c) rfl rfl, sub_D3 (get_app hq) hlook, List.cons_append, List.nil_append]
    have hd' : ∀ x ∈ r, x ∈ m := fun x h => hd x (List.mem_cons_of_mem _ h)
    by_cases h1 : a ≤ c
    · simp_arith [h1, sub_T (l := [D.int a, .int b, .int c]) (k := 0) (j := 0) (d := .int a) rfl rfl, sub_T (l := [D.int a, .int b, .int c]) (k := 2) (j := 2) (d := .int c) rfl rfl, sub_D3 (get_app hq) hlook, List.cons_append, List.nil_append]
      by_cases h2 : c ≤ a + 1000000
      · simp_arith [h2, sub_T (l := [D.int a, .int b, .int c]) (k := 0) (j := 0) (d := .int a) rfl rfl, sub_T (l := [D.int a, .int b, .int c]) (k := 2) (j := 2) (d := .int c) rfl rfl, sub_D3 (get_app hq) hlook, List.cons_append, List.nil_append]
        exact ⟨by simp [LIM], Or.inr ⟨(a, b, c, e), rfl⟩, trivial, hd'⟩
      · simp_arith [h2, sub_T (l := [D.int a, .int b, .int c]) (k := 0) (j := 0) (d := .int a) rfl rfl, sub_T (l := [D.int a, .int b, .int c]) (k := 2) (j := 2) (d := .int c) rfl rfl, sub_D3 (get_app hq) hlook, List.cons_append, List.nil_append]
        exact ⟨Or.inl trivial, trivial, hd'⟩
    · simp_arith [h1, sub_T (l := [D.int a, .int b, .int c]) (k := 0) (j := 0) (d := .int a) rfl rfl, sub_T (l := [D.int a, .int b, .int c]) (k := 2) (j := 2) (d := .int c) rfl rfl, sub_D3 (get_app hq) hlook, List.cons_append, List.nil_append]
      exact ⟨Or.inl trivial, trivial, hd'⟩
  · rintro v T ⟨⟨rfl, -⟩, yos, hlen, hz, rfl⟩
    have : ∃ rs : List (Int × Int × Int × Int), yos.filterMap id = rs.map row4 ∧ rs.length ≤ yos.length := by
      clear hsort hm hml
      induction yos generalizing m with
      | nil => exact ⟨[], rfl, Nat.le_refl _⟩
      | cons y yos ih =>
        cases m with
        | nil => simp at hlen
        | cons d m =>
          obtain ⟨rs, h1, h2⟩ := ih m (by simpa using hlen) (fun p hp => hz p (by simp only [List.zip_cons_cons, List.mem_cons]; exact Or.inr hp))
          rcases hz (d, y) (by simp) with hp | ⟨p, hp⟩
          · simp only at hp
            exact ⟨rs, by rw [hp]; simpa using h1, by simp; omega⟩
          · simp only at hp
            exact ⟨p :: rs, by rw [hp]; simp [h1], by simp [h2]⟩
    obtain ⟨rs, h1, h2⟩ := this
    rw [h1]
    simp_arith [bi_tupL get_new]
    exact ⟨⟨rs, rfl, by omega⟩, fj_trans (fj_app hJ) (fj_app (jar_app hJ))⟩
theorem great_spec (n : Nat) {S0 : Store} {J : Nat} {N : Int} {ts : List Int} (hts : ts.length ≤ 24) (h : JarAt S0 J) (h0 : 0 < N) (h1 : N ≤ 24) :
    wv (callN prog 0 (n + 3) f_law_great_rows [.ref J, .int N, .tup (ts.map .int)]) S0 (fun v S' => Rows N v ∧ Fj J S0 S') := by
  apply wv_wp
  refine wp_def (fd := d_law_great_rows) rfl rfl ?_; simp only [d_law_great_rows, b_law_great_rows, argsL, List.map_cons, List.map_nil, List.replicate, List.cons_append, List.nil_append, List.append_nil, Nat.sub_self, List.length_cons, List.length_nil, Nat.reduceAdd, Nat.reduceSub, List.replicate_succ, List.replicate_zero]
  simp_arith []
  refine wp_wv (take_spec _ h h0 (by omega)) ?_
  rintro v S1 ⟨v, rfl, -, -, hF1⟩
  simp_arith []
  refine wp_wv (one_lit _ isI hF1.1 (by simp) (by simp) (by simp [isI])) ?_
  rintro _ S2 ⟨⟨slot, rfl⟩, hF2⟩
  have hF12 := fj_trans hF1 hF2
  simp_arith [List.isEmpty_nil, nmem_ints]
  cases hc : ts.contains v with
  | false =>
    simp_arith []
    refine wp_wv (one_lit _ isI hF2.1 (by simp) (by simp) (by simp [isI])) ?_
    rintro _ S3 ⟨⟨m, rfl⟩, hF3⟩
    simp_arith []
    exact ⟨⟨[(slot, v, -1, m)], rfl, by simp, fun _ => h0⟩, fj_trans hF12 hF3⟩
  | true =>
    simp_arith []
    refine wp_wv (take_spec _ hF2.1 (by omega) (by omega)) ?_
    rintro _ S3 ⟨k, rfl, -, -, hF3⟩
    simp_arith []
    refine wp_wv (one_lit _ isI hF3.1 (by simp) (by simp) (by simp [isI])) ?_
    rintro _ S4 ⟨⟨e, rfl⟩, hF4⟩
    simp_arith []
    refine wp_wv (one_lit _ isI hF4.1 (by simp) (by simp) (by simp [isI])) ?_
    rintro _ S5 ⟨⟨g, rfl⟩, hF5⟩
    simp_arith []
    obtain ⟨qs, hql, hqe⟩ := dmake2 (S := S5) slot v slot (1 + k) slot v (slot + g) (if (if (1000000 : Int) < 1000000 - (1 + k) + e then 1000000 else 1000000 - (1 + k) + e) > 1 then (if (1000000 : Int) < 1000000 - (1 + k) + e then 1000000 else 1000000 - (1 + k) + e) else 1)
    rw [wp_of_eq2 hqe]
    simp_arith []
    have hF5' := fj_trans hF12 (fj_trans hF3 (fj_trans hF4 hF5))
    have hF6 := fj_trans hF5' (fj_app (T := [MO.dct (qs.map kvT) false]) hF5'.1)
    have hne : ts.map D.int ≠ [] := by
      intro hz
      have : ts = [] := by simpa using hz
      rw [this] at hc; cases hc
    refine wp_wv (one_tup _ hF6.1 hne (by simp; omega)) ?_
    rintro u S7 ⟨hu, hF7⟩
    obtain ⟨w, -, rfl⟩ := List.mem_map.1 hu
    simp_arith []
    have hq7 : S7[S5.length]? = some (.dct (qs.map kvT) false) := hF7.2 _ (jar_ne hF5'.1) _ get_new
    refine wp_noX ?_
    simp_arith []
    refine wp_wv (one_lit _ isI hF7.1 (by simp) (by simp) (by simp [isI])) ?_
    rintro _ S8 ⟨⟨y, rfl⟩, hF8⟩
    have hq8 := hF8.2 _ (jar_ne hF5'.1) _ hq7
    simp_arith [set_D3 hq8 (show qs.length < 1000000 by omega)]
    obtain ⟨rs, hrs, hrl⟩ := put3 y w (slot + 9) 1000000 qs
    rw [hrs]
    have hF9 := fj_trans hF6 (fj_trans hF7 hF8)
    have hle : S0.length ≤ S5.length := by
      rcases Nat.lt_or_ge S5.length S0.length with hlt | hge
      · exfalso
        have hlt2 : S5.length < S0.length := hlt
        have hx := hF5'.2 S5.length (jar_ne hF5'.1) S0[S5.length] (List.getElem?_eq_getElem hlt2)
        have := (List.getElem?_eq_some_iff.1 hx).1
        omega
      · exact hge
    have hF10 := fj_set (o := .dct (rs.map kvT) false) hF9 hle (jar_ne hF5'.1)
    have hq10 : (S8.set S5.length (.dct (rs.map kvT) false))[S5.length]? = some (.dct (rs.map kvT) false) := by
      rw [List.getElem?_set_self]
      exact (List.getElem?_eq_some_iff.1 hq8).1
    have hE := great_end (n + 3) (some (.ref J)) (some (.int N)) (some (.tup (ts.map .int))) (some (.int v)) (some (.int slot)) (some (.int (1 + k))) (some (.int (1000000 - (1 + k) + e))) (some (.int w)) none (Q := thn (β := D) (fun _ _ => False) fun v S' => Rows N v ∧ Fj J S0 S') hF10.1 hq10 (by omega) fun us S' hus hG => ⟨⟨us, rfl, by omega, fun _ => h0⟩, fj_trans hF10 hG⟩
    simp_arith [] at hE
    exact hE
/-- odd things, plain in the store -/
def Odd (v : D) (S : Store) : Prop := Av S v ∧ small v
theorem odd_fj {v : D} {J : Nat} {S S' : Store} (h : Odd v S) (hF : Fj J S S') : Odd v S' := ⟨av_mon (fj_mon hF) h.1, h.2⟩
theorem rows_odd {N : Int} {v : D} {S : Store} (h : Rows N v) : Odd v S := by
  obtain ⟨rs, rfl, hl, -⟩ := h
  exact ⟨rows_av, by rintro l ⟨rfl⟩; simp; omega⟩
theorem someslot_spec (n : Nat) {S0 : Store} {J : Nat} {N : Int} {v : D} (h : JarAt S0 J) (hv : Rows N v) :
    wv (callN prog 0 (n + 3) f_law_some_slot [.ref J, v]) S0 (fun v S' => isI v ∧ Fj J S0 S') := by
  obtain ⟨rs, rfl, hl, -⟩ := hv
  apply wv_wp
  refine wp_def (fd := d_law_some_slot) rfl rfl ?_; simp only [d_law_some_slot, b_law_some_slot, argsL, List.map_cons, List.map_nil, List.replicate, List.cons_append, List.nil_append, List.append_nil, Nat.sub_self, List.length_cons, List.length_nil, Nat.reduceAdd, Nat.reduceSub, List.replicate_succ, List.replicate_zero]
  simp_arith []
  refine ⟨by simp [LIM]; omega, ?_⟩
  refine wp_wv (one_tup _ h (by simp) (by simp; omega)) ?_
  rintro u S1 ⟨hu, hF1⟩
  obtain ⟨p, rfl⟩ : ∃ p, u = row4 p := by
    rcases List.mem_append.1 hu with hu | hu
    · obtain ⟨p, -, rfl⟩ := List.mem_map.1 hu; exact ⟨p, rfl⟩
    · simp at hu; exact ⟨(0, 0, 0, 1), hu⟩
  simp_arith [row4, sub_T (l := [D.int p.1, .int p.2.1, .int p.2.2.1, .int p.2.2.2]) (k := 0) (j := 0) (d := .int p.1) rfl rfl]
  refine wp_wv (take_spec _ hF1.1 (by omega) (by omega)) ?_
  rintro _ S2 ⟨k, rfl, -, -, hF2⟩
  simp_arith []
  refine wp_wv (one_lit _ isI hF2.1 (by simp) (by simp) (by simp [isI])) ?_
  rintro _ S3 ⟨⟨a, rfl⟩, hF3⟩
  simp_arith []
  exact ⟨⟨_, rfl⟩, fj_trans hF1 (fj_trans hF2 hF3)⟩
theorem somedue_spec (n : Nat) {S0 : Store} {J : Nat} {N : Int} {v : D} (h : JarAt S0 J) (hv : Rows N v) :
    wv (callN prog 0 (n + 3) f_law_some_due [.ref J, v]) S0 (fun v S' => isI v ∧ Fj J S0 S') := by
  obtain ⟨rs, rfl, hl, -⟩ := hv
  apply wv_wp
  refine wp_def (fd := d_law_some_due) rfl rfl ?_; simp only [d_law_some_due, b_law_some_due, argsL, List.map_cons, List.map_nil, List.replicate, List.cons_append, List.nil_append, List.append_nil, Nat.sub_self, List.length_cons, List.length_nil, Nat.reduceAdd, Nat.reduceSub, List.replicate_succ, List.replicate_zero]
  simp_arith []
  refine ⟨by simp [LIM]; omega, ?_⟩
  refine wp_wv (one_tup _ h (by simp) (by simp; omega)) ?_
  rintro u S1 ⟨hu, hF1⟩
  obtain ⟨p, rfl⟩ : ∃ p, u = row4 p := by
    rcases List.mem_append.1 hu with hu | hu
    · obtain ⟨p, -, rfl⟩ := List.mem_map.1 hu; exact ⟨p, rfl⟩
    · simp at hu; exact ⟨(0, 0, 0, 1), hu⟩
  simp_arith [row4, sub_T (l := [D.int p.1, .int p.2.1, .int p.2.2.1, .int p.2.2.2]) (k := 0) (j := 0) (d := .int p.1) rfl rfl, sub_T (l := [D.int p.1, .int p.2.1, .int p.2.2.1, .int p.2.2.2]) (k := 2) (j := 2) (d := .int p.2.2.1) rfl rfl]
  refine ⟨Or.inl (by omega), ?_⟩
  refine wp_wv (take_spec _ hF1.1 (by omega) (by omega)) ?_
  rintro _ S2 ⟨k, rfl, -, -, hF2⟩
  simp_arith []
  refine ⟨Or.inl (by omega), ?_⟩
  refine wp_wv (one_lit _ isI hF2.1 (by simp) (by simp) (by simp [isI])) ?_
  rintro _ S3 ⟨⟨a, rfl⟩, hF3⟩
  simp_arith []
  exact ⟨⟨_, rfl⟩, fj_trans hF1 (fj_trans hF2 hF3)⟩
end K03
set_option linter.all false
set_option autoImplicit false
set_option maxRecDepth 100000
namespace K03
open Sim
open PySem (Str PyData)
theorem lasked_spec (n : Nat) {S : Store} {J : Nat} {dn dt dr dl ds du : D} (hJ : JarAt S J) (hn : pvB 3 dn = true) (ht : Av S dt) (hr : Av S dr) (hl : Av S dl) (hs : pvB 3 ds = true) (hu : pvB 3 du = true) (zt : small dt) (zl : small dl) :
    wv (callN prog 0 (n + 10) f_law_load_asked [dn, dt, dr, dl, ds, du]) S (fun v S' => v = .bl true ∧ Fj J S S') := by
  obtain ⟨T, e⟩ := lasked_eq n hn ht hr hl hs hu zt zl
  exact ⟨_, _, e, rfl, fj_app hJ⟩
theorem pasked_spec (n : Nat) {S : Store} {J : Nat} {dn dt dr : D} (hJ : JarAt S J) (hn : pvB 3 dn = true) (ht : Av S dt) (hr : Av S dr) (zt : small dt) :
    wv (callN prog 0 (n + 10) f_law_plain_asked [dn, dt, dr]) S (fun v S' => v = .bl true ∧ Fj J S S') := by
  obtain ⟨T, e⟩ := pasked_eq n hn ht hr zt
  exact ⟨_, _, e, rfl, fj_app hJ⟩
theorem av_lst {S : Store} {r : Nat} {l : List D} (h : S[r]? = some (.lst l)) : Av S (.ref r) := by rw [Av]; exact ⟨l, h⟩
theorem oddrows_spec (n : Nat) {S0 : Store} {J : Nat} {N : Int} {v : D} (h : JarAt S0 J) (hv : Rows N v) :
    wv (callN prog 0 (n + 3) f_law_odd_rows [.ref J, .int N, v]) S0 (fun w S' => Av S' w ∧ Fj J S0 S') := by
  obtain ⟨rs, rfl, hl, -⟩ := hv
  apply wv_wp
  refine wp_def (fd := d_law_odd_rows) rfl rfl ?_; simp only [d_law_odd_rows, b_law_odd_rows, argsL, List.map_cons, List.map_nil, List.replicate, List.cons_append, List.nil_append, List.append_nil, Nat.sub_self, List.length_cons, List.length_nil, Nat.reduceAdd, Nat.reduceSub, List.replicate_succ, List.replicate_zero]
  simp_arith [List.isEmpty_nil, cmp_eq_tnil (rows_trm (rs := rs) (by omega) |> trm_up) (Nat.le_trans (fuL_le (rows_fu rs)) (by simp; omega))]
  cases rs with
  | nil =>
    simp_arith [List.map_nil, List.isEmpty_nil]
    refine wp_wv (one_lit _ (fun v => Av (S0 ++ [.lst []]) v) (jar_app h) (by simp) (by simp) ?_) ?_
    · intro d hd
      simp only [List.mem_cons, List.not_mem_nil, or_false] at hd
      rcases hd with rfl | rfl | rfl | rfl | rfl
      · exact av_non
      · exact av_lst (l := []) get_new
      · simp [Av, AvL]
      · simp [Av, AvL]
      · simp [Av, AvL]
    rintro w S1 ⟨hw, hF⟩
    simp_arith []
    exact ⟨av_mon (fj_mon hF) hw, fj_trans (fj_app h) hF⟩
  | cons r0 rs =>
    simp_arith [List.map_cons, List.isEmpty_cons]
    refine wp_wv (take_spec _ h (by omega) (by simp; simp at hl; omega)) ?_
    rintro _ S1 ⟨k, rfl, hk0, hk1, hF1⟩
    obtain ⟨k, rfl⟩ := Int.eq_ofNat_of_zero_le hk0
    have hkl : k < (r0 :: rs).length := by simp at hk1 ⊢; omega
    have gk : (row4 r0 :: rs.map row4)[k]? = some (row4 (r0 :: rs)[k]) := by
      have : (row4 r0 :: rs.map row4) = (r0 :: rs).map row4 := rfl
      rw [this, List.getElem?_map, List.getElem?_eq_getElem hkl]; rfl
    have ik : ixN (row4 r0 :: rs.map row4).length (k : Int) = some k := ixN_nat (by simp at hkl ⊢; omega)
    generalize (r0 :: rs)[k] = p at gk
    have i0 : ixN (row4 r0 :: rs.map row4).length 0 = some 0 := by simp [ixN]
    have g0 : (row4 r0 :: rs.map row4)[0]? = some (row4 r0) := rfl
    have h11 : ((k : Int) + 1) = ((k + 1 : Nat) : Int) := by simp
    simp_arith [sub_T ik gk]
    simp only [row4]
    have e4 : ∀ r : R4, D.tup [.int r.1, .int r.2.1, .int r.2.2.1, .int r.2.2.2] = row4 r := fun r => rfl
    simp_arith [List.isEmpty_nil]
    simp only [e4]
    rw [sub_T i0 g0]
    simp_arith []
    have hall : ∀ T : Store, ∀ x ∈ row4 r0 :: rs.map row4, Av T x := by
      intro T x hx
      rcases List.mem_cons.1 hx with rfl | hx
      · exact row_av _ _
      · obtain ⟨q, -, rfl⟩ := List.mem_map.1 hx; exact row_av _ _
    refine wp_wv (one_lit _ (fun v => ∀ T : Store, Av T v) hF1.1 (by simp) (by simp) ?_) ?_
    · intro d hd T
      simp only [List.mem_cons, List.not_mem_nil, or_false] at hd
      rcases hd with rfl | rfl | rfl | rfl | rfl | rfl
      · simp [Av, AvL]
      · simp [Av, AvL]
      · simp [Av, AvL]
      · simp [Av, AvL]
      · exact av_non
      · exact row_av _ _
    rintro odd S2 ⟨ho, hF2⟩
    simp_arith [av_nc (ho S2), cut_take, h11, cut_drop, List.isEmpty_nil]
    have hl' : rs.length + 1 ≤ 24 := by simpa using hl
    have hlen : (rs.map row4).length ≤ 24 := by simp; omega
    have hmul : ∀ T : Store, binD .mul (.tup [.non]) (.int 401) T = some (.val (.tup (List.replicate 401 [D.non]).flatten), T) := by
      intro T
      have hc : (2 : Int) ≤ 401 ∧ (401 : Int) ≤ 1000 ∧ [D.non] ≠ [] ∧ [D.non].length ≤ 1000 := ⟨by omega, by omega, by simp, by simp⟩
      simp only [binD, hc, if_true, ok]
      simp
    have hrev : ∀ (T : Store) (l : List D) (Q : Ex D → Store → Prop), wp (revD (.tup l)) T Q = Q (.val (.tup l.reverse)) T := fun T l Q => propext ⟨(fun ⟨_, _, h, q⟩ => by cases h; exact q), fun q => ⟨_, _, rfl, q⟩⟩
    refine ⟨by simp [LIM]; omega, by simp [LIM]; omega, by simp [LIM]; omega, by simp [LIM]; omega, ?_⟩
    simp_arith [hrev, wp_of_eq (hmul _)]
    have hF3 := fj_trans hF1 hF2
    have hl3 : (S2 ++ [MO.lst (row4 r0 :: rs.map row4)])[S2.length]? = some (.lst (row4 r0 :: rs.map row4)) := get_new
    refine wp_wv (one_lit _ (fun v => Av (S2 ++ [MO.lst (row4 r0 :: rs.map row4)]) v) (jar_app hF3.1) (by simp) (by simp) ?_) ?_
    · intro d hd
      simp only [List.mem_cons, List.not_mem_nil, or_false] at hd
      rcases hd with rfl | rfl | rfl | rfl | rfl | rfl
      · rw [av_tup]
        intro x hx
        simp only [List.mem_append, List.mem_cons, List.not_mem_nil, or_false] at hx
        rcases hx with (hx | rfl) | hx
        · exact hall _ x (List.mem_of_mem_take hx)
        · exact ho _
        · exact hall _ x (List.mem_of_mem_drop hx)
      · rw [av_tup]
        intro x hx
        simp only [List.mem_append, List.mem_cons, List.not_mem_nil, or_false] at hx
        rcases hx with (hx | rfl) | hx
        · exact hall _ x (List.mem_of_mem_take hx)
        · exact ho _
        · exact hall _ x (List.mem_of_mem_drop hx)
      · exact av_lst hl3
      · rw [av_tup]
        intro x hx
        exact hall _ x (List.mem_reverse.1 hx)
      · exact av_int _
      · rw [av_tup]
        intro x hx
        simp only [List.mem_flatten] at hx
        obtain ⟨l, hl, hx⟩ := hx
        rw [List.eq_of_mem_replicate hl] at hx
        simp only [List.mem_cons, List.not_mem_nil, or_false] at hx
        subst hx; exact av_non
    rintro w S4 ⟨hw, hF4⟩
    simp_arith []
    exact ⟨av_mon (fj_mon hF4) hw, fj_trans hF3 (fj_trans (fj_app hF3.1) hF4)⟩
theorem loads_spec (n : Nat) {S : Store} {J : Nat} {N : Int} {dt dr : D} (hJ : JarAt S J) (h0 : 0 ≤ N) (h1 : N ≤ 24) (ht : ∀ S, Av S dt) (zt : small dt) (hv : Rows N dr) :
    wv (callN prog 0 (n + 12) f_law_loads_right [.ref J, .int N, dt, dr]) S (fun v S' => v = .bl true ∧ Fj J S S') := by
  have hr : ∀ S, Av S dr := by obtain ⟨rs, rfl, -, -⟩ := hv; exact fun S => rows_av
  have pN : pvB 3 (.int N) = true := rfl
  have hsm : small62 N = true := by simp [small62]; omega
  have hN1 : N ≤ 1000000 := by omega
  apply wv_wp
  refine wp_def (fd := d_law_loads_right) rfl rfl ?_; simp only [d_law_loads_right, b_law_loads_right, argsL, List.map_cons, List.map_nil, List.replicate, List.cons_append, List.nil_append, List.append_nil, Nat.sub_self, List.length_cons, List.length_nil, Nat.reduceAdd, Nat.reduceSub, List.replicate_succ, List.replicate_zero]
  simp_arith []
  refine ⟨by decide, ?_⟩
  refine wr_for (Inv := fun q L S1 => ∃ (a4 a5 a6 a7 a8 a9 : Option D), L = [some (.ref J), some (.int N), some dt, some dr, a4, a5, a6, a7, a8, a9] ∧ Fj J S S1) ?_ ?_ ?_ _ _ _ ?_
  · intros; rfl
  · rintro d q L S1 ⟨a4, a5, a6, a7, a8, a9, rfl, hF⟩
    simp_arith []
    refine wp_wv (lot_spec _ hF.1 h0 h1) ?_
    rintro _ S2 ⟨⟨us, rfl, hus⟩, hF2⟩
    simp_arith [hsm, hN1, Bool.and_self, av_nc (ht S2)]
    have hrange : rangeL 0 N.toNat = ((List.range N.toNat).map fun (i : Nat) => ((0 : Int) + (i : Int))).map D.int := by simp [rangeL, List.map_map]
    rw [hrange]
    refine ⟨trivial, ?_⟩
    refine wp_wv (one_lit _ (fun v => (∀ S, Av S v) ∧ small v) hF2.1 (by simp) (by simp) ?_) ?_
    · intro d hd
      simp only [List.mem_cons, List.not_mem_nil, or_false] at hd
      rcases hd with rfl | rfl | rfl
      · exact ⟨fun S => lot_av, by rintro l ⟨rfl⟩; simp; omega⟩
      · exact ⟨fun S => lot_av, by rintro l ⟨rfl⟩; simp; omega⟩
      · exact ⟨ht, zt⟩
    rintro lot S3 ⟨⟨hl1, hl2⟩, hF3⟩
    simp_arith [av_nc (ht S3), av_nc (hr S3), av_nc (hl1 S3)]
    refine wp_wv (someslot_spec _ hF3.1 hv) ?_
    rintro _ S4 ⟨⟨s, rfl⟩, hF4⟩
    simp_arith [av_nc (hr S4)]
    refine wp_wv (somedue_spec _ hF4.1 hv) ?_
    rintro _ S5 ⟨⟨u, rfl⟩, hF5⟩
    simp_arith []
    refine wp_wv (lasked_spec (n + 1) hF5.1 pN (ht _) (hr _) (hl1 _) rfl rfl zt hl2) ?_
    rintro _ S6 ⟨rfl, hF6⟩
    simp_arith []
    exact ⟨_, _, _, _, _, _, rfl, fj_trans hF (fj_trans hF2 (fj_trans hF3 (fj_trans hF4 (fj_trans hF5 hF6))))⟩
  · rintro L S1 ⟨a4, a5, a6, a7, a8, a9, rfl, hF⟩
    simp_arith []
    refine ⟨by decide, ?_⟩
    refine wr_for (Inv := fun q L S1 => ∃ (a4 a5 a6 a7 a8 a9 : Option D), L = [some (.ref J), some (.int N), some dt, some dr, a4, a5, a6, a7, a8, a9] ∧ Fj J S S1) ?_ ?_ ?_ _ _ _ ?_
    · intros; rfl
    · rintro d q L S1 ⟨a4, a5, a6, a7, a8, a9, rfl, hF⟩
      simp_arith []
      refine wp_wv (lot_spec _ hF.1 h0 h1) ?_
      rintro lot S2 ⟨hlot, hF2⟩
      have hlA : (∀ S, Av S lot) ∧ small lot := by
        obtain ⟨us, rfl, hus⟩ := hlot
        exact ⟨fun S => lot_av, by rintro l ⟨rfl⟩; simp; omega⟩
      simp_arith [av_nc (hr S2), av_nc (hlA.1 S2)]
      refine wp_wv (someslot_spec _ hF2.1 hv) ?_
      rintro _ S3 ⟨⟨s, rfl⟩, hF3⟩
      simp_arith [av_nc (hr S3)]
      refine wp_wv (somedue_spec _ hF3.1 hv) ?_
      rintro _ S4 ⟨⟨u, rfl⟩, hF4⟩
      simp_arith [List.isEmpty_nil]
      refine wp_wv (take_spec _ hF4.1 (by omega) (by omega)) ?_
      rintro _ S5 ⟨k, rfl, -, -, hF5⟩
      have mem4 : ∀ (x a b c e : Int) (S : Store) (Q : Ex D → Store → Prop), wp (cmpD .mem (.int x) (.tup [.int a, .int b, .int c, .int e])) S Q = Q (.val (.bl ([a, b, c, e].contains x))) S := fun x a b c e S Q => mem_ints (ts := [a, b, c, e])
      simp_arith [mem4]
      refine wp_join (fun v S' => (Av S' v ∧ small v) ∧ Fj J S5 S') ?_ ?_ ?_
      · intro _
        simp_arith []
        refine wp_wv (oddl_spec _ hF5.1 h0 h1) ?_
        rintro w S6 ⟨h1, h2, h3⟩
        simp_arith []
        exact ⟨⟨h1, h2⟩, h3⟩
      · intro _
        simp_arith [av_nc (hlA.1 S5)]
        exact ⟨⟨hlA.1 _, hlA.2⟩, fj_refl hF5.1⟩
      rintro lot2 S6 ⟨⟨hl1, hl2⟩, hF6⟩
      simp_arith [mem4]
      refine wp_join (fun v S' => pvB 3 v = true ∧ Fj J S6 S') ?_ ?_ ?_
      · intro _
        simp_arith []
        refine wp_wv (one_lit _ (fun v => pvB 3 v = true) hF6.1 (by simp) (by simp) (by simp [pvB])) ?_
        rintro w S7 ⟨h1, h3⟩
        simp_arith []
        exact ⟨h1, h3⟩
      · intro _
        simp_arith []
        exact ⟨rfl, fj_refl hF6.1⟩
      rintro slot2 S7 ⟨hs2, hF7⟩
      simp_arith []
      refine wp_join (fun v S' => pvB 3 v = true ∧ Fj J S7 S') ?_ ?_ ?_
      · intro _
        simp_arith []
        refine ⟨Or.inl (by omega), ?_⟩
        refine wp_wv (one_lit _ (fun v => pvB 3 v = true) hF7.1 (by simp) (by simp) (by simp [pvB])) ?_
        rintro w S8 ⟨h1, h3⟩
        simp_arith []
        exact ⟨h1, h3⟩
      · intro _
        simp_arith []
        exact ⟨rfl, fj_refl hF7.1⟩
      rintro due2 S8 ⟨hu2, hF8⟩
      have hl8 : Av S8 lot2 := av_mon (fj_mon hF8) (av_mon (fj_mon hF7) hl1)
      simp_arith [av_nc (ht S8), av_nc (hr S8), av_nc hl8, av_nc (S := S8) (pv_av hs2), av_nc (S := S8) (pv_av hu2)]
      refine wp_wv (lasked_spec (n + 1) hF8.1 pN (ht _) (hr _) hl8 hs2 hu2 zt hl2) ?_
      rintro _ S9 ⟨rfl, hF9⟩
      simp_arith [av_nc (hr S9)]
      refine wp_wv (oddrows_spec _ hF9.1 hv) ?_
      rintro w S10 ⟨hw, hF10⟩
      simp_arith [av_nc (hr S10), av_nc hw]
      refine wp_wv (one_lit _ (fun v => Av S10 v) hF10.1 (by simp) (by simp) ?_) ?_
      · intro d hd
        simp only [List.mem_cons, List.not_mem_nil, or_false] at hd
        rcases hd with rfl | rfl
        · exact hw
        · exact hr _
      rintro w2 S11 ⟨hw2, hF11⟩
      have hw11 : Av S11 w2 := av_mon (fj_mon hF11) hw2
      have hl11 : Av S11 lot2 := av_mon (fj_mon hF11) (av_mon (fj_mon hF10) (av_mon (fj_mon hF9) hl8))
      simp_arith [av_nc (ht S11), av_nc hw11, av_nc hl11, av_nc (S := S11) (pv_av hs2), av_nc (S := S11) (pv_av hu2)]
      refine wp_wv (lasked_spec (n + 1) hF11.1 pN (ht _) hw11 hl11 hs2 hu2 zt hl2) ?_
      rintro _ S12 ⟨rfl, hF12⟩
      simp_arith []
      exact ⟨_, _, _, _, _, _, rfl, fj_trans hF (fj_trans hF2 (fj_trans hF3 (fj_trans hF4 (fj_trans hF5 (fj_trans hF6 (fj_trans hF7 (fj_trans hF8 (fj_trans hF9 (fj_trans hF10 (fj_trans hF11 hF12))))))))))⟩
    · rintro L S1 ⟨a4, a5, a6, a7, a8, a9, rfl, hF⟩
      simp_arith []
      exact ⟨trivial, hF⟩
    · exact ⟨_, _, _, _, _, _, rfl, hF⟩
  · exact ⟨_, _, _, _, _, _, rfl, fj_refl hJ⟩
theorem heads_spec (n : Nat) {S : Store} {J : Nat} {N : Int} {dt dr : D} (hJ : JarAt S J) (h0 : 0 ≤ N) (h1 : N ≤ 24) (ht : ∀ S, Av S dt) (zt : small dt) (hv : Rows N dr) :
    wv (callN prog 0 (n + 12) f_law_head_right [.ref J, .int N, dt, dr]) S (fun v S' => v = .bl true ∧ Fj J S S') := by
  have hr : ∀ S, Av S dr := by obtain ⟨rs, rfl, -, -⟩ := hv; exact fun S => rows_av
  have pN : pvB 3 (.int N) = true := rfl
  apply wv_wp
  refine wp_def (fd := d_law_head_right) rfl rfl ?_; simp only [d_law_head_right, b_law_head_right, argsL, List.map_cons, List.map_nil, List.replicate, List.cons_append, List.nil_append, List.append_nil, Nat.sub_self, List.length_cons, List.length_nil, Nat.reduceAdd, Nat.reduceSub, List.replicate_succ, List.replicate_zero]
  simp_arith []
  refine ⟨by decide, ?_⟩
  refine wr_for (Inv := fun q L S1 => ∃ (a4 a5 a6 a7 : Option D), L = [some (.ref J), some (.int N), some dt, some dr, a4, a5, a6, a7] ∧ Fj J S S1) ?_ ?_ ?_ _ _ _ ?_
  · intros; rfl
  · rintro d q L S1 ⟨a4, a5, a6, a7, rfl, hF⟩
    simp_arith []
    refine wp_wv (oddc_spec _ hF.1) ?_
    rintro co S2 ⟨hco, hF2⟩
    simp_arith []
    refine wp_wv (one_lit _ (fun v => pvB 3 v = true) hF2.1 (by simp) (by simp) ?_) ?_
    · intro d hd
      simp only [List.mem_cons, List.not_mem_nil, or_false] at hd
      rcases hd with rfl | rfl | rfl
      · rfl
      · rfl
      · exact hco
    rintro many S3 ⟨hm, hF3⟩
    simp_arith [av_nc (ht S3)]
    refine wp_wv (oddl_spec _ hF3.1 h0 h1) ?_
    rintro ol S4 ⟨ho1, ho2, hF4⟩
    simp_arith [av_nc (ht S4)]
    refine wp_wv (one_lit _ (fun v => Av S4 v ∧ small v) hF4.1 (by simp) (by simp) ?_) ?_
    · intro d hd
      simp only [List.mem_cons, List.not_mem_nil, or_false] at hd
      rcases hd with rfl | rfl | rfl
      · exact ⟨ht _, zt⟩
      · exact ⟨ht _, zt⟩
      · exact ⟨ho1, ho2⟩
    rintro lot S5 ⟨⟨hl1, hl2⟩, hF5⟩
    simp_arith [av_nc (hr S5)]
    refine wp_wv (oddrows_spec _ hF5.1 hv) ?_
    rintro w S6 ⟨hw, hF6⟩
    have hl6 : Av S6 lot := av_mon (fj_mon hF6) (av_mon (fj_mon hF5) hl1)
    simp_arith [av_nc (S := S6) (pv_av hm), av_nc hl6, av_nc hw]
    refine wp_wv (pasked_spec (n + 1) hF6.1 hm hl6 hw hl2) ?_
    rintro _ S7 ⟨rfl, hF7⟩
    have hl7 : Av S7 lot := av_mon (fj_mon hF7) hl6
    have hw7 : Av S7 w := av_mon (fj_mon hF7) hw
    simp_arith [av_nc (S := S7) (pv_av hm), av_nc hl7, av_nc hw7]
    refine wp_wv (lasked_spec (n + 1) hF7.1 hm hl7 hw7 av_non rfl rfl hl2 (by rintro l ⟨⟩)) ?_
    rintro _ S8 ⟨rfl, hF8⟩
    have hl8 : Av S8 lot := av_mon (fj_mon hF8) hl7
    have hw8 : Av S8 w := av_mon (fj_mon hF8) hw7
    simp_arith [av_nc hl8, av_nc (hr S8)]
    refine wp_wv (pasked_spec (n + 1) hF8.1 pN hl8 (hr _) hl2) ?_
    rintro _ S9 ⟨rfl, hF9⟩
    have hw9 : Av S9 w := av_mon (fj_mon hF9) hw8
    simp_arith [av_nc (ht S9), av_nc hw9]
    refine wp_wv (lasked_spec (n + 1) hF9.1 pN (ht _) hw9 (by simp [Av, AvL]) rfl rfl zt (by rintro l ⟨rfl⟩; simp)) ?_
    rintro _ S10 ⟨rfl, hF10⟩
    simp_arith []
    exact ⟨_, _, _, _, rfl, fj_trans hF (fj_trans hF2 (fj_trans hF3 (fj_trans hF4 (fj_trans hF5 (fj_trans hF6 (fj_trans hF7 (fj_trans hF8 (fj_trans hF9 hF10))))))))⟩
  · rintro L S1 ⟨a4, a5, a6, a7, rfl, hF⟩
    simp_arith []
    exact ⟨trivial, hF⟩
  · exact ⟨_, _, _, _, rfl, fj_refl hJ⟩
end K03
set_option linter.all false
set_option autoImplicit false
set_option maxRecDepth 100000
namespace K03
open Sim
open PySem (Str PyData)
/-- a timed lot -/
def Lot (dt : D) : Prop := ∃ ts : List Int, dt = .tup (ts.map .int) ∧ ts.length ≤ 24
theorem drawn_lot (n : Nat) {S0 : Store} {J : Nat} {N : Int} {dt : D} {M : Nat} (hd : Lot dt) (hM : M ≤ 20) (h : JarAt S0 J) (h0 : 0 ≤ N) (h1 : N ≤ 24) :
    wv (callN prog 0 (n + 3) f_law_drawn_due_rows [.ref J, .int N, dt, .int (M : Int)]) S0 (fun v S' => Rows N v ∧ Fj J S0 S') := by
  obtain ⟨ts, rfl, -⟩ := hd
  exact drawn_spec n hM h h0 h1
theorem great_lot (n : Nat) {S0 : Store} {J : Nat} {N : Int} {dt : D} (hd : Lot dt) (h : JarAt S0 J) (h0 : 0 < N) (h1 : N ≤ 24) :
    wv (callN prog 0 (n + 3) f_law_great_rows [.ref J, .int N, dt]) S0 (fun v S' => Rows N v ∧ Fj J S0 S') := by
  obtain ⟨ts, rfl, hl⟩ := hd
  exact great_spec n hl h h0 h1
theorem law_true (n : Nat) (S0 : Store) (ns : List Int) (hl : ns.length ≤ 63) :
    ∃ S', callN prog 0 (n + 14) f_law [.klst (ns.map .int)] S0 = some (.val (.bl true), S') := by
  suffices H : wv (callN prog 0 (n + 14) f_law [.klst (ns.map .int)]) S0 (fun v _ => v = .bl true) by
    obtain ⟨v, S', e, rfl⟩ := H
    exact ⟨S', e⟩
  apply wv_wp
  refine wp_def (fd := d_law) rfl rfl ?_; simp only [d_law, b_law, argsL, List.map_cons, List.map_nil, List.replicate, List.cons_append, List.nil_append, List.append_nil, Nat.sub_self, List.length_cons, List.length_nil, Nat.reduceAdd, Nat.reduceSub, List.replicate_succ, List.replicate_zero]
  simp_arith []
  refine ⟨by decide, ?_⟩
  refine wr_for (Inv := fun q L S1 => ∃ (a b c d e f : Option D), L = [some (.klst (ns.map .int)), a, b, c, d, e, f] ∧ (∀ x ∈ q, ∃ k : Nat, x = .int k ∧ k < 1000)) ?_ ?_ ?_ _ _ _ ?_
  · intros; rfl
  · rintro d q L S1 ⟨a, b, c, e, g, f, rfl, hq⟩
    obtain ⟨go, rfl, hgo⟩ := hq _ (List.mem_cons_self ..)
    have hq' : ∀ x ∈ q, ∃ k : Nat, x = .int k ∧ k < 1000 := fun x hx => hq x (List.mem_cons_of_mem _ hx)
    simp_arith []
    refine wp_wv (pool_spec _ (ns := ns) (by omega) hgo) ?_
    rintro v S2 ⟨J, rfl, hJ, -, -⟩
    simp_arith []
    refine wp_wv (one_lit _ (fun v => ∃ N : Int, v = .int N ∧ 0 ≤ N ∧ N ≤ 24) hJ (by simp) (by simp) (by simp)) ?_
    rintro v S3 ⟨⟨N, rfl, h0, h1⟩, hF3⟩
    have hsm : small62 N = true := by simp [small62]; omega
    have hN1 : N ≤ 1000000 := by omega
    simp_arith []
    refine wp_wv (lot_spec _ hF3.1 h0 h1) ?_
    rintro w4 S4 ⟨hw4, hF4⟩
    have n4 : nc w4 = some w4 := by obtain ⟨us, rfl, -⟩ := hw4; rfl
    simp_arith []
    refine wp_wv (lot_spec _ hF4.1 h0 h1) ?_
    rintro w5 S5 ⟨hw5, hF5⟩
    have n5 : nc w5 = some w5 := by obtain ⟨us, rfl, -⟩ := hw5; rfl
    simp_arith [hsm, hN1, Bool.and_self]
    refine ⟨trivial, ?_⟩
    refine wp_wv (one_lit _ Lot hF5.1 (by simp) (by simp) ?_) ?_
    · intro d hd
      simp only [List.mem_cons, List.not_mem_nil, or_false] at hd
      rcases hd with rfl | rfl | rfl | rfl
      · exact hw4
      · exact hw5
      · exact ⟨[], rfl, by simp⟩
      · exact ⟨(List.range N.toNat).map fun (i : Nat) => ((0 : Int) + (i : Int)), by simp [rangeL, List.map_map], by simp; omega⟩
    rintro dt S6 ⟨hd, hF6⟩
    have ht : ∀ S, Av S dt := by obtain ⟨us, rfl, -⟩ := hd; exact fun S => lot_av
    have zt : small dt := by obtain ⟨us, rfl, hus⟩ := hd; rintro l ⟨rfl⟩; simp; omega
    have nt : nc dt = some dt := av_nc (ht S6)
    have pN : pvB 3 (.int N) = true := rfl
    simp_arith [nt]
    refine ⟨by decide, ?_⟩
    refine wr_for (Inv := fun q L S1 => ∃ (e g : Option D), L = [some (.klst (ns.map .int)), some (.int go), some (.ref J), some (.int N), some dt, e, g] ∧ (∀ x ∈ q, ∃ k : Nat, x = .int k) ∧ JarAt S1 J) ?_ ?_ ?_ _ _ _ ?_
    · intros; rfl
    · rintro d q L S7 ⟨e, g, rfl, hq, hJ7⟩
      obtain ⟨turn, rfl⟩ := hq _ (List.mem_cons_self ..)
      have hq' : ∀ x ∈ q, ∃ k : Nat, x = .int k := fun x hx => hq x (List.mem_cons_of_mem _ hx)
      simp_arith [nt]
      refine wp_wv (one_lit _ (fun v => ∃ M : Nat, v = .int M ∧ M ≤ 20) hJ7 (by simp) (by simp) ?_) ?_
      · intro d hd
        simp only [List.mem_cons, List.not_mem_nil, or_false] at hd
        rcases hd with rfl | rfl | rfl
        · exact ⟨3, rfl, by omega⟩
        · exact ⟨8, rfl, by omega⟩
        · exact ⟨20, rfl, by omega⟩
      rintro _ S8 ⟨⟨M, rfl, hM⟩, hF8⟩
      simp_arith []
      refine wp_wv (drawn_lot _ hd hM hF8.1 h0 h1) ?_
      rintro rows S9 ⟨hv, hF9⟩
      simp_arith []
      have fin : ∀ (rows : D) (S : Store), Rows N rows → JarAt S J → wr (evSs (orcN prog 0 (n + 14) f_law) 0 (.cons (.ite (.or (.cons (.not (.call f_law_plain_asked (.cons (.var 3) (.cons (.var 4) (.cons (.var 6) .nil))))) (.cons (.not (.call f_law_loads_right (.cons (.var 2) (.cons (.var 3) (.cons (.var 4) (.cons (.var 6) .nil)))))) .nil))) (.cons (.ret (.bl false))
  .nil) .nil)
  (.cons (.ite (.not (.call f_law_head_right (.cons (.var 2) (.cons (.var 3) (.cons (.var 4) (.cons (.var 6) .nil)))))) (.cons (.ret (.bl false))
  .nil) .nil)
  .nil)) [some (.klst (ns.map .int)), some (.int go), some (.ref J), some (.int N), some dt, some (.int turn), some rows] S) (fun o L S' => o = .nx ∧ (∃ (e g : Option D), L = [some (.klst (ns.map .int)), some (.int go), some (.ref J), some (.int N), some dt, e, g]) ∧ JarAt S' J) := by
        intro rows S hv hJ
        have hr : ∀ S, Av S rows := by obtain ⟨rs, rfl, -, -⟩ := hv; exact fun S => rows_av
        have nr : nc rows = some rows := av_nc (hr S)
        simp_arith [nt, nr]
        refine wp_wv (pasked_spec (n + 3) hJ pN (ht _) (hr _) zt) ?_
        rintro _ T1 ⟨rfl, hG1⟩
        simp_arith [nt, nr]
        refine wp_wv (loads_spec (n + 1) hG1.1 h0 h1 ht zt hv) ?_
        rintro _ T2 ⟨rfl, hG2⟩
        simp_arith [nt, nr]
        refine wp_wv (heads_spec (n + 1) hG2.1 h0 h1 ht zt hv) ?_
        rintro _ T3 ⟨rfl, hG3⟩
        simp_arith []
        exact ⟨trivial, ⟨_, _, rfl⟩, hG3.1⟩
      refine wp_join (fun v S' => S' = S9 ∧ ∃ b : Bool, v = .bl b ∧ (b = true → 0 < N)) ?_ ?_ ?_
      · intro _
        simp_arith []
        exact ⟨trivial, _, rfl, by simp⟩
      · intro hne
        simp_arith []
        exact ⟨trivial, _, rfl, by simp at hne ⊢; exact fun h => absurd h hne⟩
      rintro _ S10 ⟨rfl, b, rfl, hb⟩
      simp_arith []
      refine wr_join (fun L S' => ∃ rows', Rows N rows' ∧ L = [some (.klst (ns.map .int)), some (.int go), some (.ref J), some (.int N), some dt, some (.int turn), some rows'] ∧ JarAt S' J) ?_ ?_ ?_
      · intro hbt
        simp_arith [nt]
        refine wp_wv (great_lot _ hd hF9.1 (hb hbt) h1) ?_
        rintro rows2 S11 ⟨hv2, hF11⟩
        simp_arith []
        exact ⟨rows2, hv2, rfl, hF11.1⟩
      · intro _
        simp_arith []
        exact ⟨rows, hv, rfl, hF9.1⟩
      rintro L S11 ⟨rows', hv', rfl, hJ'⟩
      refine wr_mono (fin rows' S11 hv' hJ') ?_
      rintro o L S12 ⟨rfl, ⟨e, g, rfl⟩, hJ12⟩
      exact ⟨e, g, rfl, hq', hJ12⟩
    · rintro L S7 ⟨e, g, rfl, hq, hJ7⟩
      simp_arith []
      exact ⟨_, _, _, _, _, _, rfl, hq'⟩
    · refine ⟨_, _, rfl, ?_, hF6.1⟩
      intro x hx
      simp only [rangeL, List.mem_map, List.mem_range] at hx
      obtain ⟨i, hi, rfl⟩ := hx
      exact ⟨i, by simp⟩
  · rintro L S1 ⟨a, b, c, e, g, f, rfl, hq⟩
    simp_arith []
  · refine ⟨_, _, _, _, _, _, rfl, ?_⟩
    intro x hx
    simp only [rangeL, List.mem_map, List.mem_range] at hx
    obtain ⟨i, hi, rfl⟩ := hx
    exact ⟨i, by simp, by omega⟩
end K03
open PySem PySem.W PySem.Calls PyProof.Rows
set_option maxRecDepth 100000
set_option maxHeartbeats 0
set_option Elab.async false
namespace He03
theorem chk : (card.slots.all fun s => card.chk1 L.prog s || card.chkHear L.prog s) = true := by decide +kernel
end He03
open PySem PySem.W PySem.Calls PyProof.Rows
set_option maxRecDepth 100000
set_option maxHeartbeats 0
set_option Elab.async false
namespace He03
open L2 LamX Sim
theorem cnS : (card.slots.all fun s => match (findDef L.prog s.2.1).bind fun d => (isHeard d.2.2.1).map fun A => (d, A) with
    | some A => A.2.cn == PySem.Str.ofString "_law_classes"
    | none => true) = true := by decide +kernel
theorem hixC : (card.clss.zipIdx.all fun q => q.1.2 == q.2) = true := by decide +kernel
theorem refC : (("Refused" : PySem.Str), (0 : Nat)) ∈ card.clss := by decide +kernel
theorem noSuper : (L.prog.main.scope.names.lookup ("super" : PySem.Str)).isSome = false := by decide +kernel
abbrev sLaw : Nat × PySem.Str × List PySem.Str × Bool := (40, PySem.Str.ofString "law", [PySem.Str.ofString "script", PySem.Str.ofString "go", PySem.Str.ofString "jar", PySem.Str.ofString "n", PySem.Str.ofString "timed_lot", PySem.Str.ofString "turn", PySem.Str.ofString "rows"], false)
theorem inLaw : sLaw ∈ card.slots := by decide +kernel
theorem chkLaw : card.chk1 L.prog sLaw = true := by decide +kernel
theorem argLaw : ((findDef L.prog sLaw.2.1).bind fun d => argsOf d.2.1) = some [("script" : PySem.Str)] := by decide +kernel
theorem facts {w : World} {K : PySem.W.Frag} {h : Heap} {mg : PySem.Str → Option Value} {fa : Addr} (X : K.In h) (N : h.Ns mainGlobals mg) (S : SaysS (card.fn L.prog) card.tf exK h K) (hfa : mg ("law" : PySem.Str) = some (.ref fa)) :
    LawAtS L w K (L2N.CX L.prog w) 18 63 "script" mg fa h := by
  have hex := S.ex
  unfold exK at hex
  rw [Bool.and_eq_true, Bool.and_eq_true] at hex
  obtain ⟨⟨h1, h2⟩, h3⟩ := hex
  refine law_at (c := card) (s := sLaw) (n := 14) X N S h1 noSuper hixC inLaw rfl chkLaw hfa argLaw ?_ ?_
  · intro base _ _ s hs
    have hc := List.all_eq_true.1 chk s hs
    rw [Bool.or_eq_true] at hc
    rcases hc with hc | hc
    · exact Or.inl hc
    · refine Or.inr (hear_of X N S.fns h1 h2 hixC refC hs ?_ hc)
      intro A hA
      have := List.all_eq_true.1 cnS s hs
      rw [hA] at this
      have hcn : A.2.cn = PySem.Str.ofString "_law_classes" := by simpa using this
      rw [hcn]; exact h3
  · intro ns hl _
    exact K03.law_true 0 [] ns hl
end He03
open PySem PySem.W PySem.Calls PyProof.Rows
set_option maxRecDepth 100000
set_option maxHeartbeats 0
theorem PySem.Challenge.cw_dueslots_k03_plain_rows_and_loads_of_due_holds : PySem.Challenge.rw_dueslots_k03_plain_rows_and_loads_of_due.Holds := by
  w_on; o_law
  refine HandSHeadRun.head_any (r := OpenLaw.row PySem.Challenge.rw_dueslots_k03_plain_rows_and_loads_of_due) (q := He03.qv) (H := He03.hk) (ob := He03.ob) (M := 20000) (loose := He03.names) (d := HandSHeadRun.topDef (OpenLaw.row PySem.Challenge.rw_dueslots_k03_plain_rows_and_loads_of_due).prog 118) (kwd := []) He03.ob_eq
    (by kernel_rfl) (fun s => by kernel_rfl) (fun w => He03.run_parts (He03.run1 w) (He03.run2 w) (He03.run3 w)) (by kernel_rfl) (by kernel_rfl) (by kernel_rfl) (by rfl) (by first | assumption | decide +kernel) (by decide +kernel) ⟨rfl, rfl, rfl, rfl, rfl, by decide +kernel⟩ ?hw ?hc
  case hw => w_witness2
  case hc =>
    refine LamX.walk_ofTsE (l := PySem.Challenge.rw_dueslots_k03_plain_rows_and_loads_of_due) (n := 63) (k := 18) (x := "script") (CX := fun w => L2N.CX PySem.Challenge.rw_dueslots_k03_plain_rows_and_loads_of_due.prog w) rfl (by decide) (by kernel_rfl) ⟨rfl, by decide, by decide⟩ ?F ?X
    case X =>
      intro w H s e s' z
      obtain ⟨a, B, H', cls, d, -, -, -, -, -, -, -, hE⟩ := z
      exact hE
    case F =>
      intro w mg fa h Y G hmg0
      obtain ⟨K, KX, c⟩ := Y
      have hmg : mg ("law" : PySem.Str) = some (.ref fa) := by
        have e : (HandSHeadRun.topDef (OpenLaw.row PySem.Challenge.rw_dueslots_k03_plain_rows_and_loads_of_due).prog 118).name = ("law" : PySem.Str) := by kernel_rfl
        rw [← e]
        exact hmg0
      exact ⟨K, KX, He03.facts KX G c hmg⟩
