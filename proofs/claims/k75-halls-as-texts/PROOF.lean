import PyProof.Rows.All
import Wide.All
import OpenK.AllK
import Wide.FinOn
import HandS.ForMost
import HandS.Wide
import HandS.TupAny
import HandS.IsInst
import HandS.Deep
import HandS.Conv
import HandS.Style
import HandS.Zip
import HandS.Codes
import HandS.RaiseMore
import HandS.Flow
import HandS.CallSlots
import HandS.TryOnly
import HandS.SortOrd
import HandS.SortRule
import KE.KSortTupAny
import KE.GoesEnum
import HandS.WordsExc
import HandS.Small
import PySem.Challenge.RW_errandwide_k75_halls_as_texts
set_option Elab.async false
set_option linter.all false
set_option maxRecDepth 100000
/-! second layer, part a: the language and its evaluator -/
namespace Rs
open PySem PySem.Spec PyProof.Rows L2

/-- values: lists and dicts among them are never written; obj n is the n-th cell -/
inductive I where
  | non | bl (b : Bool) | int (i : Int) | str (s : Str) | tup (xs : List I) | lst (xs : List I)
  | dic (ks : List Key) (xs : List I) | dit (ks : List (List Key)) (xs : List I)
  | scr (ns : List Int) | obj (n : Nat)
  -- a tuple of the written part (a global)
  | wtp (xs : List I)
instance : Inhabited I := ⟨.non⟩
inductive Cell where
  | lst (xs : List I) | dic (ks : List Key) (xs : List I) | dit (ks : List (List Key)) (xs : List I)
  | ins (c : Nat) (fs : List (Str × I))
abbrev Mem := List Cell
abbrev Env := List (Option I)

/-! ### data as the library's -/
mutual
def I.py : I → PyData
  | .non => .none
  | .bl b => .bool b
  | .int i => .int i
  | .str s => .str s
  | .tup xs => .tuple (I.pys xs)
  | .wtp xs => .tuple (I.pys xs)
  | .lst xs => .list (I.pys xs)
  | _ => .none
def I.pys : List I → List PyData
  | [] => []
  | x :: xs => I.py x :: I.pys xs
end
-- data, lists among them 
mutual
def I.pure : I → Bool
  | .non => true
  | .bl _ => true
  | .int _ => true
  | .str _ => true
  | .tup xs => I.pures xs
  | .wtp xs => I.pures xs
  | .lst xs => I.pures xs
  | _ => false
def I.pures : List I → Bool
  | [] => true
  | x :: xs => I.pure x && I.pures xs
end
-- no cell in it 
mutual
def I.flat : I → Bool
  | .obj _ => false
  | .tup xs => I.flats xs
  | .wtp xs => I.flats xs
  | .lst xs => I.flats xs
  | .dic _ xs => I.flats xs
  | .dit _ xs => I.flats xs
  | _ => true
def I.flats : List I → Bool
  | [] => true
  | x :: xs => I.flat x && I.flats xs
end
-- data that nobody can write, whatever was tracked 
mutual
def I.solid : I → Bool
  | .non => true
  | .bl _ => true
  | .int _ => true
  | .str _ => true
  | .tup xs => I.solids xs
  | .wtp xs => I.solids xs
  | _ => false
def I.solids : List I → Bool
  | [] => true
  | x :: xs => I.solid x && I.solids xs
end
mutual
def I.same : I → I → Bool
  | .non, .non => true
  | .bl a, .bl b => decide (a = b)
  | .int a, .int b => decide (a = b)
  | .str a, .str b => decide (a = b)
  | .tup a, .tup b => I.sames a b
  | .wtp a, .wtp b => I.sames a b
  | .lst a, .lst b => I.sames a b
  | .dic j a, .dic k b => decide (j = k) && I.sames a b
  | .dit j a, .dit k b => decide (j = k) && I.sames a b
  | .scr a, .scr b => decide (a = b)
  | .obj a, .obj b => decide (a = b)
  | _, _ => false
def I.sames : List I → List I → Bool
  | [], [] => true
  | x :: xs, y :: ys => I.same x y && I.sames xs ys
  | _, _ => false
end
def I.fit (d : I) : Bool := d.pure && SeqAt.shaped d.py
def eqD (a b : I) : Option Bool := if a.fit && b.fit then some (PyData.eqv a.py b.py) else none

/-! ### cells read -/
/-- a cell's thing, as it is now -/
def sh (M : Mem) : I → I
  | .obj n => match M[n]? with
    | some (.lst xs) => .lst xs
    | some (.dic ks xs) => .dic ks xs
    | some (.dit ks xs) => .dit ks xs
    | _ => .obj n
  | x => x
/-- everything that the cells hold, as it is now -/
def frz (M : Mem) : Nat → I → Option I
  | 0, x => if x.flat then some x else none
  | k + 1, .tup xs => (xs.mapM (frz M k)).map .tup
  | k + 1, .wtp xs => (xs.mapM (frz M k)).map .wtp
  | k + 1, .lst xs => (xs.mapM (frz M k)).map .lst
  | k + 1, .dic ks xs => (xs.mapM (frz M k)).map (.dic ks)
  | k + 1, .dit ks xs => (xs.mapM (frz M k)).map (.dit ks)
  | k + 1, .obj n => match M[n]? with
    | some (.lst xs) => (xs.mapM (frz M k)).map .lst
    | some (.dic ks xs) => (xs.mapM (frz M k)).map (.dic ks)
    | some (.dit ks xs) => (xs.mapM (frz M k)).map (.dit ks)
    | _ => none
  | _ + 1, x => some x
def dpt : Nat := 12

/-! ### operations by values -/
inductive Ty where
  | int | str | tuple | list | bool | dict
  deriving DecidableEq
def Ty.name : Ty → String
  | .int => "int" | .str => "str" | .tuple => "tuple" | .list => "list" | .bool => "bool" | .dict => "dict"
inductive Op where
  | add | sub | mul | fdiv | mod | pow | neg
  | eq | ne | lt | le | gt | ge | isN | notN | inn | notin | isB (neg b : Bool)
  | ix | slice (lo hi : Bool) | rev | revT
  | len | abs | sum | tuple | list | int | str | bool | all | any | repr
  | min | max | sorted
  | isT (t : Ty)
  deriving DecidableEq
/-- methods that change nothing -/
inductive Mth where
  | join | split | get1 | get2 | index
  deriving DecidableEq

def I.ty : I → Option Ty
  | .bl _ => some .bool
  | .int _ => some .int
  | .str _ => some .str
  | .tup _ => some .tuple
  | .wtp _ => some .tuple
  | .lst _ => some .list
  | .dic _ _ => some .dict
  | .dit _ _ => some .dict
  | _ => none
def isTy : I → Ty → Option Bool
  | .non, _ => some false
  | d, t => match d.ty with
    | some u => some (decide (u = t) || (decide (u = .bool) && decide (t = .int)))
    | none => none
def intsI : List I → Option (List Int)
  | [] => some []
  | .int x :: ds => (intsI ds).map (x :: ·)
  | _ :: _ => none
def boolsI : List I → Option (List Bool)
  | [] => some []
  | .bl x :: ds => (boolsI ds).map (x :: ·)
  | _ :: _ => none
def strsI : List I → Option (List Str)
  | [] => some []
  | .str x :: ds => (strsI ds).map (x :: ·)
  | _ :: _ => none

def truth : I → Option Bool
  | .non => some false
  | .bl b => some b
  | .int n => some (n != 0)
  | .str s => if s.length ≤ sizeLine then some ((s.length : Int) != 0) else none
  | .tup xs => some (!xs.isEmpty)
  | .wtp xs => some (!xs.isEmpty)
  | .lst xs => some (!xs.isEmpty)
  | _ => none
def addD : I → I → Option I
  | .int a, .int b => some (.int (a + b))
  | .str a, .str b => if a.length + b.length ≤ sizeLine then some (.str (a ++ b)) else none
  | .tup a, .tup b => if a.length + b.length ≤ sizeLine then some (.tup (a ++ b)) else none
  | .lst a, .lst b => if a.length + b.length ≤ sizeLine then some (.lst (a ++ b)) else none
  | _, _ => none
def subD : I → I → Option I
  | .int a, .int b => some (.int (a - b))
  | _, _ => none
def mulD : I → I → Option I
  | .int a, .int b => if a.natAbs.log2 + b.natAbs.log2 < 1000000 then some (.int (a * b)) else none
  | .lst a, .int k => if -(2 ^ 63) ≤ k ∧ k < 2 ^ 63 ∧ a.length * k.toNat ≤ sizeLine then some (.lst (List.replicate k.toNat a).flatten) else none
  | _, _ => none
def fdivD : I → I → Option I
  | .int a, .int b => if 0 < b ∧ b.natAbs.log2 < 9000 then some (.int (a / b)) else none
  | _, _ => none
def modD : I → I → Option I
  | .int a, .int b => if 0 < b then some (.int (a % b)) else none
  | _, _ => none
def powD : I → I → Option I
  | .int a, .int b => if 0 ≤ b ∧ b ≤ 1000000 ∧ a.natAbs < 2 ^ 64 then some (.int (a ^ b.toNat)) else none
  | _, _ => none
def negD : I → Option I
  | .int a => some (.int (-a))
  | _ => none
def cmpI (f : Int → Int → Bool) (g : List Nat → List Nat → Option Bool) : I → I → Option I
  | .int a, .int b => some (.bl (f a b))
  | .str a, .str b => (g a.cps.toList b.cps.toList).map .bl
  | _, _ => none
def ltD : I → I → Option I
  | .tup a, .tup b => match intsI a, intsI b with
    | some m, some n => some (.bl (HT.lexLt m n))
    | _, _ => none
  | a, b => cmpI (fun i j => decide (i < j)) (fun i j => some (decide (i < j))) a b
def tupsL : List I → Option (List (List Int))
  | [] => some []
  | .tup x :: xs => match intsI x, tupsL xs with
    | some n, some l => some (n :: l)
    | _, _ => none
  | _ :: _ => none
def insT (n : List Int) : List (List Int) → List (List Int)
  | [] => [n]
  | m :: l => if HT.lexLt n m then n :: m :: l else m :: insT n l
def sortL : List (List Int) → List (List Int)
  | [] => []
  | n :: l => insT n (sortL l)
def keyD : Key → I
  | .inl n => .int n
  | .inr s => .str s
def isN : I → Option I
  | .non => some (.bl true)
  | .obj _ => some (.bl false)
  | _ => some (.bl false)
/-- is True, is not False .. : of truths alone -/
def isBo (b : Bool) : I → Option Bool
  | .bl c => some (decide (c = b))
  | _ => none
def keyI : I → Option Key
  | .int n => some (.inl n)
  | .str s => some (.inr s)
  | _ => none
def keysI : List I → Option (List Key)
  | [] => some []
  | x :: xs => match keyI x, keysI xs with
    | some k, some ks => some (k :: ks)
    | _, _ => none
/-- a dict's value at a key -/
def atK {κ β : Type} [DecidableEq κ] : List κ → List β → κ → Option β
  | k :: ks, x :: xs, j => if k = j then some x else atK ks xs j
  | _, _, _ => none
/-- data without parts -/
def I.scal : I → Bool
  | .non => true
  | .bl _ => true
  | .int _ => true
  | .str _ => true
  | _ => false
def I.v : I → V
  | .bl b => .bl b
  | .int i => .int i
  | .str s => .str s
  | _ => .non
def inT (x : I) (ys : List I) : Option Bool := if x.scal && ys.all I.scal then some (inV x.v (ys.map I.v)) else none
def innD : I → I → Option Bool
  | .str s, .str z => if s.length = 1 then some (decide (s.cps.getD 0 0 ∈ z.cps.toList)) else none
  | x, .lst ys => if x.fit && (I.lst ys).fit then some ((I.pys ys).any fun z => PyData.eqv z x.py) else none
  | x, .tup ys => inT x ys
  | x, .wtp ys => inT x ys
  | x, .dic ks vs => match keyI x with
    | some k => some (atK ks vs k).isSome
    | none => none
  | .tup x, .dit ks vs => match keysI x with
    | some k => some (atK ks vs k).isSome
    | none => none
  | _, _ => none
def dicD (ks : List Key) (vs : List I) (x : I) : Option I := match keyI x with
  | some k => atK ks vs k
  | none => none
def ixD : I → I → Option I
  | .scr ns, .int k => (atI ns k).map .int
  | .lst xs, .int k => atI xs k
  | .tup xs, .int k => atI xs k
  | .wtp xs, .int k => atI xs k
  | .str z, .int k => if z.length ≤ sizeLine then (atI z.cps.toList k).map fun c => .str ⟨#[c]⟩ else none
  | .dic ks vs, x => dicD ks vs x
  | .dit ks vs, .tup x => match keysI x with
    | some k => atK ks vs k
    | none => none
  | _, _ => none
def cut {α : Type} (xs : List α) (lo hi : Option Int) : List α := (xs.drop (HT.sIx xs.length 0 lo)).take (HT.sIx xs.length xs.length hi - HT.sIx xs.length 0 lo)
def sliceD : I → Option Int → Option Int → Option I
  | .lst xs, lo, hi => some (.lst (cut xs lo hi))
  | .tup xs, lo, hi => some (.tup (cut xs lo hi))
  | .str z, lo, hi => if z.length ≤ sizeLine then some (.str (cutS z lo hi)) else none
  | .scr ns, lo, hi => some (.lst (cut (ns.map .int) lo hi))
  | _, _, _ => none
def lenD : I → Option I
  | .scr ns => some (.int ns.length)
  | .lst xs => some (.int xs.length)
  | .tup xs => some (.int xs.length)
  | .wtp xs => some (.int xs.length)
  | .dic ks _ => some (.int ks.length)
  | .str s => if s.length ≤ sizeLine then some (.int s.length) else none
  | _ => none
def revD : I → Option I
  | .lst xs => some (.lst xs.reverse)
  | _ => none
def revT : I → Option I
  | .tup xs => some (.tup xs.reverse)
  | _ => none
def intI : I → Option Int
  | .int n => some n
  | _ => none
def strI : I → Option Str
  | .str n => some n
  | _ => none

def opD : Op → List I → Option I
  | .add, [a, b] => addD a b
  | .sub, [a, b] => subD a b
  | .mul, [a, b] => mulD a b
  | .fdiv, [a, b] => fdivD a b
  | .mod, [a, b] => modD a b
  | .pow, [a, b] => powD a b
  | .neg, [a] => negD a
  | .eq, [a, b] => (eqD a b).map .bl
  | .ne, [a, b] => (eqD a b).map fun r => .bl (!r)
  | .lt, [a, b] => ltD a b
  | .le, [a, b] => cmpI (fun i j => decide (i ≤ j)) (fun _ _ => none) a b
  | .gt, [a, b] => cmpI (fun i j => decide (j < i)) (fun _ _ => none) a b
  | .ge, [a, b] => cmpI (fun i j => decide (j ≤ i)) (fun _ _ => none) a b
  | .isN, [a] => isN a
  | .notN, [a] => (isN a).bind fun r => match r with
    | .bl b => some (.bl (!b))
    | _ => none
  | .isB ng b, [a] => (isBo b a).map fun r => .bl (if ng then !r else r)
  | .inn, [a, b] => (innD a b).map .bl
  | .notin, [a, b] => (innD a b).map fun r => .bl (!r)
  | .ix, [a, b] => ixD a b
  | .slice false false, [a] => sliceD a none none
  | .slice true false, [a, b] => match b with
    | .int lo => sliceD a (some lo) none
    | _ => none
  | .slice false true, [a, b] => match b with
    | .int hi => sliceD a none (some hi)
    | _ => none
  | .rev, [a] => revD a
  | .revT, [a] => revT a
  | .len, [a] => lenD a
  | .abs, [a] => match a with
    | .int n => some (.int (if n < 0 then -n else n))
    | _ => none
  | .sum, [a] => match a with
    | .lst xs => (intsI xs).map fun ns => .int ns.sum
    | _ => none
  | .tuple, [a] => match a with
    | .lst xs => some (.tup xs)
    | .tup xs => some (.tup xs)
    | _ => none
  | .list, [a] => match a with
    | .lst xs => some (.lst xs)
    | .tup xs => some (.lst xs)
    | .dit ks _ => some (.lst (ks.map fun k => .tup (k.map keyD)))
    | _ => none
  | .int, [a] => match a with
    | .int n => some (.int n)
    | .bl b => some (.int (if b then 1 else 0))
    | .str s => if s.length ≤ 640 then (PySem.intText? s).map .int else none
    | _ => none
  | .str, [a] => match a with
    | .int n => if n.natAbs.log2 < 1920 then some (.str (toString n)) else none
    | .str s => some (.str s)
    | _ => none
  | .bool, [a] => match a with
    | .int n => some (.bl (n != 0))
    | .bl b => some (.bl b)
    | _ => none
  | .all, [a] => match a with
    | .lst xs => (boolsI xs).map fun bs => .bl (bs.all id)
    | _ => none
  | .any, [a] => match a with
    | .lst xs => (boolsI xs).map fun bs => .bl (bs.any id)
    | _ => none
  | .min, [a, b] => match a, b with
    | .int m, .int n => some (.int (if n < m then n else m))
    | _, _ => none
  | .max, [a, b] => match a, b with
    | .int m, .int n => some (.int (if m < n then n else m))
    | _, _ => none
  | .sorted, [a] => match a with
    | .lst xs => (tupsL xs).map fun l => .lst ((sortL l).map fun n => .tup (n.map .int))
    | _ => none
  | .isT t, [a] => (isTy a t).map .bl
  | _, _ => none
/-- operations that look at all that their parts hold -/
def Op.deep : Op → Bool
  | .eq => true | .ne => true | .inn => true | .notin => true | .repr => true
  | _ => false
/-- operations whose list is a new one -/
def Op.makes : Op → Bool
  | .add => true | .mul => true | .slice _ _ => true | .rev => true | .list => true | .sorted => true
  | _ => false
def prep (o : Op) (M : Mem) (vs : List I) : Option (List I) := if o.deep then vs.mapM (frz M dpt) else some (vs.map (sh M))
def opM (o : Op) (M : Mem) (vs : List I) : Option I := (prep o M vs).bind (opD o)

/-- the receiver of a method -/
def recv : Mth → I → Bool
  | .join, .str _ => true
  | .split, .str _ => true
  | .get1, .dic _ _ => true
  | .get2, .dic _ _ => true
  | .index, .lst _ => true
  | _, _ => false
/-- the first place of a thing -/
def firstAt (ds : List PyData) (d : PyData) : Option Nat := ds.findIdx? fun z => PyData.eqv z d
def mthD (M : Mem) : Mth → I → List I → Option I
  | .join, .str s, [b] => match sh M b with
    | .lst ys => (strsI ys).bind fun zs => if (zs.map (·.length)).sum + zs.length * s.length ≤ 16777216 then some (.str (Txt.join s zs)) else none
    | _ => none
  | .split, .str s, [.str t] => if (t.length == 0) = false ∧ s.length + 2 ≤ sizeLine then some (.lst ((Txt.split s t).map .str)) else none
  | .get1, a, [b] => match sh M a with
    | .dic ks vs => (keyI b).map fun k => (atK ks vs k).getD .non
    | _ => none
  | .get2, a, [b, c] => match sh M a with
    | .dic ks vs => (keyI b).map fun k => (atK ks vs k).getD c
    | _ => none
  | .index, a, [b] => match frz M dpt a, frz M dpt b with
    | some (.lst ys), some z => if (I.lst ys).fit && z.fit then (firstAt (I.pys ys) z.py).map fun (n : Nat) => I.int (n : Int) else none
    | _, _ => none
  | _, _, _ => none

/-! ### results -/
inductive R (α : Type) where
  | ok (a : α) (M : Mem) | ex (c : Nat) (M : Mem) | no
def R.bind {α β : Type} (r : R α) (f : α → Mem → R β) : R β := match r with
  | .ok a M => f a M
  | .ex c M => .ex c M
  | .no => .no
def R.of {α : Type} (o : Option α) (M : Mem) : R α := match o with
  | some a => .ok a M
  | none => .no
/-- what may not raise -/
def R.calm {α : Type} : R α → R α
  | .ok a M => .ok a M
  | _ => .no
abbrev Oracle := Nat → List I → Mem → R I

/-! ### the language -/
mutual
inductive C where
  | const (x : I)
  | glob (x : Str) (v : I)
  | var (i : Nat)
  | op (o : Op) (as : Cs)
  | disp (t : Bool) (as : Cs)
  | cell (c : C)
  | dict (t : Bool)
  | call (f : Nat) (as : Cs)
  | callk (f : Nat) (ord : List Nat) (as : Cs)
  | and (a b : C)
  | or (a b : C)
  | not (a : C)
  | ife (t a b : C)
  | chain (o p : Op) (a b c : C)
  | sl2 (a b c : C)
  | meth (m : Mth) (o : C) (as : Cs)
  | comp (own : List Nat) (elt : C) (g : Tg) (it : It) (ifs : Cs)
  | app (o a : C)
  | pop (o : C)
  | ext (o a : C)
inductive Cs where
  | nil
  | cons (c : C) (cs : Cs)
/-- targets -/
inductive Tg where
  | nm (i : Nat)
  | tup (ts : Tgs)
inductive Tgs where
  | nil
  | cons (t : Tg) (ts : Tgs)
/-- what a loop walks -/
inductive It where
  | seq (c : C)
  | range (as : Cs)
  | enum (c : C)
  | zip (a b : C)
end
mutual
inductive S where
  | asg (g : Tg) (e : C)
  | ex (c : C)
  | aug (i : Nat) (o : Op) (c : C)
  | seti (o ix e : C)
  | cond (t : C) (a b : Ss)
  | loop (t : C) (b : Ss)
  | each (g : Tg) (it : It) (b : Ss)
  | ret (e : C)
  | retN
  | pass
  | brk
  | cont
  | raise (c : Nat)
  | stuck
inductive Ss where
  | nil
  | cons (s : S) (ss : Ss)
end

/-! ### the evaluator -/
def asgI (i : Nat) (v : I) (τ : Env) : Option Env := if i < τ.length then some (τ.set i (some v)) else none
mutual
def asgT : Tg → I → Env → Option Env
  | .nm i, v, τ => asgI i v τ
  | .tup ts, .tup xs, τ => asgTs ts xs τ
  | .tup ts, .wtp xs, τ => asgTs ts xs τ
  | .tup _, _, _ => none
def asgTs : Tgs → List I → Env → Option Env
  | .nil, [], τ => some τ
  | .cons t ts, v :: vs, τ => (asgT t v τ).bind fun τ1 => asgTs ts vs τ1
  | _, _, _ => none
end
def wipeE (own : List Nat) (τ : Env) : Env := own.foldr (fun i τ => τ.set i none) τ

/-- what one walks: items that stay, or a cell's list -/
inductive Src where
  | vals (xs : List I) | cell (n : Nat)
def seqItems (M : Mem) : I → Option Src
  | .tup xs => some (.vals xs)
  | .wtp xs => some (.vals xs)
  | .str s => some (.vals (s.cps.toList.map fun c => .str ⟨#[c]⟩))
  | .scr ns => some (.vals (ns.map .int))
  | .lst xs => some (.vals xs)
  | .obj n => match M[n]? with
    | some (.lst _) => some (.cell n)
    | _ => none
  | _ => none
def rangeItems : List I → Option (List I)
  | [.int n] => if -(2 ^ 62) ≤ n ∧ n < 2 ^ 62 then some ((List.range n.toNat).map fun k : Nat => .int (k : Int)) else none
  | [.int a, .int b] => if -(2 ^ 62) ≤ a ∧ a < 2 ^ 62 ∧ -(2 ^ 62) ≤ b ∧ b < 2 ^ 62 then some ((List.range (b - a).toNat).map fun k : Nat => .int (a + (k : Int))) else none
  | _ => none
def listItems : I → Option (List I)
  | .tup xs => some xs
  | .lst xs => some xs
  | _ => none
def sameKind : I → I → Bool
  | .tup _, .tup _ => true
  | .lst _, .lst _ => true
  | _, _ => false
def enumI : Nat → List I → List I
  | _, [] => []
  | k, x :: xs => .tup [.int (k : Int), x] :: enumI (k + 1) xs
def zipI : List I → List I → List I
  | x :: xs, y :: ys => .tup [x, y] :: zipI xs ys
  | _, _ => []

def compL (g : I → Mem → R (Option I)) : List I → List I → Mem → R (List I)
  | [], acc, M => .ok acc M
  | v :: vs, acc, M => match g v M with
    | .ok (some d) M1 => if acc.length < sizeLine then compL g vs (acc ++ [d]) M1 else .no
    | .ok none M1 => compL g vs acc M1
    | _ => .no
def cellItem (M : Mem) (n i : Nat) : Option (Option I) := match M[n]? with
  | some (.lst xs) => some xs[i]?
  | _ => none
def compG (nth : Mem → Nat → Option (Option I)) (g : I → Mem → R (Option I)) : Nat → Nat → List I → Mem → R (List I)
  | 0, _, _, _ => .no
  | w + 1, i, acc, M => match nth M i with
    | some none => .ok acc M
    | some (some v) => match g v M with
      | .ok (some d) M1 => if acc.length < sizeLine then compG nth g w (i + 1) (acc ++ [d]) M1 else .no
      | .ok none M1 => compG nth g w (i + 1) acc M1
      | _ => .no
    | none => .no
/-- a display -/
def dispD (t : Bool) (vs : List I) : Option I := if vs.length ≤ 1000 then some (if t then .tup vs else .lst vs) else none
def toCell : I → Option Cell
  | .lst xs => some (.lst xs)
  | .dic ks xs => some (.dic ks xs)
  | .dit ks xs => some (.dit ks xs)
  | _ => none
mutual
def evE (Φ : Oracle) : C → Env → Mem → R I
  | .const x, _, M => .ok x M
  | .glob _ v, _, M => .ok v M
  | .var i, τ, M => match τ[i]? with
    | some (some x) => .ok x M
    | _ => .no
  | .op o as, τ, M => (evEs Φ as τ M).bind fun vs M1 => .of (opM o M1 vs) M1
  | .disp t as, τ, M => (evEs Φ as τ M).bind fun vs M1 => .of (dispD t vs) M1
  | .cell c, τ, M => (evE Φ c τ M).bind fun v M1 => match toCell v with
    | some cc => .ok (.obj M1.length) (M1 ++ [cc])
    | none => .no
  | .dict t, _, M => .ok (if t then .dit [] [] else .dic [] []) M
  | .call f as, τ, M => (evEs Φ as τ M).bind fun vs M1 => Φ f vs M1
  | .callk f ord as, τ, M => (evEs Φ as τ M).bind fun vs M1 => match ord.mapM fun j => vs[j]? with
    | some us => if us.length = vs.length then Φ f us M1 else .no
    | none => .no
  | .and a b, τ, M => (evE Φ a τ M).bind fun v M1 => match truth (sh M1 v) with
    | some true => evE Φ b τ M1
    | some false => .ok v M1
    | none => .no
  | .or a b, τ, M => (evE Φ a τ M).bind fun v M1 => match truth (sh M1 v) with
    | some true => .ok v M1
    | some false => evE Φ b τ M1
    | none => .no
  | .not a, τ, M => (evE Φ a τ M).bind fun v M1 => .of ((truth (sh M1 v)).map fun b => .bl !b) M1
  | .ife t a b, τ, M => (evE Φ t τ M).bind fun v M1 => match truth (sh M1 v) with
    | some true => evE Φ a τ M1
    | some false => evE Φ b τ M1
    | none => .no
  | .chain o p a b c, τ, M => (evE Φ a τ M).bind fun x M1 => (evE Φ b τ M1).bind fun y M2 => match opM o M2 [x, y] with
    | some (.bl true) => (evE Φ c τ M2).bind fun z M3 => .of (opM p M3 [y, z]) M3
    | some (.bl false) => .ok (.bl false) M2
    | _ => .no
  | .sl2 a b c, τ, M => (evE Φ a τ M).bind fun x M1 => (evE Φ b τ M1).bind fun y M2 => match y with
    | .int lo => (evE Φ c τ M2).bind fun z M3 => match z with
      | .int hi => .of (sliceD (sh M3 x) (some lo) (some hi)) M3
      | _ => .no
    | _ => .no
  | .meth m o as, τ, M => (evE Φ o τ M).bind fun v M1 => if recv m (sh M1 v) then (evEs Φ as τ M1).bind fun vs M2 => .of (mthD M2 m v vs) M2 else .no
  | .comp own elt g it ifs, τ, M => (evIt Φ it τ M).bind fun src M1 =>
    let f : I → Mem → R (Option I) := fun v M2 => match asgT g v (wipeE own τ) with
      | some τ2 => match evT Φ ifs τ2 M2 with
        | .ok true M3 => match evE Φ elt τ2 M3 with
          | .ok d M4 => .ok (some d) M4
          | _ => .no
        | .ok false M3 => .ok none M3
        | _ => .no
      | none => .no
    match src with
    | .vals xs => (compL f xs [] M1).bind fun r M2 => .ok (.lst r) M2
    | .cell n => (compG (cellItem · n) f 1000000 0 [] M1).bind fun r M2 => .ok (.lst r) M2
  | .app o a, τ, M => (evE Φ o τ M).bind fun v M1 => match v with
    | .obj n => match M1[n]? with
      | some (.lst _) => (evE Φ a τ M1).bind fun d M2 => match M2[n]? with
        | some (.lst xs) => if xs.length < sizeLine then .ok .non (M2.set n (.lst (xs ++ [d]))) else .no
        | _ => .no
      | _ => .no
    | _ => .no
  | .pop o, τ, M => (evE Φ o τ M).bind fun v M1 => match v with
    | .obj n => match M1[n]? with
      | some (.lst xs) => match xs.getLast? with
        | some d => .ok d (M1.set n (.lst xs.dropLast))
        | none => .no
      | _ => .no
    | _ => .no
  | .ext o a, τ, M => (evE Φ o τ M).bind fun v M1 => match v with
    | .obj n => match M1[n]? with
      | some (.lst _) => (evE Φ a τ M1).bind fun d M2 => match M2[n]? with
        | some (.lst xs) => match sh M2 d with
          | .lst ys => if xs.length + ys.length ≤ sizeLine then .ok .non (M2.set n (.lst (xs ++ ys))) else .no
          | _ => .no
        | _ => .no
      | _ => .no
    | _ => .no
def evEs (Φ : Oracle) : Cs → Env → Mem → R (List I)
  | .nil, _, M => .ok [] M
  | .cons c cs, τ, M => (evE Φ c τ M).bind fun v M1 => (evEs Φ cs τ M1).bind fun vs M2 => .ok (v :: vs) M2
/-- tests of a comprehension, one behind the other -/
def evT (Φ : Oracle) : Cs → Env → Mem → R Bool
  | .nil, _, M => .ok true M
  | .cons c cs, τ, M => (evE Φ c τ M).bind fun v M1 => match truth (sh M1 v) with
    | some true => evT Φ cs τ M1
    | some false => .ok false M1
    | none => .no
def evIt (Φ : Oracle) : It → Env → Mem → R Src
  | .seq c, τ, M => (evE Φ c τ M).bind fun v M1 => .of (seqItems M1 v) M1
  | .range as, τ, M => (evEs Φ as τ M).bind fun vs M1 => .of ((rangeItems vs).map .vals) M1
  | .enum c, τ, M => (evE Φ c τ M).bind fun v M1 => .of ((listItems v).map fun xs => .vals (enumI 0 xs)) M1
  | .zip a b, τ, M => (evE Φ a τ M).bind fun v M1 => (evE Φ b τ M1).bind fun u M2 => match listItems v, listItems u with
    | some xs, some ys => if sameKind v u then .ok (.vals (zipI xs ys)) M2 else .no
    | _, _ => .no
end

/-- one item of a comprehension -/
def compP (Φ : Oracle) (own : List Nat) (elt : C) (g : Tg) (ifs : Cs) (τ : Env) : I → Mem → R (Option I) := fun v M2 => match asgT g v (wipeE own τ) with
      | some τ2 => match evT Φ ifs τ2 M2 with
        | .ok true M3 => match evE Φ elt τ2 M3 with
          | .ok d M4 => .ok (some d) M4
          | _ => .no
        | .ok false M3 => .ok none M3
        | _ => .no
      | none => .no

/-! ### statements -/
inductive Out where
  | nx (τ : Env) (M : Mem)
  | ret (v : I) (M : Mem)
  | brk (τ : Env) (M : Mem)
  | cont (τ : Env) (M : Mem)
  | ex (c : Nat) (τ : Env) (M : Mem)
/-- .. behind an expression's result -/
def R.out {α : Type} (r : R α) (τ : Env) (f : α → Mem → Option Out) : Option Out := match r with
  | .ok a M => f a M
  | .ex c M => some (.ex c τ M)
  | .no => none
def loopW (t : Env → Mem → R I) (b : Env → Mem → Option Out) : Nat → Env → Mem → Option Out
  | 0, _, _ => none
  | n + 1, τ, M => (t τ M).out τ fun v M1 => match truth (sh M1 v) with
    | some true => match b τ M1 with
      | some (.nx τ2 M2) => loopW t b n τ2 M2
      | some (.cont τ2 M2) => loopW t b n τ2 M2
      | some (.brk τ2 M2) => some (.nx τ2 M2)
      | r => r
    | some false => some (.nx τ M1)
    | none => none
def eachL (g : Tg) (b : Env → Mem → Option Out) : List I → Env → Mem → Option Out
  | [], τ, M => some (.nx τ M)
  | v :: vs, τ, M => match asgT g v τ with
    | some τ1 => match b τ1 M with
      | some (.nx τ2 M2) => eachL g b vs τ2 M2
      | some (.cont τ2 M2) => eachL g b vs τ2 M2
      | some (.brk τ2 M2) => some (.nx τ2 M2)
      | r => r
    | none => none
def eachG (nth : Mem → Nat → Option (Option I)) (g : Tg) (b : Env → Mem → Option Out) : Nat → Nat → Env → Mem → Option Out
  | 0, _, _, _ => none
  | w + 1, i, τ, M => match nth M i with
    | some none => some (.nx τ M)
    | some (some v) => match asgT g v τ with
      | some τ1 => match b τ1 M with
        | some (.nx τ2 M2) => eachG nth g b w (i + 1) τ2 M2
        | some (.cont τ2 M2) => eachG nth g b w (i + 1) τ2 M2
        | some (.brk τ2 M2) => some (.nx τ2 M2)
        | r => r
      | none => none
    | none => none
def putAt (xs : List I) (k : Int) (d : I) : Option (List I) := (ixN xs.length k).map fun j => xs.set j d
def putV {κ : Type} [DecidableEq κ] : List κ → List I → κ → I → List I
  | k :: ks, x :: xs, j, d => (if k = j then d else x) :: putV ks xs j d
  | _, xs, _, _ => xs
def putK {κ : Type} [DecidableEq κ] (ks : List κ) (xs : List I) (j : κ) (d : I) : List κ × List I :=
  if (ks.any fun k => decide (k = j)) = true then (ks, putV ks xs j d) else (ks ++ [j], xs ++ [d])
def setC : Cell → I → I → Option Cell
  | .lst xs, .int k, d => (putAt xs k d).map .lst
  | .dic ks xs, x, d => match keyI x with
    | some k => if ks.length < sizeLine then some (.dic (putK ks xs k d).1 (putK ks xs k d).2) else none
    | none => none
  | .dit ks xs, .tup x, d => match keysI x with
    | some k => if ks.length < sizeLine then some (.dit (putK ks xs k d).1 (putK ks xs k d).2) else none
    | none => none
  | _, _, _ => none
mutual
def evS (Φ : Oracle) (W : Nat) : S → Env → Mem → Option Out
  | .asg g e, τ, M => (evE Φ e τ M).out τ fun v M1 => (asgT g v τ).map fun τ2 => .nx τ2 M1
  | .ex c, τ, M => (evE Φ c τ M).out τ fun _ M1 => some (.nx τ M1)
  | .aug i o c, τ, M => match τ[i]? with
    | some (some (.int x)) => (evE Φ c τ M).out τ fun v M1 => match v with
      | .int y => match o with
        | .add => some (.nx (τ.set i (some (.int (x + y)))) M1)
        | .sub => some (.nx (τ.set i (some (.int (x - y)))) M1)
        | _ => none
      | _ => none
    | _ => none
  | .seti o ix e, τ, M => (evE Φ e τ M).out τ fun d M1 => (evE Φ o τ M1).out τ fun v M2 => (evE Φ ix τ M2).out τ fun k M3 => match v with
    | .obj n => match M3[n]? with
      | some c => (setC c k d).map fun c' => .nx τ (M3.set n c')
      | none => none
    | _ => none
  | .cond t a b, τ, M => (evE Φ t τ M).out τ fun v M1 => match truth (sh M1 v) with
    | some true => evSs Φ W a τ M1
    | some false => evSs Φ W b τ M1
    | none => none
  | .loop t b, τ, M => loopW (evE Φ t) (evSs Φ W b) W τ M
  | .each g it b, τ, M => (evIt Φ it τ M).out τ fun src M1 => match src with
    | .vals xs => eachL g (evSs Φ W b) xs τ M1
    | .cell n => eachG (cellItem · n) g (evSs Φ W b) W 0 τ M1
  | .ret e, τ, M => (evE Φ e τ M).out τ fun v M1 => some (.ret v M1)
  | .retN, _, M => some (.ret .non M)
  | .pass, τ, M => some (.nx τ M)
  | .brk, τ, M => some (.brk τ M)
  | .cont, τ, M => some (.cont τ M)
  | .raise c, τ, M => some (.ex c τ M)
  | .stuck, _, _ => none
def evSs (Φ : Oracle) (W : Nat) : Ss → Env → Mem → Option Out
  | .nil, τ, M => some (.nx τ M)
  | .cons s ss, τ, M => match evS Φ W s τ M with
    | some (.nx τ1 M1) => evSs Φ W ss τ1 M1
    | r => r
end

/-! ### defs -/
structure Fn where
  np : Nat
  ns : Nat
  body : Ss
  /-- it runs in its caller's cells -/
  full : Bool
  /-- the parameters whose cells it may write -/
  mt : List Nat
def objI : I → Option Nat
  | .obj n => some n
  | _ => none
def Cell.flat : Cell → Bool
  | .lst xs => I.flats xs
  | .dic _ xs => I.flats xs
  | .dit _ xs => I.flats xs
  | .ins _ _ => false
def Cell.solid : Cell → Bool
  | .lst xs => I.solids xs
  | .dic _ xs => I.solids xs
  | .dit _ xs => I.solids xs
  | .ins _ _ => false
/-- the cells ns are not to be looked at -/
def mask (ns : List Nat) (M : Mem) : Mem := ns.foldr (fun n M => M.set n (.ins 0 [])) M
/-- arguments as the callee sees them -/
def inArgs (mt : List Nat) (M : Mem) : Nat → List I → Option (List I)
  | _, [] => some []
  | i, v :: vs => (if mt.contains i then (mt.idxOf? i).map I.obj else frz M dpt v).bind fun u => (inArgs mt M (i + 1) vs).map (u :: ·)
def frzC (M : Mem) : Cell → Option Cell
  | .lst xs => (xs.mapM (frz M dpt)).map .lst
  | .dic ks xs => (xs.mapM (frz M dpt)).map (.dic ks)
  | .dit ks xs => (xs.mapM (frz M dpt)).map (.dit ks)
  | .ins _ _ => none
def putCells : List Nat → List Cell → Mem → Mem
  | n :: ns, c :: cs, M => putCells ns cs (M.set n c)
  | _, _, M => M
def outVal (ns : List Nat) (M1 : Mem) (v : I) : Option I := match (objI v).bind (ns[·]?) with
  | some n => some (.obj n)
  | none => frz (mask (List.range ns.length) M1) dpt v
/-- behind the callee: what it hands back, the cells that it was handed -/
def outRes (ns : List Nat) (lent : Bool) (r : Option I) (M1 : Mem) (M : Mem) : Option (Option I × Mem) :=
  match (M1.take ns.length).mapM (frzC (mask (List.range ns.length) M1)) with
  | some cs => if cs.length = ns.length ∧ (lent = true → cs.all Cell.solid = true) then
      match r with
      | none => some (none, putCells ns cs M)
      | some v => match outVal ns M1 v with
        | some u => if lent = true ∧ u.solid = false ∧ (objI u).isNone then none else some (some u, putCells ns cs M)
        | none => none
    else none
  | none => none
def evCall (P : Nat → Option Fn) (W : Nat) : Nat → Oracle
  | 0, _, _, _ => .no
  | k + 1, f, args, M => match P f with
    | some fn => if args.length = fn.np then
        if fn.full then
          match evSs (evCall P W k) W fn.body (args.map some ++ List.replicate (fn.ns - fn.np) none) M with
          | some (.nx _ M1) => .ok .non M1
          | some (.ret v M1) => .ok v M1
          | some (.ex c _ M1) => .ex c M1
          | _ => .no
        else match fn.mt.mapM fun i => (args[i]?).bind objI with
          | some ns => match ns.mapM (M[·]?), inArgs fn.mt (mask ns M) 0 args with
            | some cs, some us => if ns.Nodup ∧ cs.all Cell.flat = true then
                let lent := !(I.flats ((List.range args.length).filterMap fun i => if fn.mt.contains i then none else args[i]?))
                match evSs (evCall P W k) W fn.body (us.map some ++ List.replicate (fn.ns - fn.np) none) cs with
                | some (.nx _ M1) => match outRes ns lent (some .non) M1 M with
                  | some (some v, M2) => .ok v M2
                  | _ => .no
                | some (.ret v M1) => match outRes ns lent (some v) M1 M with
                  | some (some v, M2) => .ok v M2
                  | _ => .no
                | some (.ex c _ M1) => match outRes ns lent none M1 M with
                  | some (_, M2) => .ex c M2
                  | none => .no
                | _ => .no
              else .no
            | _, _ => .no
          | none => .no
      else .no
    | none => .no
end Rs

/-! second layer, part b: how the abstract heap holds values; how it may go on -/
namespace Rs
open PySem PySem.Spec PyProof.Rows L2

/-- the written part; where the classes stand, and those of exceptions -/
structure Kx where
  K : PySem.W.Frag
  cl : Nat → Addr
  xc : Nat → Addr
/-- neither a cell nor held elsewhere -/
def Fr (F : Addr → Prop) (ι : List Addr) (a : Addr) : Prop := a ∉ ι ∧ ¬ F a
/-- a list that is only read -/
def Scr (K : PySem.W.Frag) (ι : List Addr) (H : Hp) (a : Addr) (xs : List V) : Prop :=
  (∃ o, H a = some (.frz o (.lst xs)) ∧ a ∉ ι) ∨
    ∃ (o : Obj) (its : Array Value) (n : Nat), K.lookup a = some o ∧ o.cls = .type "list" ∧ o.dict = none ∧ o.data = .seq its n ∧ its.size ≤ sizeLine ∧ Vals xs its.toList
theorem Scr.sq {K : PySem.W.Frag} {ι : List Addr} {H : Hp} {a : Addr} {xs : List V} (h : Scr K ι H a xs) : SqL K H a xs := by
  rcases h with ⟨o, h, _⟩ | h
  · exact .inl (.inr ⟨o, h⟩)
  · exact .inr h
mutual
inductive IsI (k : Kx) (F : Addr → Prop) (ι : List Addr) (H : Hp) : V → I → Prop
  | non : IsI k F ι H .non .non
  | bl (b : Bool) : IsI k F ι H (.bl b) (.bl b)
  | int (i : Int) : IsI k F ι H (.int i) (.int i)
  | str (s : Str) : IsI k F ι H (.str s) (.str s)
  | tup {a : Addr} {xs : List V} {ys : List I} : H a = some (.tup xs) → IsIs k F ι H xs ys → IsI k F ι H (.ref a) (.tup ys)
  | wtp {a : Addr} {xs : List V} {ys : List I} : SqT k.K H a xs → IsIs k F ι H xs ys → IsI k F ι H (.ref a) (.wtp ys)
  | lst {a : Addr} {xs : List V} {ys : List I} : H a = some (.lst xs) → Fr F ι a → IsIs k F ι H xs ys → IsI k F ι H (.ref a) (.lst ys)
  | dic {a : Addr} {kvs : List (Key × V)} {ks : List Key} {ys : List I} : H a = some (.dK kvs) → Fr F ι a → kvs.map (·.1) = ks → IsIs k F ι H (kvs.map (·.2)) ys → IsI k F ι H (.ref a) (.dic ks ys)
  | dit {a : Addr} {kvs : List (List Key × V)} {ks : List (List Key)} {ys : List I} : H a = some (.dT kvs) → Fr F ι a → kvs.map (·.1) = ks → IsIs k F ι H (kvs.map (·.2)) ys → IsI k F ι H (.ref a) (.dit ks ys)
  | scr {a : Addr} {ns : List Int} : Scr k.K ι H a (ns.map V.int) → IsI k F ι H (.ref a) (.scr ns)
  | obj {n : Nat} {a : Addr} : ι[n]? = some a → IsI k F ι H (.ref a) (.obj n)
inductive IsIs (k : Kx) (F : Addr → Prop) (ι : List Addr) (H : Hp) : List V → List I → Prop
  | nil : IsIs k F ι H [] []
  | cons {v : V} {vs : List V} {x : I} {xs : List I} : IsI k F ι H v x → IsIs k F ι H vs xs → IsIs k F ι H (v :: vs) (x :: xs)
end
def CellOk (k : Kx) (F : Addr → Prop) (ι : List Addr) (H : Hp) (a : Addr) : Cell → Prop
  | .lst xs => ∃ vs, H a = some (.lst vs) ∧ IsIs k F ι H vs xs
  | .dic ks xs => ∃ kvs, H a = some (.dK kvs) ∧ kvs.map (·.1) = ks ∧ IsIs k F ι H (kvs.map (·.2)) xs
  | .dit ks xs => ∃ kvs, H a = some (.dT kvs) ∧ kvs.map (·.1) = ks ∧ IsIs k F ι H (kvs.map (·.2)) xs
  | .ins c fs => ∃ dx fvs, H a = some (.ins (k.cl c) dx fvs) ∧ H dx = some (.own a) ∧ fvs.map (·.1) = fs.map (·.1) ∧ IsIs k F ι H (fvs.map (·.2)) (fs.map (·.2))
structure CsOk (k : Kx) (F : Addr → Prop) (ι : List Addr) (H : Hp) (M : Mem) : Prop where
  li : ι.length = M.length
  nd : ι.Nodup
  fd : ∀ a, F a → H a ≠ none
  ce : ∀ (n : Nat) (c : Cell) (a : Addr), M[n]? = some c → ι[n]? = some a → CellOk k F ι H a c
/-- how the heap goes on: only cells may change -/
structure Stp (k : Kx) (ι : List Addr) (H : Hp) (ι' : List Addr) (H' : Hp) : Prop where
  ip : ι <+: ι'
  kp : ∀ a o, H a = some o → a ∉ ι → H' a = some o
  tp : ∀ a xs, SqT k.K H a xs → SqT k.K H' a xs
  tt : ∀ a xs, H a = some (.tup xs) → H' a = some (.tup xs)
  ow : ∀ a x, H a = some (.own x) → H' a = some (.own x)
  dm : ∀ a, H' a = none → H a = none
  nw : ∀ a ∈ ι', a ∈ ι ∨ H a = none
structure SOk (k : Kx) (F : Addr → Prop) (ι : List Addr) (H : Hp) (σ : L2.St) (τ : Env) (M : Mem) : Prop where
  len : σ.length = τ.length
  sl : ∀ (i : Nat) (x : I), τ[i]? = some (some x) → ∃ v, σ[i]? = some (some v) ∧ IsI k F ι H v x
  cs : CsOk k F ι H M

section
variable {k : Kx} {F F' : Addr → Prop} {ι ι' ι'' : List Addr} {H H' H'' : Hp} {M M' : Mem} {σ : L2.St} {τ : Env}
theorem Stp.refl : Stp k ι H ι H := ⟨List.prefix_refl _, fun _ _ h _ => h, fun _ _ h => h, fun _ _ h => h, fun _ _ h => h, fun _ h => h, fun _ h => .inl h⟩
theorem Stp.trans (a : Stp k ι H ι' H') (b : Stp k ι' H' ι'' H'') : Stp k ι H ι'' H'' :=
  ⟨a.ip.trans b.ip, fun x o h n => b.kp x o (a.kp x o h n) fun m => (a.nw x m).elim n fun z => (by rw [h] at z; cases z),
   fun x xs h => b.tp x xs (a.tp x xs h), fun x xs h => b.tt x xs (a.tt x xs h), fun x y h => b.ow x y (a.ow x y h), fun x h => a.dm x (b.dm x h), fun x m => (b.nw x m).elim (fun z => a.nw x z) fun z => .inr (a.dm x z)⟩
theorem upd_some {H : Hp} {p : Addr} {o : HO} {a : Addr} {u : HO} (h : H a = some u) (hp : H p = none) : upd H p o a = some u := by
  rw [upd_ne (ne_of_none h hp)]; exact h
theorem SqT.upd {K : PySem.W.Frag} {H : Hp} {p : Addr} {o : HO} (hp : H p = none) {a : Addr} {xs : List V} (h : SqT K H a xs) : SqT K (L2.upd H p o) a xs := by
  rcases h with (h | ⟨ob, h⟩) | h
  · exact .inl (.inl (upd_some h hp))
  · exact .inl (.inr ⟨ob, upd_some h hp⟩)
  · exact .inr h
theorem Stp.new {p : Addr} {o : HO} (hp : H p = none) : Stp k ι H ι (upd H p o) :=
  ⟨List.prefix_refl _, fun _ _ h _ => upd_some h hp, fun _ _ h => SqT.upd hp h, fun _ _ h => upd_some h hp, fun _ _ h => upd_some h hp, fun a h => by
    by_cases e : a = p
    · rw [e]; exact hp
    · rw [upd_ne e] at h; exact h, fun _ h => .inl h⟩
/-- .. as a new cell -/
theorem Stp.newC {p : Addr} {o : HO} (hp : H p = none) : Stp k ι H (ι ++ [p]) (upd H p o) :=
  ⟨List.prefix_append _ _, fun _ _ h _ => upd_some h hp, fun _ _ h => SqT.upd hp h, fun _ _ h => upd_some h hp, fun _ _ h => upd_some h hp, fun a h => by
    by_cases e : a = p
    · rw [e]; exact hp
    · rw [upd_ne e] at h; exact h, fun a h => by
    rcases List.mem_append.mp h with h | h
    · exact .inl h
    · rw [List.mem_singleton.mp h]; exact .inr hp⟩
/-- things that cells hold -/
def Wr : HO → Prop
  | .lst _ => True
  | .dK _ => True
  | .dT _ => True
  | .ins _ _ _ => True
  | _ => False
theorem wr_ne {o u : HO} {p a : Addr} (hp : H p = some o) (hw : Wr o) (h : H a = some u) (hu : ¬ Wr u) : a ≠ p := fun e => by
  rw [e, hp] at h
  cases h
  exact hu hw
theorem SqT.put {K : PySem.W.Frag} {p : Addr} {o o' : HO} (hp : H p = some o) (hw : Wr o) {a : Addr} {xs : List V} (h : SqT K H a xs) : SqT K (L2.upd H p o') a xs := by
  rcases h with (h | ⟨ob, h⟩) | h
  · exact .inl (.inl (by rw [upd_ne (wr_ne hp hw h (fun z => z))]; exact h))
  · exact .inl (.inr ⟨ob, by rw [upd_ne (wr_ne hp hw h (fun z => z))]; exact h⟩)
  · exact .inr h
/-- a cell is written -/
theorem Stp.put {p : Addr} {o o' : HO} (hp : H p = some o) (ho : Wr o) (hw : p ∈ ι) : Stp k ι H ι (upd H p o') :=
  ⟨List.prefix_refl _, fun a u h n => by
    rw [upd_ne (fun e => n (by rw [e]; exact hw))]; exact h, fun _ _ h => SqT.put hp ho h, fun a x h => (by
    rw [upd_ne (wr_ne hp ho h (fun z => z))]; exact h), fun a x h => (by
    rw [upd_ne (wr_ne hp ho h (fun z => z))]; exact h), fun a h => by
    by_cases e : a = p
    · rw [e, upd_same] at h; cases h
    · rw [upd_ne e] at h; exact h, fun _ h => .inl h⟩
theorem get_prefix {n : Nat} {a : Addr} (p : ι <+: ι') (h : ι[n]? = some a) : ι'[n]? = some a := by
  obtain ⟨t, rfl⟩ := p
  have hl := (List.getElem?_eq_some_iff.mp h).1
  rw [List.getElem?_append_left hl]
  exact h
theorem Fr.go (s : Stp k ι H ι' H') {a : Addr} {o : HO} (h : H a = some o) (f : Fr F ι a) : Fr F ι' a := ⟨fun m => (s.nw a m).elim f.1 fun z => (by rw [h] at z; cases z), f.2⟩
theorem Scr.go {a : Addr} {xs : List V} (s : Stp k ι H ι' H') (h : Scr k.K ι H a xs) : Scr k.K ι' H' a xs := by
  rcases h with ⟨o, h, f⟩ | h
  · refine .inl ⟨o, s.kp _ _ h f, fun m => ?_⟩
    rcases s.nw _ m with z | z
    · exact f z
    · rw [h] at z; cases z
  · exact .inr h
mutual
theorem IsI.go (s : Stp k ι H ι' H') : ∀ {v : V} {x : I}, IsI k F ι H v x → IsI k F ι' H' v x
  | _, _, .non => .non
  | _, _, .bl b => .bl b
  | _, _, .int i => .int i
  | _, _, .str s => .str s
  | _, _, .tup h t => .tup (s.tt _ _ h) (IsIs.go s t)
  | _, _, .wtp h t => .wtp (s.tp _ _ h) (IsIs.go s t)
  | _, _, .lst h f t => .lst (s.kp _ _ h f.1) (f.go s h) (IsIs.go s t)
  | _, _, .dic h f e t => .dic (s.kp _ _ h f.1) (f.go s h) e (IsIs.go s t)
  | _, _, .dit h f e t => .dit (s.kp _ _ h f.1) (f.go s h) e (IsIs.go s t)
  | _, _, .scr h => .scr (h.go s)
  | _, _, .obj h => .obj (get_prefix s.ip h)
theorem IsIs.go (s : Stp k ι H ι' H') : ∀ {vs : List V} {xs : List I}, IsIs k F ι H vs xs → IsIs k F ι' H' vs xs
  | _, _, .nil => .nil
  | _, _, .cons h t => .cons (IsI.go s h) (IsIs.go s t)
end
end
end Rs

/-! second layer, part c: values in other surroundings; the state; readings -/
namespace Rs
open PySem PySem.Spec PyProof.Rows L2
section
variable {k : Kx} {F F' : Addr → Prop} {ι ι' ι'' : List Addr} {H H' H'' : Hp} {M M' M'' : Mem} {σ : L2.St} {τ : Env}
theorem IsIs.length : ∀ {vs : List V} {xs : List I}, IsIs k F ι H vs xs → vs.length = xs.length
  | _, _, .nil => rfl
  | _, _, .cons _ t => congrArg (· + 1) (IsIs.length t)
theorem IsIs.append : ∀ {vs us : List V} {xs ys : List I}, IsIs k F ι H vs xs → IsIs k F ι H us ys → IsIs k F ι H (vs ++ us) (xs ++ ys)
  | _, _, _, _, .nil, h => h
  | _, _, _, _, .cons h t, q => .cons h (IsIs.append t q)
theorem IsIs.get : ∀ {vs : List V} {xs : List I} {j : Nat} {x : I}, IsIs k F ι H vs xs → xs[j]? = some x → ∃ v, vs[j]? = some v ∧ IsI k F ι H v x
  | _, _, _, _, .nil, e => by simp at e
  | _, _, 0, _, .cons h _, e => by simp at e; subst e; exact ⟨_, rfl, h⟩
  | _, _, j + 1, x, .cons _ t, e => by
    obtain ⟨v, h1, h2⟩ := IsIs.get (j := j) (x := x) t (by simpa using e)
    exact ⟨v, by simpa using h1, h2⟩
theorem IsIs.drop : ∀ {vs : List V} {xs : List I} (n : Nat), IsIs k F ι H vs xs → IsIs k F ι H (vs.drop n) (xs.drop n)
  | _, _, 0, h => h
  | _, _, _ + 1, .nil => .nil
  | _, _, n + 1, .cons _ t => IsIs.drop n t
theorem IsIs.take : ∀ {vs : List V} {xs : List I} (n : Nat), IsIs k F ι H vs xs → IsIs k F ι H (vs.take n) (xs.take n)
  | _, _, 0, _ => .nil
  | _, _, _ + 1, .nil => .nil
  | _, _, n + 1, .cons h t => .cons h (IsIs.take n t)
theorem IsIs.cut {vs : List V} {xs : List I} (h : IsIs k F ι H vs xs) (lo hi : Option Int) : IsIs k F ι H (cutV vs lo hi) (cut xs lo hi) := by
  unfold cutV Rs.cut
  rw [h.length]
  exact (h.drop _).take _
theorem IsIs.reverse : ∀ {vs : List V} {xs : List I}, IsIs k F ι H vs xs → IsIs k F ι H vs.reverse xs.reverse
  | _, _, .nil => .nil
  | _, _, .cons h t => by
    rw [List.reverse_cons, List.reverse_cons]
    exact (IsIs.reverse t).append (.cons h .nil)
theorem IsIs.set : ∀ {vs : List V} {xs : List I} {v : V} {x : I} (j : Nat), IsIs k F ι H vs xs → IsI k F ι H v x → IsIs k F ι H (vs.set j v) (xs.set j x)
  | _, _, _, _, _, .nil, _ => .nil
  | _, _, _, _, 0, .cons _ t, q => .cons q t
  | _, _, _, _, j + 1, .cons h t, q => .cons h (IsIs.set j t q)
theorem IsIs.dropLast : ∀ {vs : List V} {xs : List I}, IsIs k F ι H vs xs → IsIs k F ι H vs.dropLast xs.dropLast := fun h => by
  rw [List.dropLast_eq_take, List.dropLast_eq_take, h.length]
  exact h.take _
theorem IsIs.mapP {α : Type} {f : α → V} {g : α → I} (h : ∀ a, IsI k F ι H (f a) (g a)) : ∀ xs : List α, IsIs k F ι H (xs.map f) (xs.map g)
  | [] => .nil
  | x :: xs => .cons (h x) (IsIs.mapP h xs)
mutual
theorem IsI.to {F' : Addr → Prop} {ι' : List Addr} (hF : ∀ a, H a ≠ none → Fr F ι a → Fr F' ι' a) (hS : ∀ a o xs, H a = some (.frz o (.lst xs)) → a ∉ ι → a ∉ ι') : ∀ {v : V} {x : I}, IsI k F ι H v x → x.flat = true → IsI k F' ι' H v x
  | _, _, .non, _ => .non
  | _, _, .bl b, _ => .bl b
  | _, _, .int i, _ => .int i
  | _, _, .str s, _ => .str s
  | _, _, .tup h t, f => .tup h (IsIs.to hF hS t (by unfold I.flat at f; exact f))
  | _, _, .wtp h t, f => .wtp h (IsIs.to hF hS t (by unfold I.flat at f; exact f))
  | _, _, .lst h r t, f => .lst h (hF _ (by rw [h]; exact fun z => nomatch z) r) (IsIs.to hF hS t (by unfold I.flat at f; exact f))
  | _, _, .dic h r e t, f => .dic h (hF _ (by rw [h]; exact fun z => nomatch z) r) e (IsIs.to hF hS t (by unfold I.flat at f; exact f))
  | _, _, .dit h r e t, f => .dit h (hF _ (by rw [h]; exact fun z => nomatch z) r) e (IsIs.to hF hS t (by unfold I.flat at f; exact f))
  | _, _, .scr h, _ => .scr (h.imp (fun ⟨o, q, z⟩ => ⟨o, q, hS _ _ _ q z⟩) id)
  | _, _, .obj h, f => by cases f
theorem IsIs.to {F' : Addr → Prop} {ι' : List Addr} (hF : ∀ a, H a ≠ none → Fr F ι a → Fr F' ι' a) (hS : ∀ a o xs, H a = some (.frz o (.lst xs)) → a ∉ ι → a ∉ ι') : ∀ {vs : List V} {xs : List I}, IsIs k F ι H vs xs → I.flats xs = true → IsIs k F' ι' H vs xs
  | _, _, .nil, _ => .nil
  | _, _, .cons h t, f => by
    unfold I.flats at f
    rw [Bool.and_eq_true] at f
    exact .cons (IsI.to hF hS h f.1) (IsIs.to hF hS t f.2)
end
mutual
theorem IsI.F (hF : ∀ a, H a ≠ none → F' a → F a) : ∀ {v : V} {x : I}, IsI k F ι H v x → IsI k F' ι H v x
  | _, _, .non => .non
  | _, _, .bl b => .bl b
  | _, _, .int i => .int i
  | _, _, .str s => .str s
  | _, _, .tup h t => .tup h (IsIs.F hF t)
  | _, _, .wtp h t => .wtp h (IsIs.F hF t)
  | _, _, .lst h r t => .lst h ⟨r.1, fun z => r.2 (hF _ (by rw [h]; exact fun z => nomatch z) z)⟩ (IsIs.F hF t)
  | _, _, .dic h r e t => .dic h ⟨r.1, fun z => r.2 (hF _ (by rw [h]; exact fun z => nomatch z) z)⟩ e (IsIs.F hF t)
  | _, _, .dit h r e t => .dit h ⟨r.1, fun z => r.2 (hF _ (by rw [h]; exact fun z => nomatch z) z)⟩ e (IsIs.F hF t)
  | _, _, .scr h => .scr h
  | _, _, .obj h => .obj h
theorem IsIs.F (hF : ∀ a, H a ≠ none → F' a → F a) : ∀ {vs : List V} {xs : List I}, IsIs k F ι H vs xs → IsIs k F' ι H vs xs
  | _, _, .nil => .nil
  | _, _, .cons h t => .cons (IsI.F hF h) (IsIs.F hF t)
end
mutual
theorem IsI.solid : ∀ {v : V} {x : I}, IsI k F ι H v x → x.solid = true → IsI k F' ι' H v x
  | _, _, .non, _ => .non
  | _, _, .bl b, _ => .bl b
  | _, _, .int i, _ => .int i
  | _, _, .str s, _ => .str s
  | _, _, .tup h t, f => .tup h (IsIs.solid t (by unfold I.solid at f; exact f))
  | _, _, .wtp h t, f => .wtp h (IsIs.solid t (by unfold I.solid at f; exact f))
  | _, _, .lst _ _ _, f => by cases f
  | _, _, .dic _ _ _ _, f => by cases f
  | _, _, .dit _ _ _ _, f => by cases f
  | _, _, .scr _, f => by cases f
  | _, _, .obj _, f => by cases f
theorem IsIs.solid : ∀ {vs : List V} {xs : List I}, IsIs k F ι H vs xs → I.solids xs = true → IsIs k F' ι' H vs xs
  | _, _, .nil, _ => .nil
  | _, _, .cons h t, f => by
    unfold I.solids at f
    rw [Bool.and_eq_true] at f
    exact .cons (IsI.solid h f.1) (IsIs.solid t f.2)
end
theorem mapM_is {f : I → Option I} (h : ∀ x y v, f x = some y → IsI k F ι H v x → IsI k F' ι' H v y) : ∀ {xs ys : List I} {vs : List V}, xs.mapM f = some ys → IsIs k F ι H vs xs → IsIs k F' ι' H vs ys
  | [], ys, vs, e, q => by
    cases e; cases q; exact .nil
  | x :: xs, ys, vs, e, q => by
    rw [List.mapM_cons] at e
    cases e1 : f x with
    | none => rw [e1] at e; cases e
    | some y =>
      cases e2 : xs.mapM f with
      | none => rw [e1, e2] at e; cases e
      | some zs =>
        rw [e1, e2] at e
        cases e
        cases q with
        | cons q t => exact .cons (h _ _ _ e1 q) (mapM_is h e2 t)
/-- what cells hold, read into other surroundings -/
theorem frz_ok {F' : Addr → Prop} {ι' : List Addr} (hF : ∀ a, H a ≠ none → Fr F ι a → Fr F' ι' a) (hS : ∀ a o xs, H a = some (.frz o (.lst xs)) → a ∉ ι → a ∉ ι')
    (hC : ∀ (n : Nat) (c : Cell) (a : Addr), M[n]? = some c → (∀ i fs, c ≠ .ins i fs) → ι[n]? = some a → CellOk k F ι H a c ∧ Fr F' ι' a) :
    ∀ (n : Nat) (x y : I) (v : V), frz M n x = some y → IsI k F ι H v x → IsI k F' ι' H v y
  | 0, x, y, v, e, q => by
    unfold frz at e
    split at e
    · rename_i f
      cases e
      exact q.to hF hS f
    · cases e
  | n + 1, x, y, v, e, q => by
    have ih := frz_ok hF hS hC n
    cases q with
    | non => cases e; exact .non
    | bl b => cases e; exact .bl b
    | int b => cases e; exact .int b
    | str b => cases e; exact .str b
    | scr h => cases e; exact .scr (h.imp (fun ⟨o, q, z⟩ => ⟨o, q, hS _ _ _ q z⟩) id)
    | tup h t =>
      rename_i a xs ys
      have e : (ys.mapM (frz M n)).map I.tup = some y := e
      cases e1 : ys.mapM (frz M n) with
      | none => rw [e1] at e; cases e
      | some zs => rw [e1] at e; cases e; exact .tup h (mapM_is ih e1 t)
    | wtp h t =>
      rename_i a xs ys
      have e : (ys.mapM (frz M n)).map I.wtp = some y := e
      cases e1 : ys.mapM (frz M n) with
      | none => rw [e1] at e; cases e
      | some zs => rw [e1] at e; cases e; exact .wtp h (mapM_is ih e1 t)
    | lst h r t =>
      rename_i a xs ys
      have e : (ys.mapM (frz M n)).map I.lst = some y := e
      cases e1 : ys.mapM (frz M n) with
      | none => rw [e1] at e; cases e
      | some zs => rw [e1] at e; cases e; exact .lst h (hF _ (by rw [h]; exact fun z => nomatch z) r) (mapM_is ih e1 t)
    | dic h r ek t =>
      rename_i a kvs ks ys
      have e : (ys.mapM (frz M n)).map (I.dic ks) = some y := e
      cases e1 : ys.mapM (frz M n) with
      | none => rw [e1] at e; cases e
      | some zs => rw [e1] at e; cases e; exact .dic h (hF _ (by rw [h]; exact fun z => nomatch z) r) ek (mapM_is ih e1 t)
    | dit h r ek t =>
      rename_i a kvs ks ys
      have e : (ys.mapM (frz M n)).map (I.dit ks) = some y := e
      cases e1 : ys.mapM (frz M n) with
      | none => rw [e1] at e; cases e
      | some zs => rw [e1] at e; cases e; exact .dit h (hF _ (by rw [h]; exact fun z => nomatch z) r) ek (mapM_is ih e1 t)
    | obj h =>
      rename_i j a
      unfold frz at e
      split at e
      · rename_i xs e0
        cases e1 : xs.mapM (frz M n) with
        | none => rw [e1] at e; cases e
        | some zs =>
          rw [e1] at e; cases e
          obtain ⟨⟨vs, h1, h2⟩, fr⟩ := hC j _ a e0 (fun _ _ z => nomatch z) h
          exact .lst h1 fr (mapM_is ih e1 h2)
      · rename_i ks xs e0
        cases e1 : xs.mapM (frz M n) with
        | none => rw [e1] at e; cases e
        | some zs =>
          rw [e1] at e; cases e
          obtain ⟨⟨vs, h1, hk, h2⟩, fr⟩ := hC j _ a e0 (fun _ _ z => nomatch z) h
          exact .dic h1 fr hk (mapM_is ih e1 h2)
      · rename_i ks xs e0
        cases e1 : xs.mapM (frz M n) with
        | none => rw [e1] at e; cases e
        | some zs =>
          rw [e1] at e; cases e
          obtain ⟨⟨vs, h1, hk, h2⟩, fr⟩ := hC j _ a e0 (fun _ _ z => nomatch z) h
          exact .dit h1 fr hk (mapM_is ih e1 h2)
      · cases e

/-! ### as the library's data -/
/-- as it is read at once -/
abbrev IsR (k : Kx) (H : Hp) (v : V) (x : I) : Prop := IsI k (fun _ => False) [] H v x
abbrev IsRs (k : Kx) (H : Hp) (v : List V) (x : List I) : Prop := IsIs k (fun _ => False) [] H v x
mutual
theorem IsI.dp : ∀ {v : V} {x : I}, IsI k F ι H v x → x.pure = true → Dp k.K H v x.py
  | _, _, .non, _ => .non
  | _, _, .bl b, _ => .bl b
  | _, _, .int i, _ => .int i
  | _, _, .str s, _ => .str s
  | _, _, .tup h t, p => .tup (.inl (.inl h)) (IsIs.dp t (by unfold I.pure at p; exact p))
  | _, _, .wtp h t, p => .tup h (IsIs.dp t (by unfold I.pure at p; exact p))
  | _, _, .lst h _ t, p => .lst (.inl (.inl h)) (IsIs.dp t (by unfold I.pure at p; exact p))
  | _, _, .dic _ _ _ _, p => by cases p
  | _, _, .dit _ _ _ _, p => by cases p
  | _, _, .scr _, p => by cases p
  | _, _, .obj _, p => by cases p
theorem IsIs.dp : ∀ {vs : List V} {xs : List I}, IsIs k F ι H vs xs → I.pures xs = true → DpAll k.K H vs (I.pys xs)
  | _, _, .nil, _ => .nil
  | _, _, .cons h t, p => by
    unfold I.pures at p
    rw [Bool.and_eq_true] at p
    exact .cons (IsI.dp h p.1) (IsIs.dp t p.2)
end
theorem frz_read (C : CsOk k F ι H M) {n : Nat} {x y : I} {v : V} (e : frz M n x = some y) (q : IsI k F ι H v x) : IsR k H v y :=
  frz_ok (F' := fun _ => False) (ι' := []) (fun _ _ _ => ⟨(fun z => nomatch z), fun z => z⟩) (fun _ _ _ _ _ => fun z => nomatch z) (fun n c a h1 _ h2 => ⟨C.ce n c a h1 h2, (fun z => nomatch z), fun z => z⟩) n x y v e q

/-! ### the state -/
theorem SlOk.go (s : Stp k ι H ι' H') {i : Nat} {x : I} (h : ∃ v, σ[i]? = some (some v) ∧ IsI k F ι H v x) : ∃ v, σ[i]? = some (some v) ∧ IsI k F ι' H' v x := by
  obtain ⟨v, e, h⟩ := h
  exact ⟨v, e, h.go s⟩
/-- what was in the slots stays -/
theorem SOk.next (S : SOk k F ι H σ τ M) (s : Stp k ι H ι' H') (C : CsOk k F ι' H' M') : SOk k F ι' H' σ τ M' :=
  ⟨S.len, fun i x e => SlOk.go s (S.sl i x e), C⟩
theorem CellOk.go {a : Addr} {c : Cell} (s : Stp k ι H ι' H') (h : CellOk k F ι H a c) (e : H' a = H a) : CellOk k F ι' H' a c := by
  cases c with
  | lst xs => obtain ⟨vs, h1, h2⟩ := h; exact ⟨vs, by rw [e]; exact h1, h2.go s⟩
  | dic ks xs => obtain ⟨vs, h1, hk, h2⟩ := h; exact ⟨vs, by rw [e]; exact h1, hk, h2.go s⟩
  | dit ks xs => obtain ⟨vs, h1, hk, h2⟩ := h; exact ⟨vs, by rw [e]; exact h1, hk, h2.go s⟩
  | ins c fs => obtain ⟨dx, fvs, h1, ho, hk, h2⟩ := h; exact ⟨dx, fvs, by rw [e]; exact h1, s.ow _ _ ho, hk, h2.go s⟩
theorem CellOk.wr {a : Addr} {c : Cell} (h : CellOk k F ι H a c) : ∃ o, H a = some o ∧ Wr o := by
  cases c with
  | lst xs => obtain ⟨vs, h1, h2⟩ := h; exact ⟨_, h1, trivial⟩
  | dic ks xs => obtain ⟨vs, h1, hk, h2⟩ := h; exact ⟨_, h1, trivial⟩
  | dit ks xs => obtain ⟨vs, h1, hk, h2⟩ := h; exact ⟨_, h1, trivial⟩
  | ins c fs => obtain ⟨dx, fvs, h1, ho, hk, h2⟩ := h; exact ⟨_, h1, trivial⟩
theorem CsOk.at (C : CsOk k F ι H M) {n : Nat} {c : Cell} (e : M[n]? = some c) : ∃ a, ι[n]? = some a ∧ CellOk k F ι H a c := by
  have hl : n < ι.length := by rw [C.li]; exact (List.getElem?_eq_some_iff.mp e).1
  have e2 := List.getElem?_eq_getElem hl
  exact ⟨_, e2, C.ce n c _ e e2⟩
theorem CsOk.wr (C : CsOk k F ι H M) {a : Addr} (m : a ∈ ι) : ∃ o, H a = some o ∧ Wr o := by
  obtain ⟨n, e⟩ := List.mem_iff_getElem?.mp m
  have hl : n < M.length := by rw [← C.li]; exact (List.getElem?_eq_some_iff.mp e).1
  exact (C.ce n _ a (List.getElem?_eq_getElem hl) e).wr
theorem CsOk.dom (C : CsOk k F ι H M) {a : Addr} (m : a ∈ ι) : H a ≠ none := by
  obtain ⟨o, e, _⟩ := C.wr m
  rw [e]; exact fun z => nomatch z
theorem nodup_get {α : Type} {xs : List α} (nd : xs.Nodup) {i j : Nat} {a : α} (h1 : xs[i]? = some a) (h2 : xs[j]? = some a) : i = j := by
  exact (List.getElem?_inj (List.getElem?_eq_some_iff.mp h1).1 nd).mp (h1.trans h2.symm)
/-- a new thing that is no cell -/
theorem CsOk.new {p : Addr} {o : HO} (C : CsOk k F ι H M) (hp : H p = none) : CsOk k F ι (upd H p o) M :=
  ⟨C.li, C.nd, fun a h z => C.fd a h ((Stp.new (k := k) (ι := ι) hp).dm a z), fun n c a h1 h2 => (C.ce n c a h1 h2).go (.new hp) (upd_ne fun z => C.dom (List.mem_iff_getElem?.mpr ⟨n, h2⟩) (by rw [z]; exact hp))⟩
/-- a new cell -/
theorem CsOk.newC {p : Addr} {o : HO} {c : Cell} (C : CsOk k F ι H M) (hp : H p = none) (h : CellOk k F (ι ++ [p]) (upd H p o) p c) : CsOk k F (ι ++ [p]) (upd H p o) (M ++ [c]) := by
  have st : Stp k ι H (ι ++ [p]) (upd H p o) := .newC hp
  refine ⟨by rw [List.length_append, List.length_append, C.li]; rfl, List.nodup_append.mpr ⟨C.nd, by simp, fun a ha b hb e => ?_⟩, fun a h z => C.fd a h (st.dm a z), fun n d a h1 h2 => ?_⟩
  · rw [List.mem_singleton.mp hb] at e
    exact C.dom ha (by rw [e]; exact hp)
  · by_cases hn : n < M.length
    · rw [List.getElem?_append_left hn] at h1
      rw [List.getElem?_append_left (by rw [C.li]; exact hn)] at h2
      exact (C.ce n d a h1 h2).go st (upd_ne fun z => C.dom (List.mem_iff_getElem?.mpr ⟨n, h2⟩) (by rw [z]; exact hp))
    · have e : n = M.length := by
        have := (List.getElem?_eq_some_iff.mp h1).1
        rw [List.length_append] at this
        have e1 : [c].length = 1 := rfl
        omega
      subst e
      rw [List.getElem?_append_right (Nat.le_refl _), Nat.sub_self] at h1
      rw [List.getElem?_append_right (by rw [C.li]; exact Nat.le_refl _), C.li, Nat.sub_self] at h2
      cases h1; cases h2
      exact h
/-- a cell is written -/
theorem CsOk.put {n : Nat} {p : Addr} {o o' : HO} {c c' : Cell} (C : CsOk k F ι H M) (e : M[n]? = some c) (ep : ι[n]? = some p) (hp : H p = some o) (ho : Wr o) (h : CellOk k F ι (upd H p o') p c') : CsOk k F ι (upd H p o') (M.set n c') := by
  have st : Stp k ι H ι (upd H p o') := .put hp ho (List.mem_iff_getElem?.mpr ⟨n, ep⟩)
  refine ⟨by rw [List.length_set]; exact C.li, C.nd, fun a h z => C.fd a h (st.dm a z), fun j d a h1 h2 => ?_⟩
  by_cases hj : n = j
  · subst hj
    rw [List.getElem?_set_self (List.getElem?_eq_some_iff.mp e).1] at h1
    rw [ep] at h2
    cases h1; cases h2
    exact h
  · rw [List.getElem?_set_ne hj] at h1
    exact (C.ce j d a h1 h2).go st (upd_ne fun z => hj (nodup_get C.nd ep (by rw [← z]; exact h2)))

/-! ### readings -/
/-- behind an expression: whatever the heap is then -/
def Fin (k : Kx) (F : Addr → Prop) (ι : List Addr) (H : Hp) (σ : L2.St) (τ : Env) (W : WX) (r : R I) (Q : V → Hp → Prop) : Prop := match r with
  | .ok v M' => ∀ (x : V) (ι' : List Addr) (H' : Hp), SOk k F ι' H' σ τ M' → Stp k ι H ι' H' → IsI k F ι' H' x v → Q x H'
  | .ex c M' => ∀ (ι' : List Addr) (H' : Hp), SOk k F ι' H' σ τ M' → Stp k ι H ι' H' → W (.ref (k.xc c)) none σ H'
  | .no => False
def FinA (k : Kx) (F : Addr → Prop) (ι : List Addr) (H : Hp) (σ : L2.St) (τ : Env) (W : WX) (r : R (List I)) (Q : List V → Hp → Prop) : Prop := match r with
  | .ok v M' => ∀ (x : List V) (ι' : List Addr) (H' : Hp), SOk k F ι' H' σ τ M' → Stp k ι H ι' H' → IsIs k F ι' H' x v → Q x H'
  | .ex c M' => ∀ (ι' : List Addr) (H' : Hp), SOk k F ι' H' σ τ M' → Stp k ι H ι' H' → W (.ref (k.xc c)) none σ H'
  | .no => False
def FinT (k : Kx) (F : Addr → Prop) (ι : List Addr) (H : Hp) (σ : L2.St) (τ : Env) (W : WX) (r : R I) (Q : Bool → Hp → Prop) : Prop := match r with
  | .ok v M' => ∃ b, truth (sh M' v) = some b ∧ ∀ (ι' : List Addr) (H' : Hp), SOk k F ι' H' σ τ M' → Stp k ι H ι' H' → Q b H'
  | .ex c M' => ∀ (ι' : List Addr) (H' : Hp), SOk k F ι' H' σ τ M' → Stp k ι H ι' H' → W (.ref (k.xc c)) none σ H'
  | .no => False
def tE (k : Kx) (Φ : Oracle) (W : WX) (c : C) : TE := fun σ H Q => ∃ F ι τ M, SOk k F ι H σ τ M ∧ Fin k F ι H σ τ W (evE Φ c τ M) Q
def tA (k : Kx) (Φ : Oracle) (W : WX) (cs : Cs) : TA := fun σ H Q => ∃ F ι τ M, SOk k F ι H σ τ M ∧ FinA k F ι H σ τ W (evEs Φ cs τ M) Q
def tT (k : Kx) (Φ : Oracle) (W : WX) (c : C) : TT := fun σ H Q => ∃ F ι τ M, SOk k F ι H σ τ M ∧ FinT k F ι H σ τ W (evE Φ c τ M) Q
theorem PE.imp {X : Cx} {e : Expr} {t t' : TE} (h : PE X e t) (i : ∀ σ H Q, t' σ H Q → t σ H Q) : PE X e t' := ⟨fun pins s σ H Q I q => h.run pins s σ H Q I (i σ H Q q)⟩
theorem PT.imp {X : Cx} {e : Expr} {t t' : TT} (h : PT X e t) (i : ∀ σ H Q, t' σ H Q → t σ H Q) : PT X e t' := ⟨fun pins s σ H Q I q => h.run pins s σ H Q I (i σ H Q q)⟩
theorem PA.imp {X : Cx} {es : List Expr} {t t' : TA} (h : PA X es t) (i : ∀ σ H Q, t' σ H Q → t σ H Q) : PA X es t' := ⟨fun pos pins s σ H Q I q => h.run pos pins s σ H Q I (i σ H Q q)⟩
section
variable {W : WX} {Φ : Oracle}
theorem Fin.back {r : R I} {Q : V → Hp → Prop} (st : Stp k ι H ι' H') (f : Fin k F ι H σ τ W r Q) : Fin k F ι' H' σ τ W r Q := by
  cases r with
  | ok v M' => exact fun x ι2 H2 S s i => f x ι2 H2 S (st.trans s) i
  | ex c M' => exact fun ι2 H2 S s => f ι2 H2 S (st.trans s)
  | no => exact f
theorem FinA.back {r : R (List I)} {Q : List V → Hp → Prop} (st : Stp k ι H ι' H') (f : FinA k F ι H σ τ W r Q) : FinA k F ι' H' σ τ W r Q := by
  cases r with
  | ok v M' => exact fun x ι2 H2 S s i => f x ι2 H2 S (st.trans s) i
  | ex c M' => exact fun ι2 H2 S s => f ι2 H2 S (st.trans s)
  | no => exact f
theorem FinT.back {r : R I} {Q : Bool → Hp → Prop} (st : Stp k ι H ι' H') (f : FinT k F ι H σ τ W r Q) : FinT k F ι' H' σ τ W r Q := by
  cases r with
  | ok v M' => obtain ⟨b, e, f⟩ := f; exact ⟨b, e, fun ι2 H2 S s => f ι2 H2 S (st.trans s)⟩
  | ex c M' => exact fun ι2 H2 S s => f ι2 H2 S (st.trans s)
  | no => exact f
/-- first one part, then what is made of it -/
theorem Fin.bind {r : R I} {f : I → Mem → R I} {Q Q' : V → Hp → Prop} (h : Fin k F ι H σ τ W (r.bind f) Q)
    (i : ∀ v M1 x ι1 H1, SOk k F ι1 H1 σ τ M1 → Stp k ι H ι1 H1 → IsI k F ι1 H1 x v → Fin k F ι1 H1 σ τ W (f v M1) Q → Q' x H1) : Fin k F ι H σ τ W r Q' := by
  cases r with
  | ok v M1 => exact fun x ι1 H1 S s q => i v M1 x ι1 H1 S s q (Fin.back s h)
  | ex c M1 => exact h
  | no => exact h
theorem Fin.bindA {r : R (List I)} {f : List I → Mem → R I} {Q : V → Hp → Prop} {Q' : List V → Hp → Prop} (h : Fin k F ι H σ τ W (r.bind f) Q)
    (i : ∀ v M1 x ι1 H1, SOk k F ι1 H1 σ τ M1 → Stp k ι H ι1 H1 → IsIs k F ι1 H1 x v → Fin k F ι1 H1 σ τ W (f v M1) Q → Q' x H1) : FinA k F ι H σ τ W r Q' := by
  cases r with
  | ok v M1 => exact fun x ι1 H1 S s q => i v M1 x ι1 H1 S s q (Fin.back s h)
  | ex c M1 => exact h
  | no => exact h
theorem FinA.bind {r : R I} {f : I → Mem → R (List I)} {Q : List V → Hp → Prop} {Q' : V → Hp → Prop} (h : FinA k F ι H σ τ W (r.bind f) Q)
    (i : ∀ v M1 x ι1 H1, SOk k F ι1 H1 σ τ M1 → Stp k ι H ι1 H1 → IsI k F ι1 H1 x v → FinA k F ι1 H1 σ τ W (f v M1) Q → Q' x H1) : Fin k F ι H σ τ W r Q' := by
  cases r with
  | ok v M1 => exact fun x ι1 H1 S s q => i v M1 x ι1 H1 S s q (FinA.back s h)
  | ex c M1 => exact h
  | no => exact h
theorem FinA.bindA {r : R (List I)} {f : List I → Mem → R (List I)} {Q Q' : List V → Hp → Prop} (h : FinA k F ι H σ τ W (r.bind f) Q)
    (i : ∀ v M1 x ι1 H1, SOk k F ι1 H1 σ τ M1 → Stp k ι H ι1 H1 → IsIs k F ι1 H1 x v → FinA k F ι1 H1 σ τ W (f v M1) Q → Q' x H1) : FinA k F ι H σ τ W r Q' := by
  cases r with
  | ok v M1 => exact fun x ι1 H1 S s q => i v M1 x ι1 H1 S s q (FinA.back s h)
  | ex c M1 => exact h
  | no => exact h
theorem Fin.mono {r : R I} {Q Q' : V → Hp → Prop} (h : Fin k F ι H σ τ W r Q) (i : ∀ x H1, Q x H1 → Q' x H1) : Fin k F ι H σ τ W r Q' := by
  cases r with
  | ok v M1 => exact fun x ι1 H1 S s q => i _ _ (h x ι1 H1 S s q)
  | ex c M1 => exact h
  | no => exact h
theorem FinA.mono {r : R (List I)} {Q Q' : List V → Hp → Prop} (h : FinA k F ι H σ τ W r Q) (i : ∀ x H1, Q x H1 → Q' x H1) : FinA k F ι H σ τ W r Q' := by
  cases r with
  | ok v M1 => exact fun x ι1 H1 S s q => i _ _ (h x ι1 H1 S s q)
  | ex c M1 => exact h
  | no => exact h
theorem tE.mono {c : C} {Q Q' : VK} (h : tE k Φ W c σ H Q) (i : ∀ x H1, Q x H1 → Q' x H1) : tE k Φ W c σ H Q' := by
  obtain ⟨F, ι, τ, M, S, f⟩ := h
  exact ⟨F, ι, τ, M, S, f.mono i⟩
theorem tA_nil {Q : List V → Hp → Prop} (h : tA k Φ W .nil σ H Q) : Q [] H := by
  obtain ⟨F, ι, τ, M, S, f⟩ := h
  exact f [] ι H S .refl .nil
theorem tA_cons {c : C} {cs : Cs} {Q : List V → Hp → Prop} (h : tA k Φ W (.cons c cs) σ H Q) : tE k Φ W c σ H fun x H1 => tA k Φ W cs σ H1 fun xs H2 => Q (x :: xs) H2 := by
  obtain ⟨F, ι, τ, M, S, f⟩ := h
  unfold evEs at f
  refine ⟨F, ι, τ, M, S, f.bind fun v M1 x ι1 H1 S1 s1 i1 f1 => ⟨F, ι1, τ, M1, S1, f1.bindA fun vs M2 xs ι2 H2 S2 s2 i2 f2 => ?_⟩⟩
  exact f2 (x :: xs) ι2 H2 S2 .refl (.cons (i1.go s2) i2)
/-- expressions and their readings, one by one -/
inductive PEs (k : Kx) (X : Cx) (W : WX) (Φ : Oracle) : List Expr → Cs → Prop
  | nil : PEs k X W Φ [] .nil
  | cons {e : Expr} {es : List Expr} {c : C} {cs : Cs} : PE X e (tE k Φ W c) → (∀ r : List Expr, starEach (e :: r) X.env = (false, eval e X.env) :: starEach r X.env) → PEs k X W Φ es cs → PEs k X W Φ (e :: es) (.cons c cs)
theorem PEs.pa {X : Cx} {es : List Expr} {cs : Cs} (h : PEs k X W Φ es cs) : PA X es (tA k Φ W cs) := by
  induction h with
  | nil => exact PA.imp pa_nil fun σ H Q q => tA_nil q
  | cons h1 hs _ ih => exact PA.imp (pa_cons h1 ih (hs _)) fun σ H Q q => tA_cons q
end
end
end Rs

/-! second layer, part d: operations by values -/
namespace Rs
open PySem PySem.Spec PyProof.Rows L2

/-- a value, or what a cell holds just now -/
inductive IsS (k : Kx) (F : Addr → Prop) (ι : List Addr) (H : Hp) : V → I → Prop
  | of {v : V} {x : I} : IsI k F ι H v x → IsS k F ι H v x
  | lst {a : Addr} {xs : List V} {ys : List I} : H a = some (.lst xs) → IsIs k F ι H xs ys → IsS k F ι H (.ref a) (.lst ys)
  | dic {a : Addr} {kvs : List (Key × V)} {ks : List Key} {ys : List I} : H a = some (.dK kvs) → kvs.map (·.1) = ks → IsIs k F ι H (kvs.map (·.2)) ys → IsS k F ι H (.ref a) (.dic ks ys)
  | dit {a : Addr} {kvs : List (List Key × V)} {ks : List (List Key)} {ys : List I} : H a = some (.dT kvs) → kvs.map (·.1) = ks → IsIs k F ι H (kvs.map (·.2)) ys → IsS k F ι H (.ref a) (.dit ks ys)
/-- what is to be shown of an operation's result; cl: it is to become a cell -/
structure CN (k : Kx) (F : Addr → Prop) (ι : List Addr) (H : Hp) (v : I) (cl : Bool) (Q : VK) : Prop where
  imm : cl = false ∨ toCell v = none → ∀ x, IsI k F ι H x v → Q x H
  lst : ∀ is, v = .lst is → ∀ vs, IsIs k F ι H vs is → ∀ p, H p = none → Q (.ref p) (upd H p (.lst vs))
  tup : ∀ is, v = .tup is → ∀ vs, IsIs k F ι H vs is → ∀ p, H p = none → Q (.ref p) (upd H p (.tup vs))
  dic : ∀ ks is, v = .dic ks is → ∀ kvs : List (Key × V), kvs.map (·.1) = ks → IsIs k F ι H (kvs.map (·.2)) is → ∀ p, H p = none → Q (.ref p) (upd H p (.dK kvs))
  dit : ∀ ks is, v = .dit ks is → ∀ kvs : List (List Key × V), kvs.map (·.1) = ks → IsIs k F ι H (kvs.map (·.2)) is → ∀ p, H p = none → Q (.ref p) (upd H p (.dT kvs))
def Aft (k : Kx) (cl : Bool) (o : Op) (Q : VK) (xs : List V) (H : Hp) : Prop :=
  ∃ F ι M vs v, CsOk k F ι H M ∧ IsIs k F ι H xs vs ∧ opM o M vs = some v ∧ CN k F ι H v cl Q

section
variable {k : Kx} {F F' : Addr → Prop} {ι ι' : List Addr} {H H' : Hp} {M M' : Mem} {σ : L2.St} {τ : Env} {W : WX} {Φ : Oracle} {Q : VK}
theorem sh_ok (C : CsOk k F ι H M) {x : V} {v : I} (h : IsI k F ι H x v) : IsS k F ι H x (sh M v) := by
  cases h with
  | obj h =>
    unfold sh
    dsimp only
    split
    · rename_i xs e
      obtain ⟨vs, h1, h2⟩ := C.ce _ _ _ e h
      exact .lst h1 h2
    · rename_i ks xs e
      obtain ⟨vs, h1, hk, h2⟩ := C.ce _ _ _ e h
      exact .dic h1 hk h2
    · rename_i ks xs e
      obtain ⟨vs, h1, hk, h2⟩ := C.ce _ _ _ e h
      exact .dit h1 hk h2
    · exact .of (.obj h)
  | non => exact .of .non
  | bl b => exact .of (.bl b)
  | int b => exact .of (.int b)
  | str b => exact .of (.str b)
  | tup h t => exact .of (.tup h t)
  | wtp h t => exact .of (.wtp h t)
  | lst h f t => exact .of (.lst h f t)
  | dic h f e t => exact .of (.dic h f e t)
  | dit h f e t => exact .of (.dit h f e t)
  | scr h => exact .of (.scr h)
/-- a result that is laid, or that was there -/
theorem Fin.cn {v : I} {Q : VK} (S : SOk k F ι H σ τ M) (f : Fin k F ι H σ τ W (.ok v M) Q) : CN k F ι H v false Q where
  imm := fun _ x h => f x ι H S .refl h
  lst := fun is e vs h p hp => by
    subst e
    have st : Stp k ι H ι (upd H p (.lst vs)) := .new hp
    exact f (.ref p) ι _ (S.next st (S.cs.new hp)) st (.lst upd_same ⟨fun z => S.cs.dom z hp, fun z => S.cs.fd _ z hp⟩ (h.go st))
  tup := fun is e vs h p hp => by
    subst e
    have st : Stp k ι H ι (upd H p (.tup vs)) := .new hp
    exact f (.ref p) ι _ (S.next st (S.cs.new hp)) st (.tup upd_same (h.go st))
  dic := fun ks is e kvs ek h p hp => by
    subst e
    have st : Stp k ι H ι (upd H p (.dK kvs)) := .new hp
    exact f (.ref p) ι _ (S.next st (S.cs.new hp)) st (.dic upd_same ⟨fun z => S.cs.dom z hp, fun z => S.cs.fd _ z hp⟩ ek (h.go st))
  dit := fun ks is e kvs ek h p hp => by
    subst e
    have st : Stp k ι H ι (upd H p (.dT kvs)) := .new hp
    exact f (.ref p) ι _ (S.next st (S.cs.new hp)) st (.dit upd_same ⟨fun z => S.cs.dom z hp, fun z => S.cs.fd _ z hp⟩ ek (h.go st))
/-- .. as a cell -/
theorem Fin.cnc {v : I} {c : Cell} {Q : VK} (ec : toCell v = some c) (S : SOk k F ι H σ τ M) (f : Fin k F ι H σ τ W (.ok (.obj M.length) (M ++ [c])) Q) : CN k F ι H v true Q where
  imm := fun z => by
    rcases z with z | z
    · cases z
    · rw [ec] at z; cases z
  lst := fun is e vs h p hp => by
    subst e
    cases ec
    have st : Stp k ι H (ι ++ [p]) (upd H p (.lst vs)) := .newC hp
    refine f (.ref p) _ _ (S.next st (S.cs.newC hp ⟨vs, upd_same, h.go st⟩)) st (.obj ?_)
    rw [← S.cs.li]; simp
  tup := fun is e => by subst e; cases ec
  dic := fun ks is e kvs ek h p hp => by
    subst e
    cases ec
    have st : Stp k ι H (ι ++ [p]) (upd H p (.dK kvs)) := .newC hp
    refine f (.ref p) _ _ (S.next st (S.cs.newC hp ⟨kvs, upd_same, ek, h.go st⟩)) st (.obj ?_)
    rw [← S.cs.li]; simp
  dit := fun ks is e kvs ek h p hp => by
    subst e
    cases ec
    have st : Stp k ι H (ι ++ [p]) (upd H p (.dT kvs)) := .newC hp
    refine f (.ref p) _ _ (S.next st (S.cs.newC hp ⟨kvs, upd_same, ek, h.go st⟩)) st (.obj ?_)
    rw [← S.cs.li]; simp
def mkC (cl : Bool) (c : C) : C := if cl then .cell c else c
theorem op_tA {cl : Bool} {op : Op} {as : Cs} (h : tE k Φ W (mkC cl (.op op as)) σ H Q) : tA k Φ W as σ H (Aft k cl op Q) := by
  obtain ⟨F, ι, τ, M, S, f⟩ := h
  cases cl with
  | false =>
    have f : Fin k F ι H σ τ W ((evEs Φ as τ M).bind fun vs M1 => .of (opM op M1 vs) M1) Q := f
    refine ⟨F, ι, τ, M, S, f.bindA fun vs M1 xs ι1 H1 S1 s1 i1 f1 => ?_⟩
    cases e : opM op M1 vs with
    | none => rw [e] at f1; exact f1.elim
    | some v => rw [e] at f1; exact ⟨F, ι1, M1, vs, v, S1.cs, i1, e, Fin.cn S1 f1⟩
  | true =>
    have f : Fin k F ι H σ τ W (((evEs Φ as τ M).bind fun vs M1 => .of (opM op M1 vs) M1).bind fun v M1 => match toCell v with
      | some cc => .ok (.obj M1.length) (M1 ++ [cc])
      | none => .no) Q := f
    have f : Fin k F ι H σ τ W ((evEs Φ as τ M).bind fun vs M1 => (R.of (opM op M1 vs) M1).bind fun v M1 => match toCell v with
      | some cc => .ok (.obj M1.length) (M1 ++ [cc])
      | none => .no) Q := by
      cases e : evEs Φ as τ M with
      | ok a b => rw [e] at f; exact f
      | ex a b => rw [e] at f; exact f
      | no => rw [e] at f; exact f
    refine ⟨F, ι, τ, M, S, f.bindA fun vs M1 xs ι1 H1 S1 s1 i1 f1 => ?_⟩
    cases e : opM op M1 vs with
    | none => rw [e] at f1; exact f1.elim
    | some v =>
      rw [e] at f1
      have f1 : Fin k F ι1 H1 σ τ W (match toCell v with
        | some cc => .ok (.obj M1.length) (M1 ++ [cc])
        | none => .no) Q := f1
      cases ec : toCell v with
      | none => rw [ec] at f1; exact f1.elim
      | some c => rw [ec] at f1; exact ⟨F, ι1, M1, vs, v, S1.cs, i1, e, Fin.cnc ec S1 f1⟩
theorem tA_1 {a : C} {R : List V → Hp → Prop} (h : tA k Φ W (.cons a .nil) σ H R) : tE k Φ W a σ H fun x H1 => R [x] H1 :=
  tE.mono (tA_cons h) fun x H1 q => tA_nil q
theorem tA_2 {a b : C} {R : List V → Hp → Prop} (h : tA k Φ W (.cons a (.cons b .nil)) σ H R) : tE k Φ W a σ H fun x H1 => tE k Φ W b σ H1 fun y H2 => R [x, y] H2 :=
  tE.mono (tA_cons h) fun x H1 q => tA_1 q
theorem tA_3 {a b c : C} {R : List V → Hp → Prop} (h : tA k Φ W (.cons a (.cons b (.cons c .nil))) σ H R) : tE k Φ W a σ H fun x H1 => tE k Φ W b σ H1 fun y H2 => tE k Φ W c σ H2 fun z H3 => R [x, y, z] H3 :=
  tE.mono (tA_cons h) fun x H1 q => tA_2 q
end

section
variable {k : Kx} {cl : Bool} {Q : VK} {x y z : V} {H : Hp} {op : Op}
theorem prep_sh {M : Mem} {vs us : List I} (hd : op.deep = false) (h : prep op M vs = some us) : us = vs.map (sh M) := by
  unfold prep at h
  rw [hd] at h
  cases h; rfl
theorem opM_sh {M : Mem} {vs : List I} {v : I} (hd : op.deep = false) (h : opM op M vs = some v) : opD op (vs.map (sh M)) = some v := by
  unfold opM prep at h
  rw [hd] at h
  exact h
theorem opM_deep {M : Mem} {vs : List I} {v : I} (hd : op.deep = true) (h : opM op M vs = some v) : ∃ us, vs.mapM (frz M dpt) = some us ∧ opD op us = some v := by
  unfold opM prep at h
  rw [hd] at h
  cases e : vs.mapM (frz M dpt) with
  | none => rw [if_pos rfl, e] at h; cases h
  | some us => rw [if_pos rfl, e] at h; exact ⟨us, rfl, h⟩
theorem aft1 (hd : op.deep = false) (h : Aft k cl op Q [x] H) : ∃ F ι a v, IsS k F ι H x a ∧ opD op [a] = some v ∧ CN k F ι H v cl Q := by
  obtain ⟨F, ι, M, vs, v, C, i, e, c⟩ := h
  cases i with
  | cons i t => cases t; exact ⟨F, ι, _, v, sh_ok C i, opM_sh hd e, c⟩
theorem aft2 (hd : op.deep = false) (h : Aft k cl op Q [x, y] H) : ∃ F ι a b v, IsS k F ι H x a ∧ IsS k F ι H y b ∧ opD op [a, b] = some v ∧ CN k F ι H v cl Q := by
  obtain ⟨F, ι, M, vs, v, C, i, e, c⟩ := h
  cases i with
  | cons i t => cases t with
    | cons i2 t => cases t; exact ⟨F, ι, _, _, v, sh_ok C i, sh_ok C i2, opM_sh hd e, c⟩
theorem aft3 (hd : op.deep = false) (h : Aft k cl op Q [x, y, z] H) : ∃ F ι a b d v, IsS k F ι H x a ∧ IsS k F ι H y b ∧ IsS k F ι H z d ∧ opD op [a, b, d] = some v ∧ CN k F ι H v cl Q := by
  obtain ⟨F, ι, M, vs, v, C, i, e, c⟩ := h
  cases i with
  | cons i t => cases t with
    | cons i2 t => cases t with
      | cons i3 t => cases t; exact ⟨F, ι, _, _, _, v, sh_ok C i, sh_ok C i2, sh_ok C i3, opM_sh hd e, c⟩
theorem map_one {f : I → Option I} {a : I} {us : List I} (h : [a].mapM f = some us) : ∃ b, f a = some b ∧ us = [b] := by
  rw [List.mapM_cons] at h
  cases e : f a with
  | none => rw [e] at h; cases h
  | some b => rw [e] at h; cases h; exact ⟨b, rfl, rfl⟩
theorem map_two {f : I → Option I} {a c : I} {us : List I} (h : [a, c].mapM f = some us) : ∃ b d, f a = some b ∧ f c = some d ∧ us = [b, d] := by
  rw [List.mapM_cons] at h
  cases e : f a with
  | none => rw [e] at h; cases h
  | some b =>
    cases e2 : [c].mapM f with
    | none => rw [e, e2] at h; cases h
    | some ds =>
      rw [e, e2] at h
      cases h
      obtain ⟨d, q1, q2⟩ := map_one e2
      exact ⟨b, d, rfl, q1, by rw [q2]⟩
theorem aftd2 (hd : op.deep = true) (h : Aft k cl op Q [x, y] H) : ∃ F ι a b v, IsR k H x a ∧ IsR k H y b ∧ opD op [a, b] = some v ∧ CN k F ι H v cl Q := by
  obtain ⟨F, ι, M, vs, v, C, i, e, c⟩ := h
  obtain ⟨us, e1, e2⟩ := opM_deep hd e
  cases i with
  | cons i t => cases t with
    | cons i2 t =>
      cases t
      obtain ⟨b, d, q1, q2, rfl⟩ := map_two e1
      exact ⟨F, ι, b, d, v, frz_read C q1 i, frz_read C q2 i2, e2, c⟩
variable {F : Addr → Prop} {ι : List Addr}
theorem isS_int {i : Int} (h : IsS k F ι H x (.int i)) : x = .int i := by
  cases h with
  | of h => cases h; rfl
theorem isS_str {i : Str} (h : IsS k F ι H x (.str i)) : x = .str i := by
  cases h with
  | of h => cases h; rfl
theorem isS_bl {i : Bool} (h : IsS k F ι H x (.bl i)) : x = .bl i := by
  cases h with
  | of h => cases h; rfl
theorem isS_tup {ys : List I} (h : IsS k F ι H x (.tup ys)) : ∃ a xs, x = .ref a ∧ H a = some (.tup xs) ∧ IsIs k F ι H xs ys := by
  cases h with
  | of h => cases h with
    | tup h t => exact ⟨_, _, rfl, h, t⟩
theorem isS_wtp {ys : List I} (h : IsS k F ι H x (.wtp ys)) : ∃ a xs, x = .ref a ∧ SqT k.K H a xs ∧ IsIs k F ι H xs ys := by
  cases h with
  | of h => cases h with
    | wtp h t => exact ⟨_, _, rfl, h, t⟩
theorem isS_lst {ys : List I} (h : IsS k F ι H x (.lst ys)) : ∃ a xs, x = .ref a ∧ H a = some (.lst xs) ∧ IsIs k F ι H xs ys := by
  cases h with
  | of h => cases h with
    | lst h _ t => exact ⟨_, _, rfl, h, t⟩
  | lst h t => exact ⟨_, _, rfl, h, t⟩
theorem isS_dic {ks : List Key} {ys : List I} (h : IsS k F ι H x (.dic ks ys)) : ∃ a kvs, x = .ref a ∧ H a = some (.dK kvs) ∧ kvs.map (·.1) = ks ∧ IsIs k F ι H (kvs.map (·.2)) ys := by
  cases h with
  | of h => cases h with
    | dic h _ e t => exact ⟨_, _, rfl, h, e, t⟩
  | dic h e t => exact ⟨_, _, rfl, h, e, t⟩
theorem isS_dit {ks : List (List Key)} {ys : List I} (h : IsS k F ι H x (.dit ks ys)) : ∃ a kvs, x = .ref a ∧ H a = some (.dT kvs) ∧ kvs.map (·.1) = ks ∧ IsIs k F ι H (kvs.map (·.2)) ys := by
  cases h with
  | of h => cases h with
    | dit h _ e t => exact ⟨_, _, rfl, h, e, t⟩
  | dit h e t => exact ⟨_, _, rfl, h, e, t⟩
theorem isS_scr {ns : List Int} (h : IsS k F ι H x (.scr ns)) : ∃ a, x = .ref a ∧ Scr k.K ι H a (ns.map V.int) := by
  cases h with
  | of h => cases h with
    | scr h => exact ⟨_, rfl, h⟩
theorem tup_sq {K : PySem.W.Frag} {a : Addr} {xs : List V} (h : H a = some (.tup xs)) : SqT K H a xs := .inl (.inl h)
theorem lst_sq {K : PySem.W.Frag} {a : Addr} {xs : List V} (h : H a = some (.lst xs)) : SqL K H a xs := .inl (.inl h)
/-- results of one form -/
theorem CN.int {i : Int} (c : CN k F ι H (.int i) cl Q) : Q (.int i) H := c.imm (.inr rfl) _ (.int i)
theorem CN.str {i : Str} (c : CN k F ι H (.str i) cl Q) : Q (.str i) H := c.imm (.inr rfl) _ (.str i)
theorem CN.bl {i : Bool} (c : CN k F ι H (.bl i) cl Q) : Q (.bl i) H := c.imm (.inr rfl) _ (.bl i)
theorem CN.non (c : CN k F ι H .non cl Q) : Q .non H := c.imm (.inr rfl) _ .non
theorem CN.tupO {is : List I} {a : Addr} {vs : List V} (c : CN k F ι H (.tup is) cl Q) (h : H a = some (.tup vs)) (t : IsIs k F ι H vs is) : Q (.ref a) H := c.imm (.inr rfl) _ (.tup h t)
theorem if_some {α : Type} {c : Prop} [Decidable c] {o : Option α} {v : α} (h : (if c then o else none) = some v) : c ∧ o = some v := by
  by_cases hc : c
  · rw [if_pos hc] at h; exact ⟨hc, h⟩
  · rw [if_neg hc] at h; cases h
theorem map_some {α β : Type} {o : Option α} {f : α → β} {v : β} (h : o.map f = some v) : ∃ a, o = some a ∧ f a = v := Option.map_eq_some_iff.mp h
/-! ### the rules -/
def rAdd4 (K : PySem.W.Frag) : R2 := fun x y H Q => (rI0 fun i j => .int (i + j)) x y H Q ∨ (∃ i j, x = .str i ∧ y = .str j ∧ i.length + j.length ≤ sizeLine ∧ Q (.str (i ++ j)) H) ∨ rCatA K x y H Q ∨ rCat x y H Q
theorem op_add4 {X : Cx} : OpR X (binaryOp .Add) (rAdd4 X.K) := OpR.or op_add (OpR.or op_add_str (OpR.or op_catA op_cat))
theorem ru_add {K : PySem.W.Frag} (h : Aft k cl .add Q [x, y] H) : rAdd4 K x y H Q := by
  obtain ⟨F, ι, a, b, v, ha, hb, e, c⟩ := aft2 rfl h
  have e : addD a b = some v := e
  unfold addD at e
  split at e
  · cases e; cases isS_int ha; cases isS_int hb; exact .inl ⟨_, _, rfl, rfl, c.int⟩
  · obtain ⟨hz, e⟩ := if_some e
    cases e; cases isS_str ha; cases isS_str hb; exact .inr (.inl ⟨_, _, rfl, rfl, hz, c.str⟩)
  · obtain ⟨hz, e⟩ := if_some e
    cases e
    obtain ⟨p, xs, rfl, h1, t1⟩ := isS_tup ha
    obtain ⟨q, ys, rfl, h2, t2⟩ := isS_tup hb
    refine .inr (.inr (.inl ⟨_, _, _, _, rfl, rfl, tup_sq h1, tup_sq h2, by rw [t1.length, t2.length]; exact hz, fun z => ?_, fun _ z => ?_, fun _ _ => c.tup _ rfl _ (t1.append t2)⟩))
    · subst z
      cases t1
      exact c.tupO h2 t2
    · subst z
      cases t2
      rw [List.append_nil] at c
      exact c.tupO h1 t1
  · obtain ⟨hz, e⟩ := if_some e
    cases e
    obtain ⟨p, xs, rfl, h1, t1⟩ := isS_lst ha
    obtain ⟨q, ys, rfl, h2, t2⟩ := isS_lst hb
    exact .inr (.inr (.inr ⟨_, _, _, _, rfl, rfl, h1, h2, by rw [t1.length, t2.length]; exact hz, c.lst _ rfl _ (t1.append t2)⟩))
  · cases e
theorem ru_sub (h : Aft k cl .sub Q [x, y] H) : (rI0 fun i j => .int (i - j)) x y H Q := by
  obtain ⟨F, ι, a, b, v, ha, hb, e, c⟩ := aft2 rfl h
  have e : subD a b = some v := e
  unfold subD at e
  split at e
  · cases e; cases isS_int ha; cases isS_int hb; exact ⟨_, _, rfl, rfl, c.int⟩
  · cases e
def rMul2 (K : PySem.W.Frag) : R2 := fun x y H Q => (rI CMulW fun i j => .int (i * j)) x y H Q ∨ rRep x y H Q
theorem op_mul2 {X : Cx} : OpR X (binaryOp .Mult) (rMul2 X.K) := OpR.or op_mulW op_rep
theorem isIs_rep {xs : List V} {is : List I} (h : IsIs k F ι H xs is) : ∀ n : Nat, IsIs k F ι H (List.replicate n xs).flatten (List.replicate n is).flatten
  | 0 => .nil
  | n + 1 => by
    rw [List.replicate_succ, List.replicate_succ, List.flatten_cons, List.flatten_cons]
    exact h.append (isIs_rep h n)
theorem ru_mul {K : PySem.W.Frag} (h : Aft k cl .mul Q [x, y] H) : rMul2 K x y H Q := by
  obtain ⟨F, ι, a, b, v, ha, hb, e, c⟩ := aft2 rfl h
  have e : mulD a b = some v := e
  unfold mulD at e
  split at e
  · obtain ⟨hc, e⟩ := if_some e
    cases e
    exact .inl ⟨_, _, isS_int ha, isS_int hb, hc, c.int⟩
  · obtain ⟨⟨h1, h2, h3⟩, e⟩ := if_some e
    cases e
    obtain ⟨l, us, rfl, hl, t⟩ := isS_lst ha
    exact .inr ⟨l, _, us, rfl, isS_int hb, hl, h1, h2, by rw [t.length]; exact h3, c.lst _ rfl _ (isIs_rep t _)⟩
  · cases e
theorem ru_int {C : Int → Int → Prop} {g : Int → Int → Int} (hd : op.deep = false) (hf : ∀ a b v, opD op [a, b] = some v → ∃ i j, a = .int i ∧ b = .int j ∧ C i j ∧ v = .int (g i j))
    (h : Aft k cl op Q [x, y] H) : rI C (fun i j => .int (g i j)) x y H Q := by
  obtain ⟨F, ι, a, b, v, ha, hb, e, c⟩ := aft2 hd h
  obtain ⟨i, j, rfl, rfl, hc, rfl⟩ := hf a b v e
  exact ⟨i, j, isS_int ha, isS_int hb, hc, c.int⟩
theorem ru_fdiv (h : Aft k cl .fdiv Q [x, y] H) : (rI CDivW fun i j => .int (i / j)) x y H Q := ru_int (g := fun i j => i / j) rfl (fun a b v e => by
  have e : fdivD a b = some v := e
  unfold fdivD at e
  split at e
  · obtain ⟨hc, e⟩ := if_some e
    cases e
    exact ⟨_, _, rfl, rfl, hc, rfl⟩
  · cases e) h
theorem ru_mod (h : Aft k cl .mod Q [x, y] H) : (rI (fun _ j => 0 < j) fun i j => .int (i % j)) x y H Q := ru_int (g := fun i j => i % j) rfl (fun a b v e => by
  have e : modD a b = some v := e
  unfold modD at e
  split at e
  · obtain ⟨hc, e⟩ := if_some e
    cases e
    exact ⟨_, _, rfl, rfl, hc, rfl⟩
  · cases e) h
theorem ru_pow (h : Aft k cl .pow Q [x, y] H) : (rI CPow fun i j => .int (i ^ j.toNat)) x y H Q := ru_int (g := fun i j => i ^ j.toNat) rfl (fun a b v e => by
  have e : powD a b = some v := e
  unfold powD at e
  split at e
  · obtain ⟨hc, e⟩ := if_some e
    cases e
    exact ⟨_, _, rfl, rfl, hc, rfl⟩
  · cases e) h
theorem ru_neg (h : Aft k cl .neg Q [x] H) : (rU fun i => .int (-i)) x H Q := by
  obtain ⟨F, ι, a, v, ha, e, c⟩ := aft1 rfl h
  have e : negD a = some v := e
  unfold negD at e
  split at e
  · cases e
    exact ⟨_, isS_int ha, c.int⟩
  · cases e
theorem eqD_of {a b : I} {r : Bool} (e : eqD a b = some r) : a.pure = true ∧ b.pure = true ∧ SeqAt.shaped a.py = true ∧ SeqAt.shaped b.py = true ∧ r = PyData.eqv a.py b.py := by
  unfold eqD at e
  obtain ⟨hc, e⟩ := if_some e
  unfold I.fit at hc
  simp only [Bool.and_eq_true] at hc
  cases e
  exact ⟨hc.1.1, hc.2.1, hc.1.2, hc.2.2, rfl⟩
theorem ru_eq (h : Aft k cl .eq Q [x, y] H) : rEqD k.K x y H Q := by
  obtain ⟨F, ι, a, b, v, ha, hb, e, c⟩ := aftd2 rfl h
  obtain ⟨r, e2, rfl⟩ := map_some (show (eqD a b).map I.bl = some v from e)
  obtain ⟨p1, p2, s1, s2, rfl⟩ := eqD_of e2
  exact ⟨_, _, ha.dp p1, hb.dp p2, s1, s2, c.bl⟩
theorem ru_ne (h : Aft k cl .ne Q [x, y] H) : rNeD k.K x y H Q := by
  obtain ⟨F, ι, a, b, v, ha, hb, e, c⟩ := aftd2 rfl h
  obtain ⟨r, e2, rfl⟩ := map_some (show (eqD a b).map (fun r => I.bl (!r)) = some v from e)
  obtain ⟨p1, p2, s1, s2, rfl⟩ := eqD_of e2
  exact ⟨_, _, ha.dp p1, hb.dp p2, s1, s2, c.bl⟩
theorem intsI_eq : ∀ {ds : List I} {ns : List Int}, intsI ds = some ns → ds = ns.map I.int
  | [], ns, h => by cases h; rfl
  | d :: ds, ns, h => by
    unfold intsI at h
    split at h
    · rename_i z; cases z
    · rename_i x ds' e
      injection e with e1 e2
      subst e1 e2
      obtain ⟨ys, e, rfl⟩ := map_some h
      rw [intsI_eq e]; rfl
    · cases h
theorem IsIs.inv {α : Type} {f : α → V} {g : α → I} (hi : ∀ a x, IsI k F ι H x (g a) → x = f a) : ∀ {xs : List α} {vs : List V}, IsIs k F ι H vs (xs.map g) → vs = xs.map f
  | [], _, .nil => rfl
  | x :: xs, _, .cons h t => by rw [hi _ _ h, IsIs.inv hi t]; rfl
theorem IsIs.ints {ns : List Int} {vs : List V} (h : IsIs k F ι H vs (ns.map I.int)) : vs = ns.map V.int := h.inv fun a x h => by cases h; rfl
def rLt2 (K : PySem.W.Frag) : R2 := fun x y H Q => ((rI0 fun i j => .bl (decide (i < j))) x y H Q ∨ (∃ i j, x = .str i ∧ y = .str j ∧ Q (.bl (decide (i.cps.toList < j.cps.toList))) H)) ∨ rLtT K x y H Q
theorem op_lt2 {X : Cx} (hu : X.A.units < cLine) : OpR X (compareOp .Lt) (rLt2 X.K) := OpR.or (OpR.or op_lt op_lt_str) (op_ltT hu)
theorem ru_lt (h : Aft k cl .lt Q [x, y] H) : rLt2 k.K x y H Q := by
  obtain ⟨F, ι, a, b, v, ha, hb, e, c⟩ := aft2 rfl h
  have e : ltD a b = some v := e
  unfold ltD at e
  split at e
  · split at e
    · rename_i e1 e2
      cases e
      obtain ⟨p, us, rfl, hp, t1⟩ := isS_tup ha
      obtain ⟨q, ws, rfl, hq, t2⟩ := isS_tup hb
      rw [intsI_eq e1] at t1
      rw [intsI_eq e2] at t2
      rw [t1.ints] at hp
      rw [t2.ints] at hq
      exact .inr ⟨p, q, _, _, rfl, rfl, tup_sq hp, tup_sq hq, c.bl⟩
    · cases e
  · unfold cmpI at e
    split at e
    · cases e
      exact .inl (.inl ⟨_, _, isS_int ha, isS_int hb, c.bl⟩)
    · cases e
      exact .inl (.inr ⟨_, _, isS_str ha, isS_str hb, c.bl⟩)
    · cases e
theorem ru_cmp {p : Int → Int → Bool} (hd : op.deep = false) (hf : ∀ a b v, opD op [a, b] = some v → cmpI p (fun _ _ => none) a b = some v) (h : Aft k cl op Q [x, y] H) : (rI0 fun i j => .bl (p i j)) x y H Q := by
  obtain ⟨F, ι, a, b, v, ha, hb, e, c⟩ := aft2 hd h
  have e := hf _ _ _ e
  unfold cmpI at e
  split at e
  · cases e
    exact ⟨_, _, isS_int ha, isS_int hb, c.bl⟩
  · cases e
  · cases e
theorem isN_of {d v : I} (h : IsS k F ι H x d) (e : isN d = some v) : v = .bl (decide (x = .non)) := by
  cases h with
  | of h => cases h <;> cases e <;> rfl
  | lst _ _ => cases e; rfl
  | dic _ _ => cases e; rfl
  | dit _ _ => cases e; rfl
theorem ru_isN (h : Aft k cl .isN Q [x] H) : Q (.bl (decide (x = .non))) H := by
  obtain ⟨F, ι, a, v, ha, e, c⟩ := aft1 rfl h
  cases isN_of ha (show isN a = some v from e)
  exact c.bl
theorem ru_notN (h : Aft k cl .notN Q [x] H) : Q (.bl (!decide (x = .non))) H := by
  obtain ⟨F, ι, a, v, ha, e, c⟩ := aft1 rfl h
  cases e2 : isN a with
  | none =>
    have e : (isN a).bind _ = some v := e
    rw [e2] at e; cases e
  | some w =>
    have e : (isN a).bind _ = some v := e
    rw [e2] at e
    cases isN_of ha e2
    cases e
    exact c.bl
theorem ru_isB {ng b : Bool} (h : Aft k cl (.isB ng b) Q [x] H) : ∃ d, x = .bl d ∧ Q (.bl (if ng then !decide (d = b) else decide (d = b))) H := by
  obtain ⟨F, ι, a, v, ha, e, c⟩ := aft1 rfl h
  obtain ⟨r, e2, rfl⟩ := map_some (show (isBo b a).map _ = some v from e)
  unfold isBo at e2
  split at e2
  · cases e2
    exact ⟨_, isS_bl ha, c.bl⟩
  · cases e2
end
end Rs

/-! second layer: t[::-1] of a tuple -/
namespace Rs
open PySem PySem.Spec PyProof.Rows L2 HT
theorem adj_rev (n : Nat) : Builtin.Slice.sliceAdjust none none (-1) (n : Int) = ((n : Int) - 1, -1) := by
  unfold Builtin.Slice.sliceAdjust
  have h : (-1 : Int) < 0 := by omega
  simp only [h, if_true]
theorem plc_rev (n : Nat) : Builtin.Slice.slicePlaces ((n : Int) - 1) (-1) (-1) = n := by
  unfold Builtin.Slice.slicePlaces
  have h : ¬ ((-1 : Int) > 0) := by omega
  simp only [h, if_false]
  have e : -(-1 : Int) = 1 := by omega
  rw [e, Int.ediv_one]
  split <;> omega
theorem pick_rev (xs : Array Value) : ((List.range xs.size).filterMap fun (m : Nat) => xs[(((xs.size : Nat) : Int) - 1 + (m : Int) * (-1)).toNat]?).toArray = xs.toList.reverse.toArray := by
  congr 1
  have e : (fun (m : Nat) => xs[(((xs.size : Nat) : Int) - 1 + (m : Int) * (-1)).toNat]?) = fun m => xs[xs.size - 1 - m]? := by
    funext m
    have q : (((xs.size : Nat) : Int) - 1 + (m : Int) * (-1)).toNat = xs.size - 1 - m := by omega
    rw [q]
  rw [e]
  have e2 : (List.range xs.size).filterMap (fun m => xs[xs.size - 1 - m]?) = ((List.range xs.size).map fun m => xs.size - 1 - m).filterMap (xs[·]?) := by
    rw [List.filterMap_map]; rfl
  rw [e2, PySem.W.krv_range, List.filterMap_reverse, PySem.W.krv_all]
section
variable {prog : Program} {w : World} {A : Around} {E : Value → Shared → Prop} {s : Shared}
theorem applied_rev {sl : Addr} {n : Nat} {tk : Tok} {Q : Int × Int × Nat → Shared → Prop} (hs : s.heap.IsSliceOf sl .none .none (.int (-1) tk)) (h : Q ((n : Int) - 1, -1, n) s) :
    wpAny (model prog w) A (Builtin.Slice.sliceApplied (.ref sl) (pure (n : Int))) Q E s := by
  obtain ⟨os, g, hc, hd⟩ := id hs
  unfold Builtin.Slice.sliceApplied
  unfold Builtin.Slice.sliceFields
  refine wpAny_bind (wpAny_bind (wpAny_field g hd (x := .none) rfl (wpAny_bind (wpAny_field g hd (x := .none) rfl (wpAny_bind (wpAny_field g hd (x := .int (-1) tk) rfl (wpAny_pure ?_)))))))
  refine wpAny_bind (slicePart_int ?_)
  show wpAny _ _ (if ((-1 : Int) == 0) = true then _ else _) _ _ s
  rw [if_neg (show ¬ ((-1 : Int) == 0) = true by decide)]
  refine wpAny_bind (slicePart_none (wpAny_bind (slicePart_none (wpAny_bind (wpAny_pure ?_)))))
  show wpAny _ _ (match Builtin.Slice.sliceAdjust none none (-1) (n : Int) with | (lo, hi) => pure (lo, (-1 : Int), Builtin.Slice.slicePlaces lo hi (-1))) _ _ s
  rw [adj_rev n]
  show wpAny _ _ (pure ((n : Int) - 1, (-1 : Int), Builtin.Slice.slicePlaces ((n : Int) - 1) (-1) (-1))) _ _ s
  rw [plc_rev]
  exact wpAny_pure h
theorem item_rev {t sl : Addr} {items : Array Value} {tk : Tok} {Q : Value → Shared → Prop} (ht : IsTup s.heap t items) (hs : s.heap.IsSliceOf sl .none .none (.int (-1) tk))
    (h : Q (.ref s.heap.objs.size) { s with heap := s.heap.push { cls := .type "tuple", data := .seq items.toList.reverse.toArray } }) (hsz : items.size ≤ sizeLine) : wpAny (model prog w) A (getItem (.ref t) (.ref sl)) Q E s := by
  have hok : sizeOk (.seq items.toList.reverse.toArray) := by
    show items.toList.reverse.toArray.size ≤ sizeLine
    simpa using hsz
  obtain ⟨os, g, hc, hd⟩ := id hs
  have hT : s.TypeIs (.ref sl) "slice" := ⟨os, g, hc⟩
  unfold getItem
  try with_reducible refine wpAny_holding ?_
  first | refine wpAny_bind (wpAny_pure ?_) | skip
  refine wpAny_bind (wpAny_sequenceKey (ht.typeIs) (by decide) ?_)
  refine wpAny_bind (wpAny_callSpecial?_slot (name := Str.ofString "__getitem__") (ht.typeIs) PyProof.Rows.slot_tuple_getitem (wpAny_call_entry PyProof.Rows.slot_tuple_getitem ht.typeIs entry_tuple_getitem ?_ (args_tuple_getitem _ _)))
  show wpAny (model prog w) _ (Builtin.Tuple.tupleItemsOf (.ref t) >>= _) _ _ s
  refine wpAny_bind (tupleItemsOf_ ht ?_)
  refine wpAny_bind (wpAny_typeOf hT ?_)
  rw [if_pos (by decide)]
  refine wpAny_bind (applied_rev hs ?_)
  have hno : ¬ ((((items.size : Nat) : Int) - 1 == 0 && (-1 : Int) == 1 && items.size == items.size) = true) := by simp
  show wpAny _ _ (if (((items.size : Nat) : Int) - 1 == 0 && (-1 : Int) == 1 && items.size == items.size) = true then _ else _) _ _ s
  rw [if_neg hno, pick_rev]
  first
    | exact wpAny_bind (m := Builtin.Tuple.tupleExact _) (wpAny_newObj_type (wpAny_pure ⟨_, rfl, wpAny_pure h⟩) hok)
    | exact wpAny_bind (m := Builtin.Tuple.tupleExact _) (wpAny_newObj_type (wpAny_bind (wpAny_pure (wpAny_pure ⟨_, rfl, wpAny_pure h⟩))) hok)
    | exact wpAny_bind (wpAny_bind (m := Builtin.Tuple.tupleExact _) (wpAny_newObj_type (wpAny_pure (wpAny_pure ⟨_, rfl, wpAny_pure h⟩)) hok))
    | exact wpAny_bind (wpAny_bind (m := Builtin.Tuple.tupleExact _) (wpAny_newObj_type (wpAny_pure ⟨_, rfl, wpAny_pure h⟩) hok))
end
section
variable {X : Cx}
def tRevT (K : PySem.W.Frag) (te : TE) : TE := fun σ H Q => te σ H fun x H1 => ∃ a xs, x = .ref a ∧ SqT K H1 a xs ∧ ∀ p, H1 p = none → Q (.ref p) (upd H1 p (.tup xs.reverse))
theorem pe_revT {e : Expr} {te : TE} {k : Nat} {p1 p2 p3 pos : Pos} (he : PE X e te) : PE X (.Subscript e (.Slice none none (some (.UnaryOp .USub (.Constant (.int 1) k p1) p2)) p3) pos) (tRevT X.K te) := by
  refine ⟨fun pins s σ H Q I h => ?_⟩
  refine Subscript_ (thn (he.run pins s σ H _ I h) fun v s1 ⟨x, H1, I1, r1, a, xs, ex, hx, q⟩ => ?_)
  subst ex
  cases r1
  have hst : PO X (some (.UnaryOp .USub (.Constant (.int 1) k p1) p2)) (tPart (tUn (rU fun i => .int (-i)) (tC (.int 1)))) := (po_some (pe_un un_neg pe_int))
  refine wpAny_Slice (thn (po_none.run pins s1 σ H1 (fun o H2 => o = none ∧ H2 = H1) I1 ⟨rfl, rfl⟩) fun vl s2 ⟨l, _, I2, pl, el, e2⟩ => ?_)
  subst el; subst e2
  refine thn (po_none.run pins s2 σ _ (fun o H3 => o = none ∧ H3 = _) I2 ⟨rfl, rfl⟩) fun vu s3 ⟨u, _, I3, pu, eu, e3⟩ => ?_
  subst eu; subst e3
  refine thn (hst.run pins s3 σ _ (fun o H4 => o = some (-1) ∧ H4 = _) I3 ⟨1, rfl, -1, rfl, rfl, rfl⟩) fun vs s4 ⟨o, _, I4, ps, eo, e4⟩ => ?_
  subst eo; subst e4
  cases pl; cases pu
  cases ps with
  | int _ tk =>
    have I5 : Inv X pins σ _ { s4 with heap := s4.heap.push { cls := .type "slice", data := .fields #[.none, .none, .int (-1) tk] } } := I4.kept (t' := s4.toks) (fun b ob q => Heap.get?_push_of_some _ q)
    obtain ⟨its, r, ht, hz⟩ := I5.tuple hx
    have hl := r.length
    show wpAny (model X.prog X.w) X.A (subscriptTail e (.Slice none none (some (.UnaryOp .USub (.Constant (.int 1) k p1) p2)) p3) (.ref a) (.ref s4.heap.objs.size)) (EP X pins σ Q) X.xe { s4 with heap := s4.heap.push { cls := .type "slice", data := .fields #[.none, .none, .int (-1) tk] } }
    refine tail_any (ops := [.ref a, .ref s4.heap.objs.size]) ht.typeIs (PyProof.Rows.slot_tuple_getitem.lookup) ?_ (by with_unfolding_all rfl)
    refine item_rev ht (Heap.IsSliceOf.new _ .none .none (.int (-1) tk)) ?_ (by rw [List.size_toArray]; omega)
    refine ⟨.ref _, _, I5.laid (t' := s4.toks) (o := .tup xs.reverse) (fun b ob q => Heap.get?_push_of_some _ q) (Nat.le_refl _) ?_, rfl, (q _ (I5.hok.fresh (Nat.le_refl _)))⟩
    exact ⟨by rw [List.length_reverse]; exact hz, _, r.reverse, IsTup.new _ _⟩
end
end Rs

/-! second layer: sorted(..) of tuples of ints, whatever their lengths -/
namespace Rs
open PySem PySem.Spec PyProof.Rows L2 HT SrtO
/-- a tuple of ints, in the heap -/
def TupAt (h : Heap) (v : Value) (ns : List Int) : Prop := ∃ (a : Addr) (o : Obj) (n : Nat) (its : Array Value), v = .ref a ∧ h.get? a = some o ∧ o.cls = .type "tuple" ∧ o.data = .seq its n ∧ IntsAre its.toList ns
theorem TupAt.keeps {h h' : Heap} {v : Value} {ns : List Int} (t : TupAt h v ns) (k : ∀ b o, h.get? b = some o → o.cls = .type "tuple" → h'.get? b = some o) : TupAt h' v ns := by
  obtain ⟨a, o, n, its, rfl, ho, hc, hd, hi⟩ := t
  exact ⟨a, o, n, its, rfl, k a o ho hc, hc, hd, hi⟩
section
variable {prog : Program} {w : World} {A : Around} {E : Value → Shared → Prop} {s : Shared}
theorem lex_all {b fin : Bool} {Q : Bool → Shared → Prop} : ∀ {vs : List Value} {ns : List Int}, IntsAre vs ns → ∀ {ws : List Value} {ms : List Int}, IntsAre ws ms → ∀ i, fin = decide (vs.length < ws.length) → Q (lexLt ns ms) s → PySem.W.KatLex prog w A b fin Q (vs.zip ws) i s
  | [], [], _, [], [], _, i, hf, q => PySem.W.kat_nil (by rw [hf]; exact q)
  | [], [], _, y :: ws, ms, h, i, hf, q => by
    cases h with
    | cons m t h =>
      refine PySem.W.kat_nil ?_
      rw [hf]
      exact q
  | x :: vs, ns, h, [], [], _, i, hf, q => by
    cases h with
    | cons m t h =>
      refine PySem.W.kat_nil ?_
      rw [hf]
      exact q
  | _, _, .cons m t h1, _, _, .cons n u h2, i, hf, q => by
    rw [lexLt_cons] at q
    refine PySem.W.kat_cons (SeqAt.EqAt.int_int m t n u prog w _ _ ?_)
    refine PySem.W.kat_go (fun e1 => ?_) (fun e1 => ?_)
    · have ex : m = n := by simpa using e1
      rw [if_pos ex] at q
      exact PySem.W.kat_yes (lex_all h1 h2 (i + 1) (by rw [hf]; simp) q)
    · have ex : ¬ m = n := by simpa using e1
      rw [if_neg ex] at q
      exact PySem.W.kat_no (oneLt_any_int q)
theorem lt_slot {x y : Value} {ns ms : List Int} {Q : Value → Shared → Prop} (hx : TupAt s.heap x ns) (hy : TupAt s.heap y ms) (q : Q (.bool (lexLt ns ms)) s) : wpAny (model prog w) A (call (.builtin "tuple.__lt__") [x, y]) Q E s := by
  obtain ⟨a, ⟨c1, d1, da1, sl1⟩, n, its, rfl, ho, hc, hd, hi⟩ := hx
  obtain ⟨b, ⟨c2, d2, da2, sl2⟩, m, its2, rfl, ho2, hc2, hd2, hi2⟩ := hy
  simp only at hc hd hc2 hd2
  subst hc hd hc2 hd2
  exact call_meets PySem.F.slot_tuple_lt ⟨_, ho, rfl⟩ PySem.F.entry_tuple_lt (PySem.F.args_tuple_lt_2 _ _) (tuple_lt_ints a b its its2 n m d1 d2 sl1 sl2 ns ms hi hi2) ⟨ho, ho2, q⟩
theorem lt_one {x y : Value} {ns ms : List Int} {Q : Bool → Shared → Prop} (hu : A.units < cLine) (hx : TupAt s.heap x ns) (hy : TupAt s.heap y ms) (q : Q (lexLt ns ms) s) : wpAny (model prog w) A (oneLt' true x y) Q E s := by
  rw [oneLt'_eq]
  simp only [if_true]
  refine wpAny_bind (wpAny_cRoomFor hu ?_)
  have hT : s.TypeIs x "tuple" := by
    obtain ⟨a, o, n, its, rfl, ho, hc, hd, hi⟩ := hx
    exact ⟨o, ho, hc⟩
  refine wpAny_bind (wpAny_callSpecialIfBound?_slot hT PySem.F.slot_tuple_lt (lt_slot hx hy ?_))
  exact wpAny_truthy_bool q
theorem lt_gen {x y : Value} {ns ms : List Int} {Q : Bool → Shared → Prop} (hu : A.units < cLine) (hx : TupAt s.heap x ns) (hy : TupAt s.heap y ms) (q : Q (lexLt ns ms) s) : wpAny (model prog w) A (oneLt' false x y) Q E s := by
  obtain ⟨a, o, n, its, rfl, ho, hc, hd, hi⟩ := hx
  obtain ⟨b, o2, m, its2, rfl, ho2, hc2, hd2, hi2⟩ := hy
  rw [oneLt'_eq]
  simp only [Bool.false_eq_true, if_false]
  refine wpAny_bind (m := richCompare .Lt (.ref a) (.ref b)) (show wpAny (model prog w) A (compareOp .Lt (.ref a) (.ref b)) _ E s from ?_)
  exact lt_tupInts ⟨o, ho, hc, n, hd⟩ ⟨o2, ho2, hc2, m, hd2⟩ hi hi2 hu (wpAny_truthy_bool q)
/-- the first items, where there are any -/
theorem firsts_any {M : Model} : ∀ {vs : List Value} {k : Value → List Int}, (∀ v ∈ vs, TupAt s.heap v (k v)) → ∀ {Q : List (Option Value) → Shared → Prop}, (∀ fs : List (Option Value), fs.length = vs.length → (∀ (i : Nat) (v : Value), vs[i]? = some v → ∃ f : Option Value, fs[i]? = some f ∧ (f = none ↔ k v = []) ∧ ∀ x, f = some x → ∃ m t, x = .int m t) → Q fs s) → wpAny M A (vs.mapM firstOfTuple') Q E s
  | [], k, _, Q, q => by
    rw [List.mapM_nil]
    exact wpAny_pure (q [] rfl fun i v e => by simp at e)
  | v :: vs, k, h, Q, q => by
    obtain ⟨a, o, n, its, rfl, ho, hc, hd, hi⟩ := h v List.mem_cons_self
    rw [List.mapM_cons]
    refine wpAny_bind ?_
    rw [PySem.W.kas_first_eq]
    refine wpAny_bind (PySem.W.Looks.here (show PySem.W.Looks M s.heap (typeOf (.ref a)) o.cls from (PySem.W.Looks.ld ho).andThen .now) ?_)
    rw [hc, if_neg (by first | decide | simp)]
    refine wpAny_bind (listItems_at ho hd (wpAny_pure ?_))
    refine wpAny_bind (firsts_any (fun v hv => h v (List.mem_cons_of_mem _ hv)) fun fs hl hf => wpAny_pure (q _ (by simp [hl]) fun i u e => ?_))
    cases i with
    | zero =>
      cases e
      refine ⟨its[0]?, rfl, ?_, fun x hx => ?_⟩
      · generalize k (.ref a) = ns at hi
        obtain ⟨l⟩ := its
        cases hi with
        | nil => simp
        | cons m t h => simp
      · generalize k (.ref a) = ns at hi
        obtain ⟨l⟩ := its
        cases hi with
        | nil => simp at hx
        | cons m t h =>
          have : x = .int m t := by simpa using hx.symm
          exact ⟨m, t, this⟩
    | succ i => exact hf i u (by simpa using e)
theorem kats_of {h : Heap} {k : Value → List Int} : ∀ {vs : List Value}, (∀ v ∈ vs, TupAt h v (k v) ∧ k v ≠ []) → ∃ fs, PySem.W.KatTups h vs fs ∧ fs.length = vs.length ∧ ∀ f ∈ fs, ∃ x t, f = .int x t
  | [], _ => ⟨[], .nil, rfl, (fun _ z => nomatch z)⟩
  | v :: vs, h => by
    obtain ⟨fs, h1, h2, h3⟩ := kats_of fun u hu => h u (List.mem_cons_of_mem _ hu)
    obtain ⟨⟨a, o, n, its, rfl, ho, hc, hd, hi⟩, hne⟩ := h v List.mem_cons_self
    generalize k (.ref a) = ns at hi hne
    obtain ⟨l⟩ := its
    cases hi with
    | nil => exact absurd rfl hne
    | cons m t hi => exact ⟨.int m t :: fs, .cons ho hc hd (by simp) h1, congrArg (· + 1) h2, fun f hf => by
        rcases List.mem_cons.mp hf with rfl | hf
        · exact ⟨m, t, rfl⟩
        · exact h3 f hf⟩
theorem types_all {M : Model} {k : Value → List Int} : ∀ {vs : List Value}, (∀ v ∈ vs, TupAt s.heap v (k v)) → ∀ {Q : List Value → Shared → Prop}, Q (vs.map fun _ => Value.type "tuple") s → wpAny M A (vs.mapM typeOf) Q E s
  | [], _, Q, q => by
    rw [List.mapM_nil]
    exact wpAny_pure q
  | v :: vs, h, Q, q => by
    obtain ⟨a, o, n, its, rfl, ho, hc, hd, hi⟩ := h v List.mem_cons_self
    rw [List.mapM_cons]
    refine wpAny_bind (PySem.W.Looks.here (show PySem.W.Looks M s.heap (typeOf (.ref a)) o.cls from (PySem.W.Looks.ld ho).andThen .now) ?_)
    rw [hc]
    exact wpAny_bind (types_all (fun v hv => h v (List.mem_cons_of_mem _ hv)) (wpAny_pure q))
theorem kind_gen {k : Value → List Int} {vs : List Value} {v0 : Value} {Q : SortKind → Shared → Prop} (h0 : vs[0]? = some v0) (hp : ∀ v ∈ vs, TupAt s.heap v (k v)) (hb : ∃ v ∈ vs, k v = []) (q : Q (if k v0 = [] then oneType' else general') s) : wpAny (model prog w) A (keyKind' vs.toArray) Q E s := by
  rw [keyKind'_eq, List.mapM_toArray, map_eq_pure_bind]
  refine wpAny_bind (wpAny_bind (firsts_any hp fun fs hl hf => wpAny_pure ?_))
  have hall : (fs.toArray.all fun x => x.isSome) = false := by
    obtain ⟨v, hv, hk⟩ := hb
    obtain ⟨i, hi⟩ := List.mem_iff_getElem?.mp hv
    obtain ⟨f, h1, h2, _⟩ := hf i v hi
    have hn : f = none := h2.mpr hk
    subst hn
    rw [Bool.eq_false_iff]
    intro z
    rw [List.all_toArray, List.all_eq_true] at z
    have := z none (List.mem_of_getElem? h1)
    cases this
  rw [if_neg (by rw [hall]; exact (fun z => nomatch z))]
  obtain ⟨f0, h1, h2, _⟩ := hf 0 v0 h0
  have e0 : fs.toArray[0]? = some f0 := by simpa using h1
  rw [e0]
  cases f0 with
  | none =>
    rw [if_pos (h2.mp rfl)] at q
    rw [if_neg (by simp)]
    rw [oneTypeOnly'_eq, List.mapM_toArray, map_eq_pure_bind]
    refine wpAny_bind (wpAny_bind (wpAny_bind (types_all hp (wpAny_pure ?_))))
    cases vs with
    | nil => cases h0
    | cons v vs =>
      have hz : ((((v :: vs).map fun _ => Value.type "tuple").toArray)[0]?) = some (Value.type "tuple") := by simp
      rw [hz]
      dsimp only
      have ha : ((((v :: vs).map fun _ => Value.type "tuple").toArray).all fun x => x == Value.type "tuple") = true := by
        rw [List.all_toArray, List.all_eq_true]
        intro x hx
        obtain ⟨_, _, rfl⟩ := List.mem_map.mp hx
        decide
      rw [if_pos ha]
      refine wpAny_pure ?_
      exact wpAny_pure q
  | some f =>
    rw [if_neg (fun z => by have := h2.mpr z; cases this)] at q
    rw [if_pos (by simp)]
    exact wpAny_pure q
theorem tups_sortable {a : Addr} {vs : List Value} {k : Value → List Int} (hu : A.units < cLine) (h0 : 0 < vs.length) (hp : ∀ v ∈ vs, TupAt s.heap v (k v)) (ha : ∀ o, s.heap.get? a = some o → o.cls ≠ .type "tuple") : SortableO prog w A s a vs fun v u => lexLt (k v) (k u) := by
  intro h' keep
  have hp' : ∀ v ∈ vs, TupAt h' v (k v) := fun v hm => (hp v hm).keeps fun b o e c => keep b o (fun z => by subst z; exact ha o e c) e
  have cmp : ∀ κ, (∀ x y, x ∈ vs → y ∈ vs → ∀ (A : Around), A.units < cLine → wpAny (model prog w) A (keyLt' κ x y) (fun r s' => s' = { s with heap := h' } ∧ r = lexLt (k x) (k y)) (fun _ _ => False) { s with heap := h' }) → Cmp prog w A { s with heap := h' } κ (fun p => p.1 ∈ vs) (lt2 fun v u => lexLt (k v) (k u)) := fun κ h p q h1 h2 => h p.1 q.1 h1 h2 A hu
  by_cases hall : ∀ v ∈ vs, k v ≠ []
  · obtain ⟨fs, h1, h2, h3⟩ := kats_of fun v hv => ⟨hp' v hv, hall v hv⟩
    refine ⟨tuples' true, fun Q E hq => ?_, cmp _ fun x y hx hy A hu => ?_⟩
    · refine PySem.W.kat_kind (s := { s with heap := h' }) (T := .type "int") h1 (by omega) (fun f hm => ?_) (by rfl) ?_
      · obtain ⟨x, t, rfl⟩ := h3 f hm
        exact PySem.W.Looks.now
      · have e : (Value.type "int" != Value.type "tuple") = true := by first | decide +kernel | rfl | decide
        rw [e]
        exact hq
    · obtain ⟨a1, o1, n1, i1, e1, ho1, hc1, hd1, hi1⟩ := hp' x hx
      obtain ⟨a2, o2, n2, i2, e2, ho2, hc2, hd2, hi2⟩ := hp' y hy
      generalize k x = ns at hi1 ⊢
      generalize k y = ms at hi2 ⊢
      subst e1 e2
      refine PySem.W.kat_lt (s := { s with heap := h' }) ho1 hd1 ho2 hd2 ?_
      exact lex_all hi1 hi2 0 (by simp) ⟨rfl, rfl⟩
  · have hb : ∃ v ∈ vs, k v = [] := by
      apply Classical.byContradiction
      intro z
      exact hall fun v hv e => z ⟨v, hv, e⟩
    obtain ⟨v0, e0⟩ : ∃ v0, vs[0]? = some v0 := ⟨_, List.getElem?_eq_getElem h0⟩
    by_cases hk : k v0 = []
    · refine ⟨oneType', fun Q E hq => kind_gen (s := { s with heap := h' }) e0 hp' hb (by rw [if_pos hk]; exact hq), cmp _ fun x y hx hy A hu => ?_⟩
      exact lt_one (s := { s with heap := h' }) hu (hp' x hx) (hp' y hy) ⟨rfl, rfl⟩
    · refine ⟨general', fun Q E hq => kind_gen (s := { s with heap := h' }) e0 hp' hb (by rw [if_neg hk]; exact hq), cmp _ fun x y hx hy A hu => ?_⟩
      exact lt_gen (s := { s with heap := h' }) hu (hp' x hx) (hp' y hy) ⟨rfl, rfl⟩
end
/-! ### the order of lists of ints -/
theorem lex_asym : ∀ a b : List Int, lexLt a b = true → lexLt b a = false
  | [], [], h => by cases h
  | [], _ :: _, _ => rfl
  | _ :: _, [], h => by cases h
  | x :: a, y :: b, h => by
    rw [lexLt_cons] at h ⊢
    by_cases e : x = y
    · rw [if_pos e] at h
      rw [if_pos e.symm]
      exact lex_asym a b h
    · rw [if_neg e] at h
      rw [if_neg (Ne.symm e)]
      have := of_decide_eq_true h
      exact decide_eq_false (by omega)
theorem lex_tr : ∀ a b c : List Int, lexLt b a = false → lexLt c b = false → lexLt c a = false
  | [], b, c, _, _ => by cases c <;> rfl
  | x :: a, [], c, h, _ => by cases h
  | x :: a, y :: b, [], _, h => by cases h
  | x :: a, y :: b, z :: c, h1, h2 => by
    rw [lexLt_cons] at h1 h2 ⊢
    by_cases e1 : y = x
    · rw [if_pos e1] at h1
      by_cases e2 : z = y
      · rw [if_pos e2] at h2
        rw [if_pos (e2.trans e1)]
        exact lex_tr a b c h1 h2
      · rw [if_neg e2] at h2
        rw [if_neg (by omega)]
        have := of_decide_eq_false h2
        exact decide_eq_false (by omega)
    · rw [if_neg e1] at h1
      have h1 := of_decide_eq_false h1
      by_cases e2 : z = y
      · rw [if_neg (by omega)]
        exact decide_eq_false (by omega)
      · rw [if_neg e2] at h2
        have h2 := of_decide_eq_false h2
        rw [if_neg (by omega)]
        exact decide_eq_false (by omega)
theorem lex_tot : ∀ a b : List Int, lexLt a b = false → lexLt b a = false → a = b
  | [], [], _, _ => rfl
  | [], _ :: _, h, _ => by cases h
  | _ :: _, [], _, h => by cases h
  | x :: a, y :: b, h1, h2 => by
    rw [lexLt_cons] at h1 h2
    by_cases e : x = y
    · subst e
      rw [if_pos rfl] at h1 h2
      rw [lex_tot a b h1 h2]
    · rw [if_neg e] at h1
      rw [if_neg (Ne.symm e)] at h2
      have := of_decide_eq_false h1
      have := of_decide_eq_false h2
      omega
theorem swo_by {α : Type} (k : α → List Int) : Swo fun x y => lexLt (k x) (k y) := ⟨fun x y h => lex_asym _ _ h, fun x y z h1 h2 => lex_tr _ _ _ h1 h2⟩
def SrtL (l : List (List Int)) : Prop := l.Pairwise fun a b => HT.lexLt b a = false
theorem srt_uniq : ∀ {l m : List (List Int)}, SrtL l → SrtL m → l.Perm m → l = m
  | [], m, _, _, p => p.nil_eq
  | a :: l, [], _, _, p => absurd p.symm (fun z => by cases z.nil_eq)
  | a :: l, b :: m, h1, h2, p => by
    obtain ⟨h1a, h1b⟩ := List.pairwise_cons.mp h1
    obtain ⟨h2a, h2b⟩ := List.pairwise_cons.mp h2
    have e : a = b := by
      rcases List.mem_cons.mp (p.mem_iff.mp List.mem_cons_self) with e | ha
      · exact e
      · rcases List.mem_cons.mp (p.mem_iff.mpr List.mem_cons_self) with e | hb
        · exact e.symm
        · exact lex_tot a b (h2a a ha) (h1a b hb)
    subst e
    rw [srt_uniq h1b h2b (List.Perm.cons_inv p)]
theorem ins_perm (n : List Int) : ∀ l, (insT n l).Perm (n :: l)
  | [] => List.Perm.refl _
  | m :: l => by
    unfold insT
    split
    · exact List.Perm.refl _
    · exact ((ins_perm n l).cons m).trans (List.Perm.swap n m l)
theorem sort_perm : ∀ l, (sortL l).Perm l
  | [] => List.Perm.refl _
  | n :: l => (ins_perm n (sortL l)).trans ((sort_perm l).cons n)
theorem ins_srt (n : List Int) : ∀ l, SrtL l → SrtL (insT n l)
  | [], _ => List.pairwise_singleton _ _
  | m :: l, h => by
    obtain ⟨h1, h2⟩ := List.pairwise_cons.mp h
    unfold insT
    split
    · rename_i hn
      refine List.pairwise_cons.mpr ⟨fun x hx => ?_, h⟩
      rcases List.mem_cons.mp hx with rfl | hx
      · exact lex_asym _ _ hn
      · exact lex_tr _ _ _ (lex_asym _ _ hn) (h1 x hx)
    · rename_i hn
      refine List.pairwise_cons.mpr ⟨fun x hx => ?_, ins_srt n l h2⟩
      rcases List.mem_cons.mp ((ins_perm n l).mem_iff.mp hx) with rfl | hx
      · exact eq_false_of_ne_true hn
      · exact h1 x hx
theorem sort_srt : ∀ l, SrtL (sortL l)
  | [] => List.Pairwise.nil
  | n :: l => ins_srt n _ (sort_srt l)
/-! ### the rule -/
/-- a tuple's ints -/
def kH (H : Hp) : V → List Int
  | .ref t => match H t with
    | some (.tup us) => us.filterMap fun u => match u with
      | .int i => some i
      | _ => none
    | _ => []
  | _ => []
theorem kH_at {H : Hp} {t : Addr} {ns : List Int} (h : H t = some (.tup (ns.map V.int))) : kH H (.ref t) = ns := by
  unfold kH
  dsimp only
  rw [h]
  dsimp only
  rw [List.filterMap_map]
  exact List.filterMap_some
def rSortedTu (K : PySem.W.Frag) : List V → Hp → VK → Prop := fun vs H Q => ∃ (a : Addr) (xs : List V), vs = [V.ref a] ∧ SqL K H a xs ∧ (∀ x ∈ xs, ∃ t, x = V.ref t ∧ ∃ ns : List Int, H t = some (.tup (ns.map V.int))) ∧
  ∀ ys p, (ys.map (kH H)) = sortL (xs.map (kH H)) → ys.Perm xs → H p = none → Q (.ref p) (upd H p (.lst ys))
section
variable {X : Cx}
theorem cr_sortedTu (hu : X.A.units + 65 < cLine) : CallR X (.builtin "sorted") (rSortedTu X.K) := by
  intro pins s σ H vs us Q I r h
  obtain ⟨a, xs, rfl, hs, hx, q⟩ := h
  obtain ⟨its, rv, hl, hz⟩ := I.list hs
  obtain ⟨u, rfl, ru⟩ := vals1 r
  obtain rfl : u = Value.ref a := ru
  obtain ⟨e1, e2⟩ := refs_back rv fun x m => by
    obtain ⟨t, e, _⟩ := hx x m
    exact ⟨t, e⟩
  have hp : ∀ v ∈ its, TupAt s.heap v (kH H (backV v)) := fun v hv => by
    obtain ⟨t, rfl⟩ := e2 v hv
    have hm : V.ref t ∈ xs := by rw [e1]; exact List.mem_map.mpr ⟨_, hv, rfl⟩
    obtain ⟨t', e, ns, ht⟩ := hx _ hm
    cases e
    obtain ⟨_, its2, r2, o, ho, hc, n, hd⟩ := I.hok _ _ ht
    show TupAt s.heap (.ref t) (kH H (.ref t))
    rw [kH_at ht]
    exact ⟨t, o, n, _, rfl, ho, hc, hd, intsAre_of r2⟩
  refine sorted_ord (swo_by fun u => kH H (backV u)) hl.isList (by rw [← rv.length]; exact hz) (fun h2 h₁ a ha kk => ?_) fun out hs hb => ?_
  · refine tups_sortable (s := { s with heap := h₁ }) (by show X.A.units + 1 + 1 < cLine; omega) (by omega) (fun v hm => (hp v hm).keeps fun b o e _ => (kk b o e).2) fun o e => ?_
    have e' : some o = some (seqObj "list" its.toArray 0) := e.symm.trans ha
    cases e'
    intro c
    exact absurd (Value.type.inj c) (by decide)
  · have h3 : ∀ u ∈ out, ∃ a, u = Value.ref a := fun u hu => e2 u (hb.perm.mem_iff.mp hu)
    obtain ⟨n, hn⟩ := sortedAll_at s.heap its out.toArray
    have pm : (out.map backV).Perm xs := by rw [e1]; exact hb.perm.map _
    refine ⟨.ref (s.heap.objs.size + 1), upd H (s.heap.objs.size + 1) (.lst (out.map backV)), I.laid (t' := s.toks) (fun b o e => sortedAll_old e) (Nat.le_succ _) ⟨by rw [pm.length_eq]; exact hz, out, n, vals_back h3, hn⟩, rfl, q _ _ ?_ pm (I.hok.fresh (Nat.le_succ _))⟩
    refine srt_uniq ?_ (sort_srt _) ((pm.map _).trans (sort_perm _).symm)
    rw [List.map_map]
    exact List.pairwise_map.mpr hs
end
end Rs

/-! second layer, part e: the rules of further operations -/
namespace Rs
open PySem PySem.Spec PyProof.Rows L2
section
variable {X : Cx} {k : Kx} {cl : Bool} {Q : VK} {x y z : V} {H : Hp} {op : Op} {F : Addr → Prop} {ι : List Addr}
/-! ### dicts -/
theorem keyI_of {a : I} {kk : Key} (h : IsI k F ι H x a) (e : keyI a = some kk) : x = kV kk := by
  cases h <;> cases e <;> rfl
theorem keysI_of : ∀ {xs : List I} {vs : List V} {ks : List Key}, IsIs k F ι H vs xs → keysI xs = some ks → vs = ks.map kV
  | [], _, _, h, e => by cases e; cases h; rfl
  | x :: xs, vs, ks, h, e => by
    unfold keysI at e
    split at e
    · rename_i kk ks' e1 e2
      cases e
      cases h with
      | cons h t => rw [keyI_of h e1, keysI_of t e2]; rfl
    · cases e
theorem atK_val {κ : Type} [DecidableEq κ] : ∀ {kvs : List (κ × V)} {ks : List κ} {xs : List I} {j : κ}, kvs.map (·.1) = ks → IsIs k F ι H (kvs.map (·.2)) xs →
    (∀ d, atK ks xs j = some d → ∃ v, valV kvs j = some v ∧ IsI k F ι H v d) ∧ (atK ks xs j = none → valV kvs j = none)
  | [], _, _, _, e, h => by
    cases e; cases h
    exact ⟨(fun _ z => nomatch z), fun _ => rfl⟩
  | (k0, v0) :: kvs, _, _, j, e, h => by
    cases e
    cases h with
    | cons h t =>
      rename_i d0 xs
      have ih := atK_val (j := j) (kvs := kvs) rfl t
      have e1 : atK (((k0, v0) :: kvs).map (·.1)) (d0 :: xs) j = if k0 = j then some d0 else atK (kvs.map (·.1)) xs j := rfl
      have e2 : valV ((k0, v0) :: kvs) j = if k0 = j then some v0 else valV kvs j := by
        unfold valV
        rw [List.find?_cons]
        by_cases hk : k0 = j
        · rw [if_pos hk, decide_eq_true hk]; rfl
        · rw [if_neg hk, decide_eq_false hk]
      rw [e1, e2]
      by_cases hk : k0 = j
      · rw [if_pos hk, if_pos hk]
        exact ⟨fun d z => by cases z; exact ⟨_, rfl, h⟩, (fun z => nomatch z)⟩
      · rw [if_neg hk, if_neg hk]
        exact ih
theorem isSome_val {κ : Type} [DecidableEq κ] {kvs : List (κ × V)} {ks : List κ} {xs : List I} {j : κ} (e : kvs.map (·.1) = ks) (h : IsIs k F ι H (kvs.map (·.2)) xs) : (valV kvs j).isSome = (atK ks xs j).isSome := by
  have := atK_val (j := j) e h
  cases e2 : atK ks xs j with
  | none => rw [this.2 e2]; rfl
  | some d => obtain ⟨v, e3, _⟩ := this.1 d e2; rw [e3]; rfl
/-- a key in the right form for a dict -/
theorem dget {a b v : I} (ha : IsS k F ι H x a) (hb : IsI k F ι H y b) : (∀ d, ixD a b = some d → (∃ ks xs, a = .dic ks xs) ∨ (∃ ks xs, a = .dit ks xs) → ∃ p w, x = .ref p ∧ DGet H p y (some w) ∧ IsI k F ι H w d) := fun d e hh => by
  rcases hh with ⟨ks, xs, rfl⟩ | ⟨ks, xs, rfl⟩
  · obtain ⟨p, kvs, rfl, hp, ek, t⟩ := isS_dic ha
    have e : dicD ks xs b = some d := by
      cases b <;> exact e
    unfold dicD at e
    split at e
    · rename_i kk e1
      obtain ⟨w, e2, hw⟩ := (atK_val ek t).1 d e
      refine ⟨p, w, rfl, ?_, hw⟩
      rw [keyI_of hb e1, ← e2]
      exact .k hp
    · cases e
  · obtain ⟨p, kvs, rfl, hp, ek, t⟩ := isS_dit ha
    cases b with
    | tup bs =>
      have e : (match keysI bs with
        | some k => atK ks xs k
        | none => none) = some d := e
      split at e
      · rename_i kk e1
        obtain ⟨w, e2, hw⟩ := (atK_val ek t).1 d e
        cases hb with
        | tup hb tb =>
          refine ⟨p, w, rfl, ?_, hw⟩
          rw [keysI_of tb e1] at hb
          rw [← e2]
          exact .t hp hb
      · cases e
    | _ => cases e
def rDIn : R2 := fun x y H Q => ∃ a o, y = .ref a ∧ DGet H a x o ∧ Q (.bl o.isSome) H
def rDNotIn : R2 := fun x y H Q => ∃ a o, y = .ref a ∧ DGet H a x o ∧ Q (.bl (!o.isSome)) H
theorem op_inDic (hu : X.A.units + 1 < cLine) : OpR X (compareOp .In) rDIn := by
  intro pins s σ H x y v u Q I rx ry h
  obtain ⟨a, o, rfl, g, q⟩ := h
  cases ry
  exact d_in hu I g rx fun s' I' => ⟨.bl o.isSome, H, I', rfl, q⟩
theorem op_notInDic (hu : X.A.units + 1 < cLine) : OpR X (compareOp .NotIn) rDNotIn := by
  intro pins s σ H x y v u Q I rx ry h
  obtain ⟨a, o, rfl, g, q⟩ := h
  cases ry
  exact d_notIn hu I g rx fun s' I' => ⟨.bl (!o.isSome), H, I', rfl, q⟩
def rIn4 (K : PySem.W.Frag) : R2 := fun x y H Q => (∃ (c : Nat) (z : Str), x = .str ⟨#[c]⟩ ∧ y = .str z ∧ Q (.bl (decide (c ∈ z.cps.toList))) H) ∨ rInD K x y H Q ∨ rIn K false x y H Q ∨ rDIn x y H Q
theorem op_in4 (hu : X.A.units + 65 < cLine) : OpR X (compareOp .In) (rIn4 X.K) := OpR.or op_in_sign (OpR.or (op_inD hu) (OpR.or op_in_seq (op_inDic (by omega))))
def rNotIn4 (K : PySem.W.Frag) : R2 := fun x y H Q => (∃ (c : Nat) (z : Str), x = .str ⟨#[c]⟩ ∧ y = .str z ∧ Q (.bl (!decide (c ∈ z.cps.toList))) H) ∨ rNotInD K x y H Q ∨ rIn K true x y H Q ∨ rDNotIn x y H Q
theorem op_notIn4 (hu : X.A.units + 65 < cLine) : OpR X (compareOp .NotIn) (rNotIn4 X.K) := OpR.or op_notIn_sign (OpR.or (op_notInD hu) (OpR.or op_notIn_seq (op_notInDic (by omega))))
theorem scal_v {a : I} (h : IsI k F ι H x a) (e : a.scal = true) : x = a.v ∧ flatV x = true := by
  cases h <;> first | (cases e; done) | exact ⟨rfl, rfl⟩
theorem scals_v : ∀ {xs : List I} {vs : List V}, IsIs k F ι H vs xs → xs.all I.scal = true → vs = xs.map I.v ∧ vs.all flatV = true
  | [], _, h, _ => by cases h; exact ⟨rfl, rfl⟩
  | x :: xs, _, h, e => by
    cases h with
    | cons h t =>
      rw [List.all_cons, Bool.and_eq_true] at e
      obtain ⟨a1, a2⟩ := scal_v h e.1
      obtain ⟨b1, b2⟩ := scals_v t e.2
      refine ⟨by rw [a1, b1]; rfl, by rw [List.all_cons, a2, b2]; rfl⟩
theorem inn_of {a b : I} {r : Bool} (ha : IsR k H x a) (hb : IsR k H y b) (e : innD a b = some r) :
    (∃ (c : Nat) (z : Str), x = .str ⟨#[c]⟩ ∧ y = .str z ∧ r = decide (c ∈ z.cps.toList)) ∨ (∃ d ds, Dp k.K H x d ∧ Dp k.K H y (.list ds) ∧ SeqAt.shaped d = true ∧ SeqAt.shaped (.list ds) = true ∧ r = ds.any fun z => PyData.eqv z d) ∨
      (∃ p xs, y = .ref p ∧ (SqL k.K H p xs ∨ SqT k.K H p xs) ∧ flatV x = true ∧ xs.all flatV = true ∧ r = inV x xs) ∨ ∃ p o, y = .ref p ∧ DGet H p x o ∧ r = o.isSome := by
  have tupc : ∀ {ys : List I} {p : Addr} {xs : List V}, inT a ys = some r → y = .ref p → SqT k.K H p xs → IsIs k (fun _ => False) [] H xs ys → ∃ p xs, y = .ref p ∧ (SqL k.K H p xs ∨ SqT k.K H p xs) ∧ flatV x = true ∧ xs.all flatV = true ∧ r = inV x xs := fun {ys p xs} e ey hp t => by
    unfold inT at e
    obtain ⟨hc, e⟩ := if_some e
    rw [Bool.and_eq_true] at hc
    cases e
    obtain ⟨a1, a2⟩ := scal_v ha hc.1
    obtain ⟨b1, b2⟩ := scals_v t hc.2
    exact ⟨p, xs, ey, .inr hp, a2, b2, by rw [a1, b1]⟩
  unfold innD at e
  split at e
  · obtain ⟨hc, e⟩ := if_some e
    cases e
    rename_i s z
    have hs : s = ⟨#[s.cps.getD 0 0]⟩ := by
      obtain ⟨cps⟩ := s
      have hc : cps.size = 1 := hc
      have hc' : cps.toList.length = 1 := by simpa using hc
      obtain ⟨c, e⟩ := List.length_eq_one_iff.mp hc'
      have e : cps = #[c] := by rw [← Array.toList_inj]; exact e
      subst e
      rfl
    refine .inl ⟨_, _, ?_, (by cases hb; rfl), rfl⟩
    rw [← hs]
    cases ha; rfl
  · obtain ⟨hc, e⟩ := if_some e
    unfold I.fit at hc
    simp only [Bool.and_eq_true] at hc
    cases e
    exact .inr (.inl ⟨_, _, ha.dp hc.1.1, hb.dp hc.2.1, hc.1.2, hc.2.2, rfl⟩)
  · cases hb with
    | tup h t => exact .inr (.inr (.inl (tupc e rfl (tup_sq h) t)))
  · cases hb with
    | wtp h t => exact .inr (.inr (.inl (tupc e rfl h t)))
  · split at e
    · rename_i kk e1
      cases e
      obtain ⟨p, kvs, rfl, hp, ek, t⟩ := isS_dic (.of hb)
      refine .inr (.inr (.inr ⟨p, _, rfl, ?_, (isSome_val ek t).symm⟩))
      rw [keyI_of ha e1]
      exact .k hp
    · cases e
  · split at e
    · rename_i kk e1
      cases e
      obtain ⟨p, kvs, rfl, hp, ek, t⟩ := isS_dit (.of hb)
      cases ha with
      | tup ha ta =>
        refine .inr (.inr (.inr ⟨p, _, rfl, ?_, (isSome_val ek t).symm⟩))
        rw [keysI_of ta e1] at ha
        exact .t hp ha
    · cases e
  · cases e
theorem ru_in (h : Aft k cl .inn Q [x, y] H) : rIn4 k.K x y H Q := by
  obtain ⟨F, ι, a, b, v, ha, hb, e, c⟩ := aftd2 rfl h
  obtain ⟨r, e2, rfl⟩ := map_some (show (innD a b).map I.bl = some v from e)
  rcases inn_of ha hb e2 with ⟨j, z, h1, h2, rfl⟩ | ⟨d, ds, h1, h2, h3, h4, rfl⟩ | ⟨p, xs, h1, h2, h3, h4, rfl⟩ | ⟨p, o, h1, h2, rfl⟩
  · exact .inl ⟨j, z, h1, h2, c.bl⟩
  · exact .inr (.inl ⟨d, ds, h1, h2, h3, h4, c.bl⟩)
  · exact .inr (.inr (.inl ⟨p, xs, h1, h2, h3, h4, c.bl⟩))
  · exact .inr (.inr (.inr ⟨p, o, h1, h2, c.bl⟩))
theorem ru_notin (h : Aft k cl .notin Q [x, y] H) : rNotIn4 k.K x y H Q := by
  obtain ⟨F, ι, a, b, v, ha, hb, e, c⟩ := aftd2 rfl h
  obtain ⟨r, e2, rfl⟩ := map_some (show (innD a b).map (fun r => I.bl (!r)) = some v from e)
  rcases inn_of ha hb e2 with ⟨j, z, h1, h2, rfl⟩ | ⟨d, ds, h1, h2, h3, h4, rfl⟩ | ⟨p, xs, h1, h2, h3, h4, rfl⟩ | ⟨p, o, h1, h2, rfl⟩
  · exact .inl ⟨j, z, h1, h2, c.bl⟩
  · exact .inr (.inl ⟨d, ds, h1, h2, h3, h4, c.bl⟩)
  · exact .inr (.inr (.inl ⟨p, xs, h1, h2, h3, h4, c.bl⟩))
  · exact .inr (.inr (.inr ⟨p, o, h1, h2, c.bl⟩))
/-! ### subscripts -/
theorem atI_map {α β : Type} (g : α → β) {xs : List α} {i : Int} {v : α} (h : atI xs i = some v) : atI (xs.map g) i = some (g v) := by
  unfold atI at h ⊢
  rw [List.length_map]
  cases e : ixN xs.length i with
  | none => rw [e] at h; cases h
  | some j =>
    rw [e] at h
    have h : xs[j]? = some v := h
    show (xs.map g)[j]? = some (g v)
    rw [List.getElem?_map, h]; rfl
theorem atI_is {vs : List V} {ds : List I} {i : Int} {d : I} (h : IsIs k F ι H vs ds) (e : atI ds i = some d) : ∃ v, atI vs i = some v ∧ IsI k F ι H v d := by
  unfold atI at e ⊢
  rw [h.length]
  cases e2 : ixN ds.length i with
  | none => rw [e2] at e; cases e
  | some j =>
    rw [e2] at e
    obtain ⟨v, h1, h2⟩ := h.get (j := j) e
    exact ⟨v, h1, h2⟩
def rIxD : R2 := fun x y H Q => ∃ a v, x = .ref a ∧ DGet H a y (some v) ∧ Q v H
theorem ix_dic (hu : X.A.units + 1 < cLine) : IxR X rIxD := by
  intro value slice pins s σ H x y v u Q I rx ry h hs
  obtain ⟨a, z, rfl, g, q⟩ := h
  cases rx
  have hT := dict_typeIs I g
  unfold subscriptTail
  refine wpAny_bind ?_
  rw [getitemInPython_of_ne hT.not_modules]
  refine wpAny_bind (wpAny_specialOf hT PySem.F.slot_dict_getitem.lookup ?_)
  have fin : wpAny (model X.prog X.w) X.A (subscripted slice false (.ref a) u) (fun r s₃ => wpAny (model X.prog X.w) X.A (letTemporaryGo value (.ref a) r >>= fun _ => pure r) (EP X pins σ Q) X.xe s₃) X.xe s := by
    rw [hs]
    exact wpAny_operating (d_getItem hu I g ry fun w' s' I' rw' => wpAny_bind (wpAny_letTemporaryGo (wpAny_pure ⟨z, H, I', rw', q⟩)))
  first
    | exact wpAny_pure (wpAny_bind fin)
    | exact wpAny_bind fin
theorem deep_of {a : I} (h : IsS k F ι H y a) (hn : ∀ xs, a ≠ .lst xs) (hd : ∀ ks xs, a ≠ .dic ks xs) (ht : ∀ ks xs, a ≠ .dit ks xs) : IsI k F ι H y a := by
  cases h with
  | of h => exact h
  | lst _ _ => exact absurd rfl (hn _)
  | dic _ _ _ => exact absurd rfl (hd _ _)
  | dit _ _ _ => exact absurd rfl (ht _ _)
theorem ru_ix (hcl : cl = false) (h : Aft k cl .ix Q [x, y] H) : rIx k.K x y H Q ∨ rIxD x y H Q := by
  obtain ⟨F, ι, a, b, v, ha, hb, e, c⟩ := aft2 rfl h
  have e : ixD a b = some v := e
  have imm := c.imm (.inl hcl)
  have dd : (∃ ks xs, a = .dic ks xs) ∨ (∃ ks xs, a = .dit ks xs) → rIx k.K x y H Q ∨ rIxD x y H Q := fun hh => by
    have hb' : IsI k F ι H y b := by
      refine deep_of hb (fun xs z => ?_) (fun ks xs z => ?_) (fun ks xs z => ?_) <;>
      · subst z
        rcases hh with ⟨ks, xs, rfl⟩ | ⟨ks, xs, rfl⟩ <;> cases e
    obtain ⟨p, w, rfl, g, i⟩ := dget (v := v) ha hb' v e hh
    exact .inr ⟨p, w, rfl, g, imm _ i⟩
  unfold ixD at e
  split at e
  · obtain ⟨n, en, rfl⟩ := map_some e
    obtain ⟨p, rfl, hs⟩ := isS_scr ha
    exact .inl (.inl ⟨p, _, _, _, rfl, isS_int hb, hs.sq, atI_map V.int en, c.int⟩)
  · obtain ⟨p, us, rfl, hl, t⟩ := isS_lst ha
    obtain ⟨w, h1, h2⟩ := atI_is t e
    exact .inl (.inl ⟨p, us, _, w, rfl, isS_int hb, lst_sq hl, h1, imm _ h2⟩)
  · obtain ⟨p, us, rfl, hl, t⟩ := isS_tup ha
    obtain ⟨w, h1, h2⟩ := atI_is t e
    exact .inl (.inr (.inl ⟨p, us, _, w, rfl, isS_int hb, tup_sq hl, h1, imm _ h2⟩))
  · obtain ⟨p, us, rfl, hl, t⟩ := isS_wtp ha
    obtain ⟨w, h1, h2⟩ := atI_is t e
    exact .inl (.inr (.inl ⟨p, us, _, w, rfl, isS_int hb, hl, h1, imm _ h2⟩))
  · obtain ⟨hz, e⟩ := if_some e
    obtain ⟨n, en, rfl⟩ := map_some e
    exact .inl (.inr (.inr ⟨_, _, _, isS_str ha, isS_int hb, hz, en, c.str⟩))
  · exact dd (.inl ⟨_, _, rfl⟩)
  · exact dd (.inr ⟨_, _, rfl⟩)
  · cases e
/-! ### slices -/
theorem cut_map {α β : Type} (g : α → β) (xs : List α) (lo hi : Option Int) : cut (xs.map g) lo hi = (cut xs lo hi).map g := by
  unfold cut
  rw [List.length_map, List.map_take, List.map_drop]
theorem cutV_eq (xs : List V) (lo hi : Option Int) : cutV xs lo hi = cut xs lo hi := rfl
def rSl3 (K : PySem.W.Frag) : V → Option Int → Option Int → Hp → VK → Prop := fun x lo hi H Q => rSlL K x lo hi H Q ∨ rSlA K x lo hi H Q ∨ rSlS x lo hi H Q
theorem sl_3 : SlR X (rSl3 X.K) := SlR.or sl_list (SlR.or sl_tupA sl_str)
theorem cut_all {α : Type} {xs : List α} {lo hi : Option Int} (h : HT.sIx xs.length 0 lo = 0 ∧ HT.sIx xs.length xs.length hi = xs.length) : cut xs lo hi = xs := by
  unfold cut
  rw [h.1, h.2, List.drop_zero]
  exact List.take_of_length_le (by omega)
theorem sl_of {a v : I} {lo hi : Option Int} (ha : IsS k F ι H x a) (e : sliceD a lo hi = some v) (c : CN k F ι H v cl Q) : rSl3 k.K x lo hi H Q := by
  unfold sliceD at e
  split at e
  · cases e
    obtain ⟨p, us, rfl, hl, t⟩ := isS_lst ha
    exact .inl ⟨p, us, rfl, lst_sq hl, c.lst _ rfl _ (t.cut _ _)⟩
  · cases e
    obtain ⟨p, us, rfl, hl, t⟩ := isS_tup ha
    refine .inr (.inl ⟨p, us, rfl, tup_sq hl, fun hw => ?_, fun _ => c.tup _ rfl _ (t.cut _ _)⟩)
    rw [t.length] at hw
    rw [cut_all hw] at c
    exact c.tupO hl t
  · obtain ⟨hz, e⟩ := if_some e
    cases e
    exact .inr (.inr ⟨_, isS_str ha, hz, c.str⟩)
  · rename_i ns
    cases e
    obtain ⟨p, rfl, hs⟩ := isS_scr ha
    refine .inl ⟨p, _, rfl, hs.sq, ?_⟩
    rw [cutV_eq, cut_map]
    rw [cut_map] at c
    exact c.lst _ rfl _ (IsIs.mapP (fun n => .int n) _)
  · cases e
theorem ru_sl00 (h : Aft k cl (.slice false false) Q [x] H) : rSl3 k.K x none none H Q := by
  obtain ⟨F, ι, a, v, ha, e, c⟩ := aft1 rfl h
  exact sl_of ha e c
theorem ru_sl10 (h : Aft k cl (.slice true false) Q [x, y] H) : ∃ i, y = .int i ∧ rSl3 k.K x (some i) none H Q := by
  obtain ⟨F, ι, a, b, v, ha, hb, e, c⟩ := aft2 rfl h
  unfold opD at e
  simp only at e
  split at e
  · exact ⟨_, isS_int hb, sl_of ha e c⟩
  · cases e
theorem ru_sl01 (h : Aft k cl (.slice false true) Q [x, y] H) : ∃ i, y = .int i ∧ rSl3 k.K x none (some i) H Q := by
  obtain ⟨F, ι, a, b, v, ha, hb, e, c⟩ := aft2 rfl h
  unfold opD at e
  simp only at e
  split at e
  · exact ⟨_, isS_int hb, sl_of ha e c⟩
  · cases e
theorem ru_rev (h : Aft k cl .rev Q [x] H) : ∃ a xs, x = .ref a ∧ SqL k.K H a xs ∧ ∀ p, H p = none → Q (.ref p) (upd H p (.lst xs.reverse)) := by
  obtain ⟨F, ι, a, v, ha, e, c⟩ := aft1 rfl h
  have e : revD a = some v := e
  unfold revD at e
  split at e
  · cases e
    obtain ⟨p, us, rfl, hl, t⟩ := isS_lst ha
    exact ⟨p, us, rfl, lst_sq hl, c.lst _ rfl _ t.reverse⟩
  · cases e
theorem ru_revT (h : Aft k cl .revT Q [x] H) : ∃ a xs, x = .ref a ∧ SqT k.K H a xs ∧ ∀ p, H p = none → Q (.ref p) (upd H p (.tup xs.reverse)) := by
  obtain ⟨F, ι, a, v, ha, e, c⟩ := aft1 rfl h
  have e : revT a = some v := e
  unfold revT at e
  split at e
  · cases e
    obtain ⟨p, us, rfl, hl, t⟩ := isS_tup ha
    exact ⟨p, us, rfl, tup_sq hl, c.tup _ rfl _ t.reverse⟩
  · cases e
end
end Rs

/-! second layer, part f: calls of built-in functions, methods, truth -/
namespace Rs
open PySem PySem.Spec PyProof.Rows L2
section
variable {X : Cx} {k : Kx} {cl : Bool} {Q : VK} {x y z : V} {H : Hp} {op : Op} {F : Addr → Prop} {ι : List Addr}
theorem boolsI_eq : ∀ {ds : List I} {ns : List Bool}, boolsI ds = some ns → ds = ns.map I.bl
  | [], ns, h => by cases h; rfl
  | d :: ds, ns, h => by
    unfold boolsI at h
    split at h
    · rename_i z; cases z
    · rename_i x ds' e
      injection e with e1 e2
      subst e1 e2
      obtain ⟨ys, e, rfl⟩ := map_some h
      rw [boolsI_eq e]; rfl
    · cases h
theorem strsI_eq : ∀ {ds : List I} {ns : List Str}, strsI ds = some ns → ds = ns.map I.str
  | [], ns, h => by cases h; rfl
  | d :: ds, ns, h => by
    unfold strsI at h
    split at h
    · rename_i z; cases z
    · rename_i x ds' e
      injection e with e1 e2
      subst e1 e2
      obtain ⟨ys, e, rfl⟩ := map_some h
      rw [strsI_eq e]; rfl
    · cases h
theorem IsIs.bools {ns : List Bool} {vs : List V} (h : IsIs k F ι H vs (ns.map I.bl)) : vs = ns.map V.bl := h.inv fun a x h => by cases h; rfl
theorem IsIs.strs {ns : List Str} {vs : List V} (h : IsIs k F ι H vs (ns.map I.str)) : vs = ns.map V.str := h.inv fun a x h => by cases h; rfl

/-! ### built-in functions -/
def rLen2 (K : PySem.W.Frag) : List V → Hp → VK → Prop := fun xs H Q => (∃ x n, xs = [x] ∧ LenV K x H n ∧ Q (.int n) H) ∨ ∃ a kvs, xs = [V.ref a] ∧ H a = some (.dK kvs) ∧ Q (.int kvs.length) H
theorem call_len2 : CallR X (.builtin "len") (rLen2 X.K) := CallR.or call_len call_lenD
theorem ru_len {xs : List V} (h : Aft k cl .len Q xs H) (hl : xs.length = 1) : rLen2 k.K xs H Q := by
  obtain ⟨w, rfl⟩ := List.length_eq_one_iff.mp hl
  obtain ⟨F, ι, a, v, ha, e, c⟩ := aft1 rfl h
  have e : lenD a = some v := e
  unfold lenD at e
  split at e
  · cases e
    obtain ⟨p, rfl, hs⟩ := isS_scr ha
    refine .inl ⟨_, _, rfl, .inl ⟨_, hs.sq, rfl⟩, ?_⟩
    rw [List.length_map]
    exact c.int
  · cases e
    obtain ⟨p, us, rfl, hl, t⟩ := isS_lst ha
    refine .inl ⟨_, _, rfl, .inl ⟨_, lst_sq hl, rfl⟩, ?_⟩
    rw [t.length]
    exact c.int
  · cases e
    obtain ⟨p, us, rfl, hl, t⟩ := isS_tup ha
    refine .inl ⟨_, _, rfl, .inr ⟨_, tup_sq hl, rfl⟩, ?_⟩
    rw [t.length]
    exact c.int
  · cases e
    obtain ⟨p, us, rfl, hl, t⟩ := isS_wtp ha
    refine .inl ⟨_, _, rfl, .inr ⟨_, hl, rfl⟩, ?_⟩
    rw [t.length]
    exact c.int
  · cases e
    obtain ⟨p, kvs, rfl, hp, ek, t⟩ := isS_dic ha
    refine .inr ⟨p, kvs, rfl, hp, ?_⟩
    rw [← List.length_map (f := (·.1)) (as := kvs), ek]
    exact c.int
  · obtain ⟨hz, e⟩ := if_some e
    cases e
    refine .inl ⟨_, _, rfl, ?_, c.int⟩
    cases isS_str ha
    exact ⟨hz, rfl⟩
  · cases e
theorem ru_abs {xs : List V} (h : Aft k cl .abs Q xs H) (hl : xs.length = 1) : ∃ i, xs = [.int i] ∧ Q (.int (if i < 0 then -i else i)) H := by
  obtain ⟨w, rfl⟩ := List.length_eq_one_iff.mp hl
  obtain ⟨F, ι, a, v, ha, e, c⟩ := aft1 rfl h
  unfold opD at e
  simp only at e
  split at e
  · cases e
    cases isS_int ha
    exact ⟨_, rfl, c.int⟩
  · cases e
theorem ru_sum {xs : List V} (h : Aft k cl .sum Q xs H) (hl : xs.length = 1) : rSum k.K xs H Q := by
  obtain ⟨w, rfl⟩ := List.length_eq_one_iff.mp hl
  obtain ⟨F, ι, a, v, ha, e, c⟩ := aft1 rfl h
  unfold opD at e
  simp only at e
  split at e
  · obtain ⟨ns, e2, rfl⟩ := map_some e
    obtain ⟨p, us, rfl, hl, t⟩ := isS_lst ha
    rw [intsI_eq e2] at t
    rw [t.ints] at hl
    exact ⟨p, ns, rfl, lst_sq hl, c.int⟩
  · cases e
theorem tups_of : ∀ {us : List V} {xs : List I} {L : List (List Int)}, IsIs k F ι H us xs → tupsL xs = some L → (∀ x ∈ us, ∃ t, x = V.ref t ∧ ∃ ns : List Int, H t = some (.tup (ns.map V.int))) ∧ us.map (kH H) = L
  | _, _, L, .nil, e => by
    cases e
    exact ⟨(fun _ z => nomatch z), rfl⟩
  | _, _, L, .cons (x := x) (xs := xs) h t, e => by
    unfold tupsL at e
    split at e
    · rename_i z; cases z
    · rename_i y ys z
      injection z with z1 z2
      subst z1 z2
      split at e
      · rename_i n l e1 e2
        cases e
        obtain ⟨i1, i2⟩ := tups_of t e2
        cases h with
        | tup hp hu =>
          rw [intsI_eq e1] at hu
          rw [hu.ints] at hp
          refine ⟨fun w hw => ?_, ?_⟩
          · rcases List.mem_cons.mp hw with rfl | hw
            · exact ⟨_, rfl, _, hp⟩
            · exact i1 w hw
          · rw [List.map_cons, kH_at hp, i2]
      · cases e
    · cases e
theorem items_is : ∀ {ys : List V}, (∀ x ∈ ys, ∃ t, x = V.ref t ∧ ∃ ns : List Int, H t = some (.tup (ns.map V.int))) → IsIs k F ι H ys (ys.map fun x => I.tup ((kH H x).map .int))
  | [], _ => .nil
  | y :: ys, h => by
    obtain ⟨t, rfl, ns, e⟩ := h y List.mem_cons_self
    refine .cons ?_ (items_is fun x hx => h x (List.mem_cons_of_mem _ hx))
    show IsI k F ι H (.ref t) (.tup ((kH H (.ref t)).map .int))
    rw [kH_at e]
    exact .tup e (IsIs.mapP (fun n => .int n) _)
theorem ru_sorted {xs : List V} (h : Aft k cl .sorted Q xs H) (hl : xs.length = 1) : rSortedTu k.K xs H Q := by
  obtain ⟨w, rfl⟩ := List.length_eq_one_iff.mp hl
  obtain ⟨F, ι, a, v, ha, e, c⟩ := aft1 rfl h
  unfold opD at e
  simp only at e
  split at e
  · obtain ⟨L, e2, rfl⟩ := map_some e
    obtain ⟨p, us, rfl, hl, t⟩ := isS_lst ha
    obtain ⟨h1, h2⟩ := tups_of t e2
    refine ⟨p, us, rfl, lst_sq hl, h1, fun ys q hy pm hq => c.lst _ rfl ys ?_ q hq⟩
    rw [← h2, ← hy, List.map_map]
    exact items_is fun x hx => h1 x (pm.mem_iff.mp hx)
  · cases e
theorem ru_bools {g : List Bool → Bool} {xs : List V} (hd : op.deep = false) (hf : ∀ a : I, opD op [a] = match a with | .lst xs => (boolsI xs).map fun bs => .bl (g bs) | _ => none) (h : Aft k cl op Q xs H) (hl : xs.length = 1) :
    ∃ (a : Addr) (bs : List Bool), xs = [V.ref a] ∧ SqL k.K H a (bs.map V.bl) ∧ Q (.bl (g bs)) H := by
  obtain ⟨w, rfl⟩ := List.length_eq_one_iff.mp hl
  obtain ⟨F, ι, a, v, ha, e, c⟩ := aft1 hd h
  rw [hf] at e
  split at e
  · obtain ⟨ns, e2, rfl⟩ := map_some e
    obtain ⟨p, us, rfl, hl, t⟩ := isS_lst ha
    rw [boolsI_eq e2] at t
    rw [t.bools] at hl
    exact ⟨p, ns, rfl, lst_sq hl, c.bl⟩
  · cases e
theorem ru_tuple {xs : List V} (h : Aft k cl .tuple Q xs H) (hl : xs.length = 1) : ∃ p ys, xs = [.ref p] ∧ ((SqL k.K H p ys ∧ ∀ l, H l = none → Q (.ref l) (upd H l (.tup ys))) ∨ (SqT k.K H p ys ∧ Q (.ref p) H)) := by
  obtain ⟨w, rfl⟩ := List.length_eq_one_iff.mp hl
  obtain ⟨F, ι, a, v, ha, e, c⟩ := aft1 rfl h
  unfold opD at e
  simp only at e
  split at e
  · cases e
    obtain ⟨p, us, rfl, hl, t⟩ := isS_lst ha
    exact ⟨p, us, rfl, .inl ⟨lst_sq hl, c.tup _ rfl _ t⟩⟩
  · cases e
    obtain ⟨p, us, rfl, hl, t⟩ := isS_tup ha
    exact ⟨p, us, rfl, .inr ⟨tup_sq hl, c.tupO hl t⟩⟩
  · cases e
theorem keys_is {kvs : List (List Key × V)} {bs : List Addr} (h : IsKeys H kvs bs) : IsIs k F ι H (bs.map V.ref) ((kvs.map (·.1)).map fun q => I.tup (q.map keyD)) := by
  unfold IsKeys at h
  induction h with
  | nil => exact .nil
  | @cons a b l1 l2 h t ih =>
    refine .cons (.tup h ?_) ih
    have : ∀ q : List Key, IsIs k F ι H (q.map kV) (q.map keyD) := fun q => by
      induction q with
      | nil => exact .nil
      | cons x q ih => exact .cons (by cases x <;> constructor) ih
    exact this a.1
theorem ru_list {xs : List V} (h : Aft k cl .list Q xs H) (hl : xs.length = 1) : (∃ p ys, xs = [.ref p] ∧ (SqL k.K H p ys ∨ SqT k.K H p ys) ∧ ∀ l, H l = none → Q (.ref l) (upd H l (.lst ys))) ∨ (∃ d kvs, xs = [V.ref d] ∧ Rd H d (.dT kvs) ∧ ∀ p bs, H p = none → IsKeys H kvs bs → Q (.ref p) (upd H p (.lst (bs.map V.ref)))) := by
  obtain ⟨w, rfl⟩ := List.length_eq_one_iff.mp hl
  obtain ⟨F, ι, a, v, ha, e, c⟩ := aft1 rfl h
  unfold opD at e
  simp only at e
  split at e
  · cases e
    obtain ⟨p, us, rfl, hl, t⟩ := isS_lst ha
    exact .inl ⟨p, us, rfl, .inl (lst_sq hl), c.lst _ rfl _ t⟩
  · cases e
    obtain ⟨p, us, rfl, hl, t⟩ := isS_tup ha
    exact .inl ⟨p, us, rfl, .inr (tup_sq hl), c.lst _ rfl _ t⟩
  · cases e
    obtain ⟨d, kvs, rfl, hd, hk, t⟩ := isS_dit ha
    subst hk
    exact .inr ⟨d, kvs, rfl, .inl hd, fun p bs hp hb => c.lst _ rfl _ (keys_is hb) p hp⟩
  · cases e
theorem ru_intc {xs : List V} (h : Aft k cl .int Q xs H) (hl : xs.length = 1) : ((∃ i, xs = [.int i] ∧ Q (.int i) H) ∨ ∃ k, xs = [.bl k] ∧ Q (.int (if k then 1 else 0)) H) ∨ ∃ a n, xs = [.str a] ∧ PySem.intText? a = some n ∧ a.length ≤ 640 ∧ Q (.int n) H := by
  obtain ⟨w, rfl⟩ := List.length_eq_one_iff.mp hl
  obtain ⟨F, ι, a, v, ha, e, c⟩ := aft1 rfl h
  unfold opD at e
  simp only at e
  split at e
  · cases e
    cases isS_int ha
    exact .inl (.inl ⟨_, rfl, c.int⟩)
  · cases e
    cases isS_bl ha
    exact .inl (.inr ⟨_, rfl, c.int⟩)
  · obtain ⟨hz, e⟩ := if_some e
    obtain ⟨n, e2, rfl⟩ := map_some e
    cases isS_str ha
    exact .inr ⟨_, _, rfl, e2, hz, c.int⟩
  · cases e
theorem ru_boolc {xs : List V} (h : Aft k cl .bool Q xs H) (hl : xs.length = 1) : (∃ i, xs = [.int i] ∧ Q (.bl (i != 0)) H) ∨ ∃ k, xs = [.bl k] ∧ Q (.bl k) H := by
  obtain ⟨w, rfl⟩ := List.length_eq_one_iff.mp hl
  obtain ⟨F, ι, a, v, ha, e, c⟩ := aft1 rfl h
  unfold opD at e
  simp only at e
  split at e
  · cases e
    cases isS_int ha
    exact .inl ⟨_, rfl, c.bl⟩
  · cases e
    cases isS_bl ha
    exact .inr ⟨_, rfl, c.bl⟩
  · cases e
def rStr2 : List V → Hp → VK → Prop := fun xs H Q => (∃ i : Int, xs = [.int i] ∧ i.natAbs.log2 < 1920 ∧ Q (.str (toString i)) H) ∨ ∃ a, xs = [.str a] ∧ Q (.str a) H
theorem call_str2 : CallR X (.type "str") rStr2 := CallR.or call_str_int SkE.call_str_str
theorem ru_strc {xs : List V} (h : Aft k cl .str Q xs H) (hl : xs.length = 1) : rStr2 xs H Q := by
  obtain ⟨w, rfl⟩ := List.length_eq_one_iff.mp hl
  obtain ⟨F, ι, a, v, ha, e, c⟩ := aft1 rfl h
  unfold opD at e
  simp only at e
  split at e
  · obtain ⟨hz, e⟩ := if_some e
    cases e
    cases isS_int ha
    exact .inl ⟨_, rfl, hz, c.str⟩
  · cases e
    cases isS_str ha
    exact .inr ⟨_, rfl, c.str⟩
  · cases e
theorem ru_min {xs : List V} (h : Aft k cl .min Q xs H) (hl : xs.length = 2) : ∃ i j, xs = [.int i, .int j] ∧ Q (.int (if j < i then j else i)) H := by
  obtain ⟨w, u, rfl⟩ : ∃ w u, xs = [w, u] := by
    match xs, hl with
    | [w, u], _ => exact ⟨w, u, rfl⟩
  obtain ⟨F, ι, a, b, v, ha, hb, e, c⟩ := aft2 rfl h
  unfold opD at e
  simp only at e
  split at e
  · cases e
    cases isS_int ha
    cases isS_int hb
    exact ⟨_, _, rfl, c.int⟩
  · cases e
theorem ru_max {xs : List V} (h : Aft k cl .max Q xs H) (hl : xs.length = 2) : ∃ i j, xs = [.int i, .int j] ∧ Q (.int (if j > i then j else i)) H := by
  obtain ⟨w, u, rfl⟩ : ∃ w u, xs = [w, u] := by
    match xs, hl with
    | [w, u], _ => exact ⟨w, u, rfl⟩
  obtain ⟨F, ι, a, b, v, ha, hb, e, c⟩ := aft2 rfl h
  unfold opD at e
  simp only at e
  split at e
  · cases e
    cases isS_int ha
    cases isS_int hb
    exact ⟨_, _, rfl, c.int⟩
  · cases e
theorem sqT_ty {K : PySem.W.Frag} {a : Addr} {xs : List V} (h : SqT K H a xs) : TyX K H (.ref a) (.type "tuple") := by
  rcases h with (h | ⟨o, h⟩) | ⟨o, its, n, h, hc, _⟩
  · exact .base (.tup h)
  · exact .fTuple h
  · exact .kTuple h hc
theorem isT_of {d : I} {t : Ty} {b : Bool} (h : IsS k F ι H x d) (e : isTy d t = some b) : ∃ u : String, TyX k.K H x (.type u) ∧ kitB u t.name = some b := by
  have lst : ∀ {a : Addr} {xs : List V} {ys : List I}, H a = some (.lst xs) → isTy (.lst ys) t = some b → ∃ u : String, TyX k.K H (.ref a) (.type u) ∧ kitB u t.name = some b := fun h e => by
    cases e; exact ⟨_, .base (.lst h), by cases t <;> decide +kernel⟩
  have dic : ∀ {a : Addr} {kvs : List (Key × V)} {ks : List Key} {ys : List I}, H a = some (.dK kvs) → isTy (.dic ks ys) t = some b → ∃ u : String, TyX k.K H (.ref a) (.type u) ∧ kitB u t.name = some b := fun h e => by
    cases e; exact ⟨_, .base (.dK h), by cases t <;> decide +kernel⟩
  have dit : ∀ {a : Addr} {kvs : List (List Key × V)} {ks : List (List Key)} {ys : List I}, H a = some (.dT kvs) → isTy (.dit ks ys) t = some b → ∃ u : String, TyX k.K H (.ref a) (.type u) ∧ kitB u t.name = some b := fun h e => by
    cases e; exact ⟨_, .base (.dT h), by cases t <;> decide +kernel⟩
  cases h with
  | of h =>
    cases h with
    | non => cases e; exact ⟨_, .base .non, by cases t <;> decide +kernel⟩
    | bl b => cases e; exact ⟨_, .base (.bl b), by cases t <;> decide +kernel⟩
    | int b => cases e; exact ⟨_, .base (.int b), by cases t <;> decide +kernel⟩
    | str b => cases e; exact ⟨_, .base (.str b), by cases t <;> decide +kernel⟩
    | tup h _ => cases e; exact ⟨_, sqT_ty (tup_sq h), by cases t <;> decide +kernel⟩
    | wtp h _ => cases e; exact ⟨_, sqT_ty h, by cases t <;> decide +kernel⟩
    | lst h _ _ => exact lst h e
    | dic h _ _ _ => exact dic h e
    | dit h _ _ _ => exact dit h e
    | scr _ => cases e
    | obj _ => cases e
  | lst h _ => exact lst h e
  | dic h _ _ => exact dic h e
  | dit h _ _ => exact dit h e
theorem ru_isT {t : Ty} (h : Aft k cl (.isT t) Q [x] H) : rIsi k.K [x, .ty t.name] H Q := by
  obtain ⟨F, ι, a, v, ha, e, c⟩ := aft1 rfl h
  obtain ⟨r, e2, rfl⟩ := map_some (show (isTy a t).map I.bl = some v from e)
  obtain ⟨u, h1, h2⟩ := isT_of ha e2
  exact ⟨x, _, _, _, r, rfl, .ty _, h1, kit_ty h2, c.bl⟩
/-! ### truth -/
theorem tru_of {d : I} {b : Bool} (h : IsS k F ι H x d) (e : truth d = some b) : TruV k.K x H b := by
  have lst : ∀ {a : Addr} {xs : List V} {ys : List I}, H a = some (.lst xs) → IsIs k F ι H xs ys → truth (.lst ys) = some b → TruV k.K (.ref a) H b := fun h t e => by
    cases e
    refine .inl ⟨_, lst_sq h, ?_⟩
    cases t <;> rfl
  cases h with
  | of h =>
    cases h with
    | non => cases e; rfl
    | bl b => cases e; rfl
    | int b => cases e; rfl
    | str b =>
      have e : (if b.length ≤ sizeLine then some ((b.length : Int) != 0) else none) = some _ := e
      obtain ⟨hz, e⟩ := if_some e
      cases e
      exact ⟨hz, rfl⟩
    | tup h t =>
      cases e
      refine .inr (.inl ⟨_, tup_sq h, ?_⟩)
      cases t <;> rfl
    | wtp h t =>
      cases e
      refine .inr (.inl ⟨_, h, ?_⟩)
      cases t <;> rfl
    | lst h _ t => exact lst h t e
    | dic h _ _ _ => cases e
    | dit h _ _ _ => cases e
    | scr _ => cases e
    | obj _ => cases e
  | lst h t => exact lst h t e
  | dic _ _ _ => cases e
  | dit _ _ _ => cases e
end
/-! ### methods -/
section
variable {X : Cx} {k : Kx} {Q : VK} {H : Hp} {σ : L2.St} {W : WX} {Φ : Oracle}
/-- the receiver, then the arguments -/
theorem meth_imp {m : Mth} {o : C} {as : Cs} (h : tE k Φ W (.meth m o as) σ H Q) :
    tE k Φ W o σ H fun x H1 => (∃ F ι d, IsS k F ι H1 x d ∧ recv m d = true) ∧ tA k Φ W as σ H1 fun xs H2 => ∃ F ι M v vs r, CsOk k F ι H2 M ∧ IsI k F ι H2 x v ∧ IsIs k F ι H2 xs vs ∧ mthD M m v vs = some r ∧ CN k F ι H2 r false Q := by
  obtain ⟨F, ι, τ, M, S, f⟩ := h
  unfold evE at f
  refine ⟨F, ι, τ, M, S, f.bind fun v M1 x ι1 H1 S1 s1 i1 f1 => ?_⟩
  split at f1
  · rename_i hr
    refine ⟨⟨F, ι1, _, sh_ok S1.cs i1, hr⟩, F, ι1, τ, M1, S1, f1.bindA fun vs M2 xs ι2 H2 S2 s2 i2 f2 => ?_⟩
    cases e : mthD M2 m v vs with
    | none => rw [e] at f2; exact f2.elim
    | some r => rw [e] at f2; exact ⟨F, ι2, M2, v, vs, r, S2.cs, i1.go s2, i2, e, Fin.cn S2 f2⟩
  · exact f1.elim
theorem join_imp {o a : C} (h : tE k Φ W (.meth .join o (.cons a .nil)) σ H Q) : tM1 (fun x xs H Q => ∃ a p, ∃ ys : List Str, x = .str a ∧ xs = [.ref p] ∧ (SqL k.K H p (ys.map V.str) ∨ SqT k.K H p (ys.map V.str)) ∧
      (ys.map (·.length)).sum + ys.length * a.length ≤ 16777216 ∧ Q (.str (Txt.join a ys)) H) (tE k Φ W o) (tE k Φ W a) σ H Q := by
  refine tE.mono (meth_imp h) fun x H1 q => ?_
  obtain ⟨⟨F, ι, d, hd, hr⟩, q⟩ := q
  have hs : ∃ s, d = .str s := by
    cases d <;> first | exact ⟨_, rfl⟩ | cases hr
  obtain ⟨s, rfl⟩ := hs
  refine ⟨⟨s, isS_str hd⟩, tE.mono (tA_1 q) fun y H2 q2 => ?_⟩
  obtain ⟨F2, ι2, M, v, vs, r, C, i, is, e, c⟩ := q2
  cases isS_str hd
  cases i
  cases is with
  | cons i2 t =>
    cases t
    unfold mthD at e
    dsimp only at e
    split at e
    · rename_i ys e1
      obtain ⟨zs, e2, e⟩ := Option.bind_eq_some_iff.mp e
      obtain ⟨hz, e⟩ := if_some e
      cases e
      have := sh_ok C i2
      rw [e1] at this
      obtain ⟨p, us, rfl, hp, t⟩ := isS_lst this
      rw [strsI_eq e2] at t
      rw [t.strs] at hp
      exact ⟨s, p, zs, rfl, rfl, .inl (lst_sq hp), hz, c.str⟩
    · cases e
theorem split_imp {o a : C} (h : tE k Φ W (.meth .split o (.cons a .nil)) σ H Q) : tM1 (fun x xs H Q => ∃ a b, x = .str a ∧ xs = [.str b] ∧ (b.length == 0) = false ∧ a.length + 2 ≤ sizeLine ∧ rNewStrs (Txt.split a b) H Q) (tE k Φ W o) (tE k Φ W a) σ H Q := by
  refine tE.mono (meth_imp h) fun x H1 q => ?_
  obtain ⟨⟨F, ι, d, hd, hr⟩, q⟩ := q
  have hs : ∃ s, d = .str s := by
    cases d <;> first | exact ⟨_, rfl⟩ | cases hr
  obtain ⟨s, rfl⟩ := hs
  refine ⟨⟨s, isS_str hd⟩, tE.mono (tA_1 q) fun y H2 q2 => ?_⟩
  obtain ⟨F2, ι2, M, v, vs, r, C, i, is, e, c⟩ := q2
  cases isS_str hd
  cases i
  cases is with
  | cons i2 t =>
    cases t
    rename_i w
    cases w <;> first | (cases e; done) | skip
    cases i2
    obtain ⟨⟨h1, h2⟩, e⟩ := if_some e
    cases e
    exact ⟨_, _, rfl, rfl, h1, h2, c.lst _ rfl _ (IsIs.mapP (fun n => .str n) _)⟩
theorem getD_val {F : Addr → Prop} {ι : List Addr} {kvs : List (Key × V)} {ks : List Key} {xs : List I} {j : Key} {d : I} {z : V} (e : kvs.map (·.1) = ks) (h : IsIs k F ι H (kvs.map (·.2)) xs) (hz : IsI k F ι H z d) : IsI k F ι H ((valV kvs j).getD z) ((atK ks xs j).getD d) := by
  have := atK_val (j := j) e h
  cases e2 : atK ks xs j with
  | none => rw [this.2 e2]; exact hz
  | some d => obtain ⟨v, e3, q⟩ := this.1 d e2; rw [e3]; exact q
theorem dic_isD {F : Addr → Prop} {ι : List Addr} {d : I} {x : V} (hd : IsS k F ι H x d) (hr : recv .get1 d = true ∨ recv .get2 d = true) : ∃ a, x = .ref a ∧ L2.IsD H a := by
  have : ∃ ks xs, d = .dic ks xs := by
    cases d <;> first | exact ⟨_, _, rfl⟩ | (rcases hr with z | z <;> cases z)
  obtain ⟨ks, xs, rfl⟩ := this
  obtain ⟨p, kvs, rfl, hp, _⟩ := isS_dic hd
  exact ⟨p, rfl, .inl ⟨kvs, .inl hp⟩⟩
theorem get1_imp {o a : C} (h : tE k Φ W (.meth .get1 o (.cons a .nil)) σ H Q) : tDGet1 (tE k Φ W o) (tE k Φ W a) σ H Q := by
  refine tE.mono (meth_imp h) fun x H1 q => ?_
  obtain ⟨⟨F, ι, d, hd, hr⟩, q⟩ := q
  obtain ⟨p, rfl, hp⟩ := dic_isD hd (.inl hr)
  refine ⟨p, rfl, hp, tE.mono (tA_1 q) fun y H2 q2 => ?_⟩
  obtain ⟨F2, ι2, M, v, vs, r, C, i, is, e, c⟩ := q2
  cases is with
  | cons i2 t =>
    cases t
    unfold mthD at e
    dsimp only at e
    split at e
    · rename_i e1
      obtain ⟨kk, e2, rfl⟩ := map_some e
      have := sh_ok C i
      rw [e1] at this
      obtain ⟨p', kvs, e3, hp, ek, t⟩ := isS_dic this
      cases e3
      refine ⟨_, ?_, c.imm (.inl rfl) _ (getD_val ek t .non)⟩
      rw [keyI_of i2 e2]
      exact .k hp
    · cases e
theorem get2_imp {o a b : C} (h : tE k Φ W (.meth .get2 o (.cons a (.cons b .nil))) σ H Q) : tDGet2 (tE k Φ W o) (tE k Φ W a) (tE k Φ W b) σ H Q := by
  refine tE.mono (meth_imp h) fun x H1 q => ?_
  obtain ⟨⟨F, ι, d, hd, hr⟩, q⟩ := q
  obtain ⟨p, rfl, hp⟩ := dic_isD hd (.inr hr)
  refine ⟨p, rfl, hp, tE.mono (tA_2 q) fun y H2 q2 => tE.mono q2 fun z H3 q3 => ?_⟩
  obtain ⟨F2, ι2, M, v, vs, r, C, i, is, e, c⟩ := q3
  cases is with
  | cons i2 t =>
    cases t with
    | cons i3 t =>
      cases t
      unfold mthD at e
      dsimp only at e
      split at e
      · rename_i e1
        obtain ⟨kk, e2, rfl⟩ := map_some e
        have := sh_ok C i
        rw [e1] at this
        obtain ⟨p', kvs, e3, hp, ek, t⟩ := isS_dic this
        cases e3
        refine ⟨_, ?_, c.imm (.inl rfl) _ (getD_val ek t i3)⟩
        rw [keyI_of i2 e2]
        exact .k hp
      · cases e
theorem firstAt_ok {ds : List PyData} {d : PyData} {n : Nat} (h : firstAt ds d = some n) : ∃ z, ds[n]? = some z ∧ PyData.eqv z d = true ∧ ∀ m z', m < n → ds[m]? = some z' → PyData.eqv z' d = false := by
  unfold firstAt at h
  obtain ⟨hn, h1, h2⟩ := List.findIdx?_eq_some_iff_getElem.mp h
  refine ⟨_, List.getElem?_eq_getElem hn, h1, fun m z' hm e => ?_⟩
  obtain ⟨hl, e⟩ := List.getElem?_eq_some_iff.mp e
  have := h2 m hm
  rw [e] at this
  simpa using this
theorem index_imp {o a : C} (h : tE k Φ W (.meth .index o (.cons a .nil)) σ H Q) : tBM k.K "list" (rIndexD k.K) (tE k Φ W o) (tA k Φ W (.cons a .nil)) σ H Q := by
  refine tE.mono (meth_imp h) fun x H1 q => ?_
  obtain ⟨⟨F, ι, d, hd, hr⟩, F0, ι0, τ0, M0, S0, f0⟩ := q
  have hs : ∃ s, d = .lst s := by
    cases d <;> first | exact ⟨_, rfl⟩ | cases hr
  obtain ⟨s, rfl⟩ := hs
  obtain ⟨p, us, rfl, hp, _⟩ := isS_lst hd
  refine ⟨.inl ⟨rfl, _, lst_sq hp⟩, F0, ι0, τ0, M0, S0, f0.mono fun xs H2 q2 => ?_⟩
  obtain ⟨F2, ι2, M, v, vs, r, C, i, is, e, c⟩ := q2
  cases is with
  | nil => cases e
  | cons i2 t =>
    cases t with
    | cons i3 t => cases e
    | nil =>
      unfold mthD at e
      dsimp only at e
      split at e
      · rename_i ys z e1 e2
        obtain ⟨hc, e⟩ := if_some e
        obtain ⟨n, e3, rfl⟩ := map_some e
        unfold I.fit at hc
        simp only [Bool.and_eq_true] at hc
        have h1 := (frz_read C e1 i).dp hc.1.1
        have h2 := (frz_read C e2 i2).dp hc.2.1
        obtain ⟨w, g1, g2, g3⟩ := firstAt_ok e3
        exact ⟨p, _, _, _, n, w, rfl, rfl, h1, h2, hc.1.2, hc.2.2, g1, g2, g3, c.int⟩
      · cases e
/-- a[b:c] -/
theorem sl2_imp {a b c : C} (h : tE k Φ W (.sl2 a b c) σ H Q) : tE k Φ W a σ H fun x H1 => tE k Φ W b σ H1 fun y H2 => ∃ i, y = .int i ∧ tE k Φ W c σ H2 fun z H3 => ∃ j, z = .int j ∧ rSl3 k.K x (some i) (some j) H3 Q := by
  obtain ⟨F, ι, τ, M, S, f⟩ := h
  unfold evE at f
  refine ⟨F, ι, τ, M, S, f.bind fun v M1 x ι1 H1 S1 s1 i1 f1 => ⟨F, ι1, τ, M1, S1, f1.bind fun u M2 y ι2 H2 S2 s2 i2 f2 => ?_⟩⟩
  split at f2
  · cases i2
    refine ⟨_, rfl, F, ι2, τ, M2, S2, f2.bind fun w M3 z ι3 H3 S3 s3 i3 f3 => ?_⟩
    split at f3
    · cases i3
      refine ⟨_, rfl, ?_⟩
      rename_i lo _ hi
      cases e : sliceD (sh M3 v) (some lo) (some hi) with
      | none => rw [e] at f3; exact f3.elim
      | some r => rw [e] at f3; exact sl_of (sh_ok S3.cs ((i1.go s2).go s3)) e (Fin.cn S3 f3)
    · exact f3.elim
  · exact f2.elim
end
end Rs

/-! second layer, part g: the text against the language -/
namespace Rs
open PySem PySem.Spec PyProof.Rows L2

/-- a program's text: slot names of the def at hand, defs by number, constants -/
structure Ctx where
  N : List Str
  fns : List (Str × List Str)
  glb : List (Str × I)
  kws : List (Nat × List Str × List Nat) := []
  excs : List Str := []

def plainN (x : Str) : Bool := !(x == ("__debug__" : Str)) && !(x == ("__classdict__" : Str)) && !decide (x = ("__name__" : Str))
def visB (sc : Scope) (x : Str) : Bool := match sc.names.lookup x with
  | some .local => true
  | some .cell => true
  | some .free => true
  | _ => false
def glB (sc : Scope) (x : Str) : Bool := decide (sc.names.lookup x = some .globalImplicit) && plainN x
def locB (sc : Scope) (x : Str) : Bool := decide (sc.names.lookup x = some .local)
def cnt : I → Const → Bool
  | .non, .none => true
  | .bl a, .bool b => decide (a = b)
  | .int a, .int b => decide (a = b)
  | .str a, .str b => decide (a = b)
  | _, _ => false
/-- an operation's parts in the text -/
def bltName : Op → Option String
  | .len => some "len" | .abs => some "abs" | .sum => some "sum" | .tuple => some "tuple" | .list => some "list" | .int => some "int" | .str => some "str" | .bool => some "bool" | .all => some "all" | .any => some "any" | .sorted => some "sorted"
  | _ => none
def bltName2 : Op → Option String
  | .min => some "min" | .max => some "max"
  | _ => none
def isTyName : Ty → Str := fun t => Str.ofString t.name
def shape (sc : Scope) : Op → Expr → Option (List Expr)
  | .add, .BinOp a .Add b _ => some [a, b]
  | .sub, .BinOp a .Sub b _ => some [a, b]
  | .mul, .BinOp a .Mult b _ => some [a, b]
  | .fdiv, .BinOp a .FloorDiv b _ => some [a, b]
  | .mod, .BinOp a .Mod b _ => some [a, b]
  | .pow, .BinOp a .Pow b _ => some [a, b]
  | .neg, .UnaryOp .USub a _ => some [a]
  | .eq, .Compare a [.Eq] [b] _ => some [a, b]
  | .ne, .Compare a [.NotEq] [b] _ => some [a, b]
  | .lt, .Compare a [.Lt] [b] _ => some [a, b]
  | .le, .Compare a [.LtE] [b] _ => some [a, b]
  | .gt, .Compare a [.Gt] [b] _ => some [a, b]
  | .ge, .Compare a [.GtE] [b] _ => some [a, b]
  | .isN, .Compare a [.Is] [.Constant .none _ _] _ => some [a]
  | .notN, .Compare a [.IsNot] [.Constant .none _ _] _ => some [a]
  | .isB false b, .Compare a [.Is] [.Constant (.bool c) _ _] _ => if decide (b = c) then some [a] else none
  | .isB true b, .Compare a [.IsNot] [.Constant (.bool c) _ _] _ => if decide (b = c) then some [a] else none
  | .inn, .Compare a [.In] [b] _ => some [a, b]
  | .notin, .Compare a [.NotIn] [b] _ => some [a, b]
  | .slice false false, .Subscript a (.Slice none none none _) _ => some [a]
  | .slice true false, .Subscript a (.Slice (some b) none none _) _ => some [a, b]
  | .slice false true, .Subscript a (.Slice none (some b) none _) _ => some [a, b]
  | .rev, .Subscript a (.Slice none none (some (.UnaryOp .USub (.Constant (.int 1) _ _) _)) _) _ => some [a]
  | .revT, .Subscript a (.Slice none none (some (.UnaryOp .USub (.Constant (.int 1) _ _) _)) _) _ => some [a]
  | .ix, .Subscript a b _ => some [a, b]
  | .isT t, .Call (.Name x _) [a, .Name y _] [] _ => if decide (x = ("isinstance" : Str)) && decide (y = isTyName t) && glB sc x && glB sc y then some [a] else none
  | o, .Call (.Name x _) [a] [] _ => match bltName o with
    | some n => if decide (x = Str.ofString n) && glB sc x then some [a] else none
    | none => none
  | o, .Call (.Name x _) [a, b] [] _ => match bltName2 o with
    | some n => if decide (x = Str.ofString n) && glB sc x then some [a, b] else none
    | none => none
  | _, _ => none
def Op.cmp : Op → Bool
  | .eq => true | .ne => true | .lt => true | .le => true | .gt => true | .ge => true | .isN => true | .notN => true | .inn => true | .notin => true | .isB _ _ => true
  | _ => false
/-- links of a chain -/
def link : Op → Option CmpOp
  | .lt => some .Lt | .le => some .LtE | .eq => some .Eq
  | _ => none
def mthName : Mth → String
  | .join => "join" | .split => "split" | .get1 => "get" | .get2 => "get" | .index => "index"
def mthArgs : Mth → Nat
  | .get2 => 2
  | _ => 1
/-- receivers that are looked up as they stand -/
def plainRecv : Expr → Bool
  | .Name _ _ => true
  | .Constant _ _ _ => true
  | .Subscript _ _ _ => true
  | .Attribute _ _ _ => true
  | .List _ _ => true
  | .Tuple _ _ _ => true
  | _ => false
/-- the names as they stand within a comprehension -/
def relS (sc scope : Scope) : Scope := { scope with names := scope.names.map fun (n, k) => if (k == NameKind.free && sc.kind == .function && sc.names.lookup n == some .cell) then (n, NameKind.cell) else (n, k) }
def ownP (N : List Str) (own : List Nat) : List (Str × Nat) := own.map fun i => (N.getD i "", i)
mutual
def ckT (N : List Str) (cel : Bool) (sc : Scope) (own : List Nat) : Tg → Expr → Bool
  | .nm i, .Name x _ => decide (N[i]? = some x) && (locB sc x || cel && decide (sc.names.lookup x = some .cell)) && own.contains i
  | .tup ts, .Tuple es _ _ => ckTs N cel sc own ts es
  | _, _ => false
def ckTs (N : List Str) (cel : Bool) (sc : Scope) (own : List Nat) : Tgs → List Expr → Bool
  | .nil, [] => true
  | .cons t ts, e :: es => ckT N cel sc own t e && ckTs N cel sc own ts es
  | _, _ => false
end
def Cs.len : Cs → Nat
  | .nil => 0
  | .cons _ cs => cs.len + 1
def Tgs.len : Tgs → Nat
  | .nil => 0
  | .cons _ ts => ts.len + 1
def kwNames : List Keyword → Option (List Str)
  | [] => some []
  | ⟨some n, _, _⟩ :: r => (kwNames r).map (n :: ·)
  | _ => none
/-- the values in the parameters' order -/
def pick {α : Type} (ord : List Nat) (ws : List α) : List α := ord.filterMap (ws[·]?)
def gK {α : Type} (ord : List Nat) (us ws : List α) : List α := match us with
  | [] => pick ord ws
  | _ => []
/-- expressions whose list or dict is a new one -/
def C.makes : C → Bool
  | .op o _ => o.makes
  | .disp false _ => true
  | .dict _ => true
  | .comp _ _ _ _ _ => true
  | _ => false
mutual
def ckE (Γ : Ctx) : Scope → C → Expr → Bool
  | _, .const x, .Constant c _ _ => cnt x c
  | sc, .glob x v, .Name y _ => decide (x = y) && glB sc y && Γ.glb.any fun p => decide (p.1 = x) && I.same p.2 v
  | sc, .var i, .Name x _ => decide (Γ.N[i]? = some x) && visB sc x && plainN x
  | sc, .op o as, e => match shape sc o e with
    | some es => ckEs Γ sc as es
    | none => false
  | sc, .disp true as, .Tuple es _ _ => ckEs Γ sc as es
  | sc, .disp false as, .List es _ => ckEs Γ sc as es
  | sc, .cell c, e => c.makes && ckE Γ sc c e
  | _, .dict _, .Dict [] [] _ => true
  | sc, .call f as, .Call (.Name x _) es [] _ => (match Γ.fns[f]? with
    | some p => decide (p.1 = x)
    | none => false) && glB sc x && !es.isEmpty && ckEs Γ sc as es
  | sc, .callk f ord as, .Call (.Name x _) [] kws _ => (match Γ.fns[f]? with
    | some p => decide (p.1 = x) && decide (ord.length = p.2.length)
    | none => false) && glB sc x && ckKs Γ sc as kws && (match kwNames kws with
    | some ks => Γ.kws.contains (f, ks, ord) && decide (ks.length = ord.length)
    | none => false) && decide ord.Nodup && (ord.all fun j => decide (j < ord.length)) && !kws.isEmpty
  | sc, .and a b, .BoolOp .And (ea :: eb :: r) pos => ckE Γ sc a ea && (match r with
    | [] => ckE Γ sc b eb
    | _ => ckE Γ sc b (.BoolOp .And (eb :: r) pos))
  | sc, .or a b, .BoolOp .Or (ea :: eb :: r) pos => ckE Γ sc a ea && (match r with
    | [] => ckE Γ sc b eb
    | _ => ckE Γ sc b (.BoolOp .Or (eb :: r) pos))
  | sc, .not a, .UnaryOp .Not e _ => ckE Γ sc a e
  | sc, .ife t a b, .IfExp et ea eb _ => ckE Γ sc t et && ckE Γ sc a ea && ckE Γ sc b eb
  | sc, .chain o p a b c, .Compare ea [o', p'] [eb, ec] _ => decide (link o = some o') && decide (link p = some p') && ckE Γ sc a ea && ckE Γ sc b eb && ckE Γ sc c ec
  | sc, .sl2 a b c, .Subscript ea (.Slice (some eb) (some ec) none _) _ => ckE Γ sc a ea && ckE Γ sc b eb && ckE Γ sc c ec
  | sc, .meth m o as, .Call (.Attribute eo name ap) es [] cp => decide (name = Str.ofString (mthName m)) && plainRecv eo && (ap.endLine == cp.line) && decide (es.length = mthArgs m) && ckE Γ sc o eo && ckEs Γ sc as es
  | sc, .app o a, .Call (.Attribute eo name ap) [e] [] cp => decide (name = ("append" : Str)) && plainRecv eo && (ap.endLine == cp.line) && ckE Γ sc o eo && ckE Γ sc a e
  | sc, .ext o a, .Call (.Attribute eo name ap) [e] [] cp => decide (name = ("extend" : Str)) && plainRecv eo && (ap.endLine == cp.line) && ckE Γ sc o eo && ckE Γ sc a e
  | sc, .pop o, .Call (.Attribute eo name ap) [] [] cp => decide (name = ("pop" : Str)) && plainRecv eo && (ap.endLine == cp.line) && ckE Γ sc o eo
  | sc, .comp own elt g it ifs, .ListComp ee [⟨tg, ie, is, asy⟩] scope _ => decide (asy = 0) && blkC Γ.N sc scope (ownP Γ.N own) && ckT Γ.N false (relS sc scope) own g tg && ckIt Γ sc it tg ie && ckE Γ (relS sc scope) elt ee && ckIfs Γ (relS sc scope) ifs is
  | _, _, _ => false
def ckIfs (Γ : Ctx) : Scope → Cs → List Expr → Bool
  | _, .nil, [] => true
  | sc, .cons c .nil, [e] => ckE Γ sc c e
  | _, _, _ => false
def ckEs (Γ : Ctx) : Scope → Cs → List Expr → Bool
  | _, .nil, [] => true
  | sc, .cons c cs, e :: es => ckE Γ sc c e && ckEs Γ sc cs es
  | _, _, _ => false
def ckKs (Γ : Ctx) : Scope → Cs → List Keyword → Bool
  | _, .nil, [] => true
  | sc, .cons c cs, k :: es => ckE Γ sc c k.value && ckKs Γ sc cs es
  | _, _, _ => false
def ckIt (Γ : Ctx) : Scope → It → Expr → Expr → Bool
  | sc, .seq c, _, e => ckE Γ sc c e
  | sc, .range as, _, .Call (.Name x _) es [] _ => decide (x = ("range" : Str)) && glB sc x && ckEs Γ sc as es && (es.length == 1 || es.length == 2)
  | sc, .enum c, .Tuple _ _ _, .Call (.Name x _) [e] [] _ => decide (x = ("enumerate" : Str)) && glB sc x && ckE Γ sc c e
  | sc, .zip a b, .Tuple _ _ _, .Call (.Name x _) [ea, eb] [] _ => decide (x = ("zip" : Str)) && glB sc x && ckE Γ sc a ea && ckE Γ sc b eb
  | _, _, _, _ => false
end

section
variable {Γ : Ctx} {sc : Scope}
theorem shape_star {o : Op} {v : Expr} {p : Pos} : shape sc o (.Starred v p) = none := by
  unfold shape
  cases o <;> first | rfl | (rename_i a b; cases a <;> cases b <;> rfl)
theorem shape_set {o : Op} {v : List Expr} {k : Nat} {p : Pos} : shape sc o (.Set v k p) = none := by
  unfold shape
  cases o <;> first | rfl | (rename_i a b; cases a <;> cases b <;> rfl)
theorem shape_slice {o : Op} {a b d : Option Expr} {p : Pos} : shape sc o (.Slice a b d p) = none := by
  unfold shape
  cases o <;> first | rfl | (rename_i a b; cases a <;> cases b <;> rfl)
theorem ck_star : ∀ {c : C} {v : Expr} {p : Pos}, ckE Γ sc c (.Starred v p) = false
  | .op o as, v, p => by unfold ckE; rw [shape_star]
  | .disp t as, v, p => by cases t <;> rfl
  | .cell c, v, p => by unfold ckE; rw [ck_star, Bool.and_false]
  | .const _, _, _ => rfl | .glob _ _, _, _ => rfl | .var _, _, _ => rfl | .dict _, _, _ => rfl | .call _ _, _, _ => rfl | .callk _ _ _, _, _ => rfl | .and _ _, _, _ => rfl | .or _ _, _, _ => rfl | .not _, _, _ => rfl
  | .ife _ _ _, _, _ => rfl | .chain _ _ _ _ _, _, _ => rfl | .sl2 _ _ _, _, _ => rfl | .meth _ _ _, _, _ => rfl | .comp _ _ _ _ _, _, _ => rfl | .app _ _, _, _ => rfl | .pop _, _, _ => rfl | .ext _ _, _, _ => rfl
theorem ck_set : ∀ {c : C} {v : List Expr} {k : Nat} {p : Pos}, ckE Γ sc c (.Set v k p) = false
  | .op o as, v, k, p => by unfold ckE; rw [shape_set]
  | .disp t as, v, k, p => by cases t <;> rfl
  | .cell c, v, k, p => by unfold ckE; rw [ck_set, Bool.and_false]
  | .const _, _, _, _ => rfl | .glob _ _, _, _, _ => rfl | .var _, _, _, _ => rfl | .dict _, _, _, _ => rfl | .call _ _, _, _, _ => rfl | .callk _ _ _, _, _, _ => rfl | .and _ _, _, _, _ => rfl | .or _ _, _, _, _ => rfl | .not _, _, _, _ => rfl
  | .ife _ _ _, _, _, _ => rfl | .chain _ _ _ _ _, _, _, _ => rfl | .sl2 _ _ _, _, _, _ => rfl | .meth _ _ _, _, _, _ => rfl | .comp _ _ _ _ _, _, _, _ => rfl | .app _ _, _, _, _ => rfl | .pop _, _, _, _ => rfl | .ext _ _, _, _, _ => rfl
theorem ck_slice : ∀ {c : C} {a b d : Option Expr} {p : Pos}, ckE Γ sc c (.Slice a b d p) = false
  | .op o as, a, b, d, p => by unfold ckE; rw [shape_slice]
  | .disp t as, a, b, d, p => by cases t <;> rfl
  | .cell c, a, b, d, p => by unfold ckE; rw [ck_slice, Bool.and_false]
  | .const _, _, _, _, _ => rfl | .glob _ _, _, _, _, _ => rfl | .var _, _, _, _, _ => rfl | .dict _, _, _, _, _ => rfl | .call _ _, _, _, _, _ => rfl | .callk _ _ _, _, _, _, _ => rfl | .and _ _, _, _, _, _ => rfl | .or _ _, _, _, _, _ => rfl | .not _, _, _, _, _ => rfl
  | .ife _ _ _, _, _, _, _ => rfl | .chain _ _ _ _ _, _, _, _, _ => rfl | .sl2 _ _ _, _, _, _, _ => rfl | .meth _ _ _, _, _, _, _ => rfl | .comp _ _ _ _ _, _, _, _, _ => rfl | .app _ _, _, _, _, _ => rfl | .pop _, _, _, _, _ => rfl | .ext _ _, _, _, _, _ => rfl
/-- an expression that stands for one of the language -/
structure Nice (e : Expr) : Prop where
  star : ∀ v p, e ≠ .Starred v p
  set : ∀ v k p, e ≠ .Set v k p
  slice : ∀ a b d p, e ≠ .Slice a b d p
theorem nice_of {c : C} {e : Expr} (h : ckE Γ sc c e = true) : Nice e := ⟨fun v p z => (by rw [z, ck_star] at h; cases h), fun v k p z => (by rw [z, ck_set] at h; cases h), fun a b d p z => (by rw [z, ck_slice] at h; cases h)⟩
theorem Nice.starEach {e : Expr} (n : Nice e) (r : List Expr) (env : PySem.Env) : starEach (e :: r) env = (false, eval e env) :: starEach r env := by
  cases e <;> first | rfl | exact absurd rfl (n.star _ _)
theorem Nice.marks {e : Expr} (n : Nice e) (op : CmpOp) : behindInMarks op e = false := by
  cases e <;> first | rfl | exact absurd rfl (n.set _ _ _)
theorem Nice.ix {e : Expr} (n : Nice e) : PlainIx e := fun o i => by
  cases e <;> first | rfl | exact absurd rfl (n.slice _ _ _ _)
theorem Nice.folded {e : Expr} (n : Nice e) (env : PySem.Env) (x : Value) : foldedSetIterable e env x = pure x := by
  cases e <;> first | rfl | exact absurd rfl (n.set _ _ _)
theorem any_back {pos : Pos} {env : PySem.Env} : ∀ {es : List Expr}, (∀ e ∈ es, Nice e) → (backTo pos (starEach es env)).any (·.1) = false
  | [], _ => rfl
  | e :: es, h => by
    rw [(h e List.mem_cons_self).starEach es env]
    exact any_back fun e m => h e (List.mem_cons_of_mem _ m)
theorem recv_base {o : Expr} (h : plainRecv o = true) (name : Str) (env : PySem.Env) (w : Sem Value) : attributeBase o name env w = w := by
  cases o <;> first | rfl | cases h
theorem glB_of {X : Cx} {x : Str} (hs : X.env.scope = sc) (h : glB sc x = true) : Gl X x ∧ (x == ("__debug__" : Str)) = false ∧ x ≠ "__name__" := by
  unfold glB plainN at h
  simp only [Bool.and_eq_true, Bool.not_eq_true', decide_eq_true_eq, decide_eq_false_iff_not] at h
  refine ⟨?_, h.2.1.1, h.2.2⟩
  show X.env.scope.names.lookup x = _
  rw [hs]; exact h.1
theorem visB_of {X : Cx} {x : Str} (hs : X.env.scope = sc) (h : visB sc x = true) : Vis X.env.scope x := by
  unfold visB at h
  rw [hs]
  split at h
  · exact .inl (by assumption)
  · exact .inr (.inl (by assumption))
  · exact .inr (.inr (by assumption))
  · cases h
end

/-! ### what a def promises -/
def FinC (k : Kx) (F : Addr → Prop) (ι : List Addr) (H : Hp) (r : R I) (Q : VK) (E : XK) : Prop := match r with
  | .ok v M' => ∀ (x : V) (ι' : List Addr) (H' : Hp), CsOk k F ι' H' M' → Stp k ι H ι' H' → IsI k F ι' H' x v → Q x H'
  | .ex c M' => ∀ (ι' : List Addr) (H' : Hp), CsOk k F ι' H' M' → Stp k ι H ι' H' → E (.ref (k.xc c)) none H'
  | .no => False
def spF (k : Kx) (Φ : Oracle) (np : Nat) (f : Nat) : Sp := fun xs H Q E => xs.length = np ∧ ∃ F ι M vs, CsOk k F ι H M ∧ IsIs k F ι H xs vs ∧ FinC k F ι H (Φ f vs M) Q E

def bltsOf : List Str := ["len", "abs", "sum", "tuple", "list", "int", "str", "bool", "all", "any", "isinstance", "range", "enumerate", "zip", "dict", "min", "max", "sorted", "set", "repr"]
/-- what a body's context must have -/
structure XOk (k : Kx) (Γ : Ctx) (Φ : Oracle) (W : WX) (X : Cx) : Prop where
  K : k.K = X.K
  N : X.N = Γ.N
  nd : X.N.Nodup
  calm : X.calm = true
  tk : Takes X W
  po : PassesOwn (model X.prog X.w) X.A X.env X.xe
  hu : X.A.units + 65 < cLine
  blt : ∀ x ∈ bltsOf, X.mg x = none
  glb : ∀ p ∈ Γ.glb, ∃ u w, X.mg p.1 = some u ∧ RelV w u ∧ ∀ F ι H, IsI k F ι H w p.2
  call : ∀ (f : Nat) (x : Str) (ps : List Str), Γ.fns[f]? = some (x, ps) → ∃ (a : Addr) (fd : FuncData) (j : Nat), FnOk X.prog X.w X.K X.mg X.base (L2.CX X.prog X.w) j a fd ps (spF k Φ ps.length f) ∧ Room j X.A ∧ X.mg x = some (.ref a) ∧ PySem.W.keepIn X.K (.ref a) = true ∧ Binds X.K fd ps [] ∧
    ∀ ks ord, (f, ks, ord) ∈ Γ.kws → KBinds X.K fd ps ks (gK ord) (gK ord)
/-- a call's arity -/
def Arity (Γ : Ctx) (Φ : Oracle) : Prop := ∀ (f : Nat) (x : Str) (ps : List Str) (vs : List I) (M : Mem), Γ.fns[f]? = some (x, ps) → (∃ r, Φ f vs M = r ∧ ∀ z, r = z → z ≠ .no) → vs.length = ps.length
section
variable {k : Kx} {F : Addr → Prop} {ι : List Addr} {H : Hp} {σ : L2.St} {τ : Env} {M : Mem} {W : WX} {Φ : Oracle}
theorem Fin.call {r : R I} {Q : VK} (S : SOk k F ι H σ τ M) (f : Fin k F ι H σ τ W r Q) : FinC k F ι H r Q (WE W σ) := by
  cases r with
  | ok v M' => exact fun x ι' H' C st i => f x ι' H' (S.next st C) st i
  | ex c M' => exact fun ι' H' C st => f ι' H' (S.next st C) st
  | no => exact f
theorem call_imp {fid np : Nat} {as : Cs} {Q : VK} (h : tE k Φ W (.call fid as) σ H Q) (hnp : ∀ vs M, Φ fid vs M ≠ .no → vs.length = np) : tA k Φ W as σ H fun xs H1 => spF k Φ np fid xs H1 Q (WE W σ) := by
  obtain ⟨F, ι, τ, M, S, f⟩ := h
  unfold evE at f
  refine ⟨F, ι, τ, M, S, f.bindA fun vs M1 xs ι1 H1 S1 s1 i1 f1 => ?_⟩
  have n : Φ fid vs M1 ≠ .no := fun z => by rw [z] at f1; exact f1
  exact ⟨by rw [i1.length]; exact hnp vs M1 n, F, ι1, M1, vs, S1.cs, i1, Fin.call S1 f1⟩
theorem pick_cons {α : Type} {j : Nat} {ord : List Nat} {ws : List α} {w : α} (h : ws[j]? = some w) : pick (j :: ord) ws = w :: pick ord ws := by
  unfold pick
  rw [List.filterMap_cons, h]
theorem IsIs.pick {vs : List V} {xs : List I} (h : IsIs k F ι H vs xs) : ∀ {ord : List Nat} {us : List I}, (ord.mapM fun j => xs[j]?) = some us → IsIs k F ι H (Rs.pick ord vs) us
  | [], us, e => by cases e; exact .nil
  | j :: ord, us, e => by
    rw [List.mapM_cons] at e
    cases e1 : xs[j]? with
    | none => rw [e1] at e; cases e
    | some w =>
      cases e2 : (ord.mapM fun j => xs[j]?) with
      | none => rw [e1, e2] at e; cases e
      | some r =>
        rw [e1, e2] at e
        cases e
        obtain ⟨v, h1, h2⟩ := h.get e1
        rw [pick_cons h1]
        exact .cons h2 (IsIs.pick h e2)
theorem callk_imp {fid np : Nat} {ord : List Nat} {as : Cs} {Q : VK} (h : tE k Φ W (.callk fid ord as) σ H Q) (hnp : ∀ vs M, Φ fid vs M ≠ .no → vs.length = np) : tA k Φ W as σ H fun xs H1 => spF k Φ np fid (gK ord [] xs) H1 Q (WE W σ) := by
  obtain ⟨F, ι, τ, M, S, f⟩ := h
  unfold evE at f
  refine ⟨F, ι, τ, M, S, f.bindA fun vs M1 xs ι1 H1 S1 s1 i1 f1 => ?_⟩
  split at f1
  · rename_i us e
    split at f1
    · have n : Φ fid us M1 ≠ .no := fun z => by rw [z] at f1; exact f1
      have i2 := i1.pick e
      exact ⟨by show (Rs.pick ord xs).length = np; rw [i2.length]; exact hnp us M1 n, F, ι1, M1, us, S1.cs, i2, Fin.call S1 f1⟩
    · exact f1.elim
  · exact f1.elim
end
end Rs

/-! second layer, part h: operations in the text, displays, tests -/
namespace Rs
open PySem PySem.Spec PyProof.Rows L2
section
variable {Γ : Ctx} {Φ : Oracle} {W : WX} {X : Cx} {sc : Scope} {k : Kx} {cl : Bool}
theorem two_imp {op : Op} {ca cb : C} {r : R2} {σ : L2.St} {H : Hp} {Q : VK} (i : ∀ x y H, Aft k cl op Q [x, y] H → r x y H Q) (q : tE k Φ W (mkC cl (.op op (.cons ca (.cons cb .nil)))) σ H Q) : tOp r (tE k Φ W ca) (tE k Φ W cb) σ H Q :=
  tE.mono (tA_2 (op_tA q)) fun x H1 q1 => tE.mono q1 fun y H2 q2 => i x y H2 q2
theorem one_imp {op : Op} {ca : C} {σ : L2.St} {H : Hp} {Q : VK} {R : V → Hp → Prop} (i : ∀ x H, Aft k cl op Q [x] H → R x H) (q : tE k Φ W (mkC cl (.op op (.cons ca .nil))) σ H Q) : tE k Φ W ca σ H R :=
  tE.mono (tA_1 (op_tA q)) fun x H1 q1 => i x H1 q1
theorem evEs_len : ∀ (cs : Cs) {τ : Env} {M M' : Mem} {vs : List I}, evEs Φ cs τ M = .ok vs M' → vs.length = cs.len
  | .nil, τ, M, M', vs, h => by unfold evEs at h; cases h; rfl
  | .cons c cs, τ, M, M', vs, h => by
    unfold evEs at h
    cases e1 : evE Φ c τ M with
    | no => rw [e1] at h; cases h
    | ex _ _ => rw [e1] at h; cases h
    | ok v M1 =>
      rw [e1] at h
      have h : (evEs Φ cs τ M1).bind (fun vs M2 => .ok (v :: vs) M2) = .ok vs M' := h
      cases e2 : evEs Φ cs τ M1 with
      | no => rw [e2] at h; cases h
      | ex _ _ => rw [e2] at h; cases h
      | ok us M2 => rw [e2] at h; cases h; exact congrArg (· + 1) (evEs_len cs e2)
theorem tA.mono {cs : Cs} {σ : L2.St} {H : Hp} {Q Q' : List V → Hp → Prop} (h : tA k Φ W cs σ H Q) (i : ∀ x H1, x.length = cs.len → Q x H1 → Q' x H1) : tA k Φ W cs σ H Q' := by
  obtain ⟨F, ι, τ, M, S, f⟩ := h
  refine ⟨F, ι, τ, M, S, ?_⟩
  cases e : evEs Φ cs τ M with
  | no => rw [e] at f; exact f
  | ex _ _ => rw [e] at f; exact f
  | ok vs M' =>
    rw [e] at f
    exact fun x ι1 H1 S1 s1 i1 => i x H1 (by rw [i1.length]; exact evEs_len cs e) (f x ι1 H1 S1 s1 i1)
theorem PEs.inv1 {es : List Expr} {a : Expr} {cs : Cs} (h : PEs k X W Φ es cs) (e : es = [a]) : ∃ ca, cs = .cons ca .nil ∧ PE X a (tE k Φ W ca) := by
  subst e
  cases h with
  | cons h1 s1 t1 => cases t1; exact ⟨_, rfl, h1⟩
theorem PEs.inv2 {es : List Expr} {a b : Expr} {cs : Cs} (h : PEs k X W Φ es cs) (e : es = [a, b]) : ∃ ca cb, cs = .cons ca (.cons cb .nil) ∧ PE X a (tE k Φ W ca) ∧ PE X b (tE k Φ W cb) := by
  subst e
  cases h with
  | cons h1 s1 t1 => cases t1 with
    | cons h2 s2 t2 => cases t2; exact ⟨_, _, rfl, h1, h2⟩
/-- a built-in function of one argument, of two -/
theorem blt_fn {op : Op} {id : String} {x : Str} {p pos : Pos} {a : Expr} {ca : C} {r : List V → Hp → VK → Prop} (hc : CallR X (.builtin id) r) (hg : Gl X x) (hm : X.mg x = none) (hv : bootBuiltins x = some (.builtin id)) (hn : x ≠ "__name__") (hdb : (x == ("__debug__" : Str)) = false)
    (P : PEs k X W Φ [a] (.cons ca .nil)) (na : Nice a) (i : ∀ xs H Q, Aft k cl op Q xs H → xs.length = 1 → r xs H Q) : PE X (.Call (.Name x p) [a] [] pos) (tE k Φ W (mkC cl (.op op (.cons ca .nil)))) :=
  PE.imp (pe_callB hc hg hm hv P.pa hn hdb (na.starEach [] X.env) rfl) fun σ H Q q => tA.mono (op_tA q) fun xs H1 hl q1 => i xs H1 Q q1 hl
theorem blt_ty {op : Op} {T : String} {x : Str} {p pos : Pos} {a : Expr} {ca : C} {r : List V → Hp → VK → Prop} (hc : CallR X (.type T) r) (hg : Gl X x) (hm : X.mg x = none) (hv : bootBuiltins x = some (.type T)) (hn : x ≠ "__name__") (hdb : (x == ("__debug__" : Str)) = false)
    (P : PEs k X W Φ [a] (.cons ca .nil)) (na : Nice a) (i : ∀ xs H Q, Aft k cl op Q xs H → xs.length = 1 → r xs H Q) : PE X (.Call (.Name x p) [a] [] pos) (tE k Φ W (mkC cl (.op op (.cons ca .nil)))) :=
  PE.imp (pe_callTy hc hg hm hv P.pa hn hdb (na.starEach [] X.env) rfl) fun σ H Q q => tA.mono (op_tA q) fun xs H1 hl q1 => i xs H1 Q q1 hl
theorem blt_fn2 {op : Op} {id : String} {x : Str} {p pos : Pos} {a b : Expr} {ca cb : C} {r : List V → Hp → VK → Prop} (hc : CallR X (.builtin id) r) (hg : Gl X x) (hm : X.mg x = none) (hv : bootBuiltins x = some (.builtin id)) (hn : x ≠ "__name__") (hdb : (x == ("__debug__" : Str)) = false)
    (P : PEs k X W Φ [a, b] (.cons ca (.cons cb .nil))) (na : Nice a) (nb : Nice b) (i : ∀ xs H Q, Aft k cl op Q xs H → xs.length = 2 → r xs H Q) : PE X (.Call (.Name x p) [a, b] [] pos) (tE k Φ W (mkC cl (.op op (.cons ca (.cons cb .nil))))) :=
  PE.imp (pe_callB hc hg hm hv P.pa hn hdb (na.starEach [b] X.env) (any_back fun e m => by rw [List.mem_singleton.mp m]; exact nb)) fun σ H Q q => tA.mono (op_tA q) fun xs H1 hl q1 => i xs H1 Q q1 hl
theorem boot_tyName (t : Ty) : bootBuiltins (isTyName t) = some (.type t.name) := by cases t <;> decide +kernel
theorem isTyName_in (t : Ty) : isTyName t ∈ bltsOf := by cases t <;> decide +kernel
theorem tE_val {ty : V} {σ : L2.St} {H : Hp} {Q : VK} (h : Q ty H) : tC ty σ H Q := h
def rIs2 (b : Bool) : R2 := fun x y H Q => ∃ a c, x = .bl a ∧ y = .bl c ∧ Q (.bl (decide (a = c))) H
/-- x is True, x is not True -/
theorem isB_pe {a : Expr} {b ng : Bool} {j : Nat} {p pos : Pos} {ca : C} (h : PE X a (tE k Φ W ca)) : PE X (.Compare a [if ng then .IsNot else .Is] [.Constant (.bool b) j p] pos) (tE k Φ W (mkC cl (.op (.isB ng b) (.cons ca .nil)))) ∧
    PT X (.Compare a [if ng then .IsNot else .Is] [.Constant (.bool b) j p] pos) (tT k Φ W (.op (.isB ng b) (.cons ca .nil))) := by
  have conv : ∀ {cl : Bool} {σ : L2.St} {H : Hp} {Q : VK}, tE k Φ W (mkC cl (.op (.isB ng b) (.cons ca .nil))) σ H Q → tE k Φ W ca σ H fun x H1 => ∃ d, x = .bl d ∧ Q (.bl (if ng then !decide (d = b) else decide (d = b))) H1 := fun q => one_imp (fun x H => ru_isB) q
  have tconv : ∀ {σ : L2.St} {H : Hp} {Q : Bool → Hp → Prop}, tT k Φ W (.op (.isB ng b) (.cons ca .nil)) σ H Q → tE k Φ W (.op (.isB ng b) (.cons ca .nil)) σ H fun x H' => ∃ c, x = .bl c ∧ Q c H' := fun {σ H Q} q => by
    obtain ⟨F, ι, τ, M, S, f⟩ := q
    refine ⟨F, ι, τ, M, S, ?_⟩
    unfold evE at f ⊢
    cases e : evEs Φ (.cons ca .nil) τ M with
    | no => rw [e] at f; exact f
    | ex _ _ => rw [e] at f; exact f
    | ok vs M1 =>
      rw [e] at f
      have f : FinT k F ι H σ τ W (.of (opM (.isB ng b) M1 vs) M1) Q := f
      show Fin k F ι H σ τ W (.of (opM (.isB ng b) M1 vs) M1) _
      cases e2 : opM (.isB ng b) M1 vs with
      | none => rw [e2] at f; exact f
      | some v =>
        rw [e2] at f
        obtain ⟨c, ec, f⟩ := f
        have e3 := opM_sh rfl e2
        have : ∃ d, v = .bl d := by
          cases vs with
          | nil => cases e3
          | cons w t => cases t with
            | cons _ _ => cases e3
            | nil =>
              obtain ⟨r, _, rfl⟩ := map_some (show (isBo b (sh M1 w)).map _ = some v from e3)
              exact ⟨_, rfl⟩
        obtain ⟨d, rfl⟩ := this
        cases ec
        exact fun x ι1 H1 S1 s1 i1 => ⟨_, by cases i1; rfl, f ι1 H1 S1 s1⟩
  cases ng with
  | false => exact ⟨PE.imp (pe_cmpR op_isBl h pe_bl (nomark _)) fun σ H Q q => tE.mono (conv q) fun x H1 ⟨d, e, q⟩ => ⟨d, b, e, rfl, q⟩,
      PT.imp (pt_cmpR op_isBl h pe_bl (nomark _)) fun σ H Q q => tE.mono (conv (cl := false) (tconv q)) fun x H1 ⟨d, e, q⟩ => ⟨d, b, e, rfl, q⟩⟩
  | true => exact ⟨PE.imp (pe_cmpR op_notBl h pe_bl (nomark _)) fun σ H Q q => tE.mono (conv q) fun x H1 ⟨d, e, q⟩ => ⟨d, b, e, rfl, q⟩,
      PT.imp (pt_cmpR op_notBl h pe_bl (nomark _)) fun σ H Q q => tE.mono (conv (cl := false) (tconv q)) fun x H1 ⟨d, e, q⟩ => ⟨d, b, e, rfl, q⟩⟩
theorem sndOp (O : XOk k Γ Φ W X) (hs : X.env.scope = sc) {o : Op} {e : Expr} {es : List Expr} {as : Cs} (hcl : cl = true → o.makes = true) (h : shape sc o e = some es) (P : PEs k X W Φ es as) (ne : ∀ a ∈ es, Nice a) : PE X e (tE k Φ W (mkC cl (.op o as))) := by
  obtain ⟨K0, c1, c2⟩ := k
  obtain rfl : K0 = X.K := O.K
  unfold shape at h
  split at h
  · cases h; obtain ⟨ca, cb, rfl, h1, h2⟩ := P.inv2 rfl; exact PE.imp (pe_op op_add4 h1 h2) fun _ _ Q => two_imp fun _ _ _ => ru_add
  · cases h; obtain ⟨ca, cb, rfl, h1, h2⟩ := P.inv2 rfl; exact PE.imp (pe_op op_sub h1 h2) fun _ _ Q => two_imp fun _ _ _ => ru_sub
  · cases h; obtain ⟨ca, cb, rfl, h1, h2⟩ := P.inv2 rfl; exact PE.imp (pe_op op_mul2 h1 h2) fun _ _ Q => two_imp fun _ _ _ => ru_mul
  · cases h; obtain ⟨ca, cb, rfl, h1, h2⟩ := P.inv2 rfl; exact PE.imp (pe_op op_fdivW h1 h2) fun _ _ Q => two_imp fun _ _ _ => ru_fdiv
  · cases h; obtain ⟨ca, cb, rfl, h1, h2⟩ := P.inv2 rfl; exact PE.imp (pe_op op_mod h1 h2) fun _ _ Q => two_imp fun _ _ _ => ru_mod
  · cases h; obtain ⟨ca, cb, rfl, h1, h2⟩ := P.inv2 rfl; exact PE.imp (pe_op op_pow h1 h2) fun _ _ Q => two_imp fun _ _ _ => ru_pow
  · cases h; obtain ⟨ca, rfl, h1⟩ := P.inv1 rfl; exact PE.imp (pe_un un_neg h1) fun _ _ Q => one_imp fun _ _ => ru_neg
  · cases h; obtain ⟨ca, cb, rfl, h1, h2⟩ := P.inv2 rfl; exact PE.imp (pe_cmpR (op_eqD (by have := O.hu; omega)) h1 h2 (nomark _)) fun _ _ Q => two_imp fun _ _ _ => ru_eq
  · cases h; obtain ⟨ca, cb, rfl, h1, h2⟩ := P.inv2 rfl; exact PE.imp (pe_cmpR (op_neD (by have := O.hu; omega)) h1 h2 (nomark _)) fun _ _ Q => two_imp fun _ _ _ => ru_ne
  · cases h; obtain ⟨ca, cb, rfl, h1, h2⟩ := P.inv2 rfl; exact PE.imp (pe_cmpR (op_lt2 (by have := O.hu; omega)) h1 h2 (nomark _)) fun _ _ Q => two_imp fun _ _ _ => ru_lt
  · cases h; obtain ⟨ca, cb, rfl, h1, h2⟩ := P.inv2 rfl; exact PE.imp (pe_cmpR op_le h1 h2 (nomark _)) fun _ _ Q => two_imp fun _ _ _ => ru_cmp rfl fun _ _ _ e => e
  · cases h; obtain ⟨ca, cb, rfl, h1, h2⟩ := P.inv2 rfl; exact PE.imp (pe_cmpR op_gt h1 h2 (nomark _)) fun _ _ Q => two_imp fun _ _ _ => ru_cmp rfl fun _ _ _ e => e
  · cases h; obtain ⟨ca, cb, rfl, h1, h2⟩ := P.inv2 rfl; exact PE.imp (pe_cmpR op_ge h1 h2 (nomark _)) fun _ _ Q => two_imp fun _ _ _ => ru_cmp rfl fun _ _ _ e => e
  · cases h; obtain ⟨ca, rfl, h1⟩ := P.inv1 rfl; exact PE.imp (pe_cmp (pc_isN h1)) fun _ _ Q => one_imp fun _ _ => ru_isN
  · cases h; obtain ⟨ca, rfl, h1⟩ := P.inv1 rfl; exact PE.imp (pe_cmp (pc_notN h1)) fun _ _ Q => one_imp fun _ _ => ru_notN
  · obtain ⟨hc, h⟩ := if_some h
    cases h
    obtain ⟨ca, rfl, h1⟩ := P.inv1 rfl
    rw [of_decide_eq_true hc]
    exact (isB_pe (ng := false) h1).1
  · obtain ⟨hc, h⟩ := if_some h
    cases h
    obtain ⟨ca, rfl, h1⟩ := P.inv1 rfl
    rw [of_decide_eq_true hc]
    exact (isB_pe (ng := true) h1).1
  · cases h; obtain ⟨ca, cb, rfl, h1, h2⟩ := P.inv2 rfl; exact PE.imp (pe_cmpR (op_in4 O.hu) h1 h2 ((ne _ (by simp)).marks _)) fun _ _ Q => two_imp fun _ _ _ => ru_in
  · cases h; obtain ⟨ca, cb, rfl, h1, h2⟩ := P.inv2 rfl; exact PE.imp (pe_cmpR (op_notIn4 O.hu) h1 h2 ((ne _ (by simp)).marks _)) fun _ _ Q => two_imp fun _ _ _ => ru_notin
  · cases h; obtain ⟨ca, rfl, h1⟩ := P.inv1 rfl; exact PE.imp (pe_slice sl_3 h1 po_none po_none) fun _ _ Q => one_imp fun _ _ => ru_sl00
  · cases h; obtain ⟨ca, cb, rfl, h1, h2⟩ := P.inv2 rfl
    exact PE.imp (pe_slice sl_3 h1 (po_some h2) po_none) fun σ H Q q => tE.mono (tA_2 (op_tA q)) fun x H1 q1 => tE.mono q1 fun y H2 q2 => ru_sl10 q2
  · cases h; obtain ⟨ca, cb, rfl, h1, h2⟩ := P.inv2 rfl
    exact PE.imp (pe_slice sl_3 h1 po_none (po_some h2)) fun σ H Q q => tE.mono (tA_2 (op_tA q)) fun x H1 q1 => tE.mono q1 fun y H2 q2 => ru_sl01 q2
  · cases h; obtain ⟨ca, rfl, h1⟩ := P.inv1 rfl; exact PE.imp (pe_revL h1) fun _ _ Q => one_imp fun _ _ => ru_rev
  · cases h; obtain ⟨ca, rfl, h1⟩ := P.inv1 rfl; exact PE.imp (pe_revT h1) fun _ _ Q => one_imp fun _ _ => ru_revT
  · cases h; obtain ⟨ca, cb, rfl, h1, h2⟩ := P.inv2 rfl
    have hc : cl = false := by
      cases cl with
      | false => rfl
      | true => cases hcl rfl
    exact PE.imp (pe_ix (IxR.or ix_seq (ix_dic (by have := O.hu; omega))) h1 h2 (ne _ (by simp)).ix) fun _ _ Q => two_imp fun _ _ _ => ru_ix hc
  · rename_i t x p1 a y p2 pos
    obtain ⟨hc, h⟩ := if_some h
    cases h
    obtain ⟨ca, rfl, h1⟩ := P.inv1 rfl
    simp only [Bool.and_eq_true, decide_eq_true_eq] at hc
    obtain ⟨⟨⟨rfl, rfl⟩, g1⟩, g2⟩ := hc
    obtain ⟨g, d, n⟩ := glB_of hs g1
    obtain ⟨g', d', n'⟩ := glB_of hs g2
    have na := ne a (by simp)
    have pt : PE X (.Name (isTyName t) p2) (tC (.ty t.name)) := pe_bltn g' (O.blt _ (isTyName_in t)) (boot_tyName t) rfl n' d'
    have pa : PA X [a, .Name (isTyName t) p2] (tCons (tE _ Φ W ca) (tCons (tC (.ty t.name)) tNil)) := pa_cons h1 (pa_cons pt pa_nil rfl) (na.starEach _ _)
    exact PE.imp (pe_callB call_isi g (O.blt _ (by decide)) PyProof.Rows.boot_isinstance pa n d (na.starEach _ _) rfl) fun σ H Q => one_imp fun _ _ => ru_isT
  · split at h
    · rename_i nm en
      obtain ⟨hc, h⟩ := if_some h
      cases h
      obtain ⟨ca, rfl, h1⟩ := P.inv1 rfl
      simp only [Bool.and_eq_true, decide_eq_true_eq] at hc
      obtain ⟨rfl, g1⟩ := hc
      obtain ⟨g, d, n⟩ := glB_of hs g1
      have na := ne _ (List.mem_singleton.mpr rfl)
      unfold bltName at en
      split at en <;> cases en
      · exact blt_fn call_len2 g (O.blt _ (by decide)) PySem.boot_len n d P na fun _ _ _ => ru_len
      · exact blt_fn call_abs g (O.blt _ (by decide)) PyProof.Rows.boot_abs n d P na fun _ _ _ => ru_abs
      · exact blt_fn (cr_sum O.calm) g (O.blt _ (by decide)) PyProof.Rows.boot_sum n d P na fun _ _ _ => ru_sum
      · exact blt_ty call_tuple_of g (O.blt _ (by decide)) PyProof.Rows.boot_tuple n d P na fun _ _ _ => ru_tuple
      · exact blt_ty (CallR.or call_list_of (call_list_dT O.calm)) g (O.blt _ (by decide)) PyProof.Rows.boot_list n d P na fun _ _ _ => ru_list
      · exact blt_ty (CallR.or call_int1 call_int_str) g (O.blt _ (by decide)) PyProof.Rows.boot_int n d P na fun _ _ _ => ru_intc
      · exact blt_ty call_str2 g (O.blt _ (by decide)) PyProof.Rows.boot_str n d P na fun _ _ _ => ru_strc
      · exact blt_ty call_bool1 g (O.blt _ (by decide)) PyProof.Rows.boot_bool n d P na fun _ _ _ => ru_boolc
      · exact blt_fn (cr_all O.calm) g (O.blt _ (by decide)) PyProof.Rows.boot_all n d P na fun _ _ _ => ru_bools rfl fun _ => rfl
      · exact blt_fn (cr_any O.calm) g (O.blt _ (by decide)) PyProof.Rows.boot_any n d P na fun _ _ _ => ru_bools rfl fun _ => rfl
      · exact blt_fn (cr_sortedTu O.hu) g (O.blt _ (by decide)) PyProof.Rows.boot_sorted n d P na fun _ _ _ => ru_sorted
    · cases h
  · split at h
    · rename_i nm en
      obtain ⟨hc, h⟩ := if_some h
      cases h
      obtain ⟨ca, cb, rfl, h1, h2⟩ := P.inv2 rfl
      simp only [Bool.and_eq_true, decide_eq_true_eq] at hc
      obtain ⟨rfl, g1⟩ := hc
      obtain ⟨g, d, n⟩ := glB_of hs g1
      have na := ne _ (List.mem_cons_self)
      have nb := ne _ (List.mem_cons_of_mem _ List.mem_cons_self)
      unfold bltName2 at en
      split at en <;> cases en
      · exact blt_fn2 (call_min2 O.calm) g (O.blt _ (by decide)) PyProof.Rows.boot_min n d P na nb fun _ _ _ => ru_min
      · exact blt_fn2 (call_max2 O.calm) g (O.blt _ (by decide)) PyProof.Rows.boot_max n d P na nb fun _ _ _ => ru_max
    · cases h
  · cases h
/-! ### displays -/
theorem small_line {n : Nat} (h : n ≤ 1000) : n ≤ sizeLine := Nat.le_of_lt (small1000 h)
def dispO (t : Bool) (xs : List V) : HO := if t then .tup xs else .lst xs
theorem disp_imp {t : Bool} {as : Cs} {σ : L2.St} {H : Hp} {Q : VK} (hcl : cl = true → t = false) (h : tE k Φ W (mkC cl (.disp t as)) σ H Q) : tA k Φ W as σ H fun xs H1 => xs.length ≤ sizeLine ∧ ∀ p, H1 p = none → Q (.ref p) (upd H1 p (dispO t xs)) := by
  obtain ⟨F, ι, τ, M, S, f⟩ := h
  have done : ∀ {vs : List I} {M1 : Mem} {xs : List V} {ι1 : List Addr} {H1 : Hp}, SOk k F ι1 H1 σ τ M1 → IsIs k F ι1 H1 xs vs → vs.length ≤ 1000 → CN k F ι1 H1 (if t then .tup vs else .lst vs) cl Q → xs.length ≤ sizeLine ∧ ∀ p, H1 p = none → Q (.ref p) (upd H1 p (dispO t xs)) := fun {vs M1 xs ι1 H1} S1 i1 hl c => by
    refine ⟨by rw [i1.length]; exact small_line hl, fun p hp => ?_⟩
    cases t with
    | true => exact c.tup vs rfl xs i1 p hp
    | false => exact c.lst vs rfl xs i1 p hp
  cases cl with
  | false =>
    have f : Fin k F ι H σ τ W ((evEs Φ as τ M).bind fun vs M1 => .of (dispD t vs) M1) Q := f
    refine ⟨F, ι, τ, M, S, f.bindA fun vs M1 xs ι1 H1 S1 s1 i1 f1 => ?_⟩
    unfold dispD at f1
    split at f1
    · rename_i hl
      exact done S1 i1 hl (Fin.cn S1 f1)
    · exact f1.elim
  | true =>
    have ht := hcl rfl
    subst ht
    have f : Fin k F ι H σ τ W (((evEs Φ as τ M).bind fun vs M1 => .of (dispD false vs) M1).bind fun v M1 => match toCell v with
      | some cc => .ok (.obj M1.length) (M1 ++ [cc])
      | none => .no) Q := f
    have f : Fin k F ι H σ τ W ((evEs Φ as τ M).bind fun vs M1 => (R.of (dispD false vs) M1).bind fun v M1 => match toCell v with
      | some cc => .ok (.obj M1.length) (M1 ++ [cc])
      | none => .no) Q := by
      cases e : evEs Φ as τ M with
      | ok a b => rw [e] at f; exact f
      | ex a b => rw [e] at f; exact f
      | no => rw [e] at f; exact f
    refine ⟨F, ι, τ, M, S, f.bindA fun vs M1 xs ι1 H1 S1 s1 i1 f1 => ?_⟩
    unfold dispD at f1
    split at f1
    · rename_i hl
      exact done S1 i1 hl (Fin.cnc (c := .lst vs) rfl S1 f1)
    · exact f1.elim
theorem dict_imp {t : Bool} {σ : L2.St} {H : Hp} {Q : VK} (h : tE k Φ W (mkC cl (.dict t)) σ H Q) : ∀ p, H p = none → Q (.ref p) (upd H p (if t then .dT [] else .dK [])) := by
  obtain ⟨F, ι, τ, M, S, f⟩ := h
  have c : CN k F ι H (if t then .dit [] [] else .dic [] []) cl Q := by
    cases cl with
    | false => exact Fin.cn S f
    | true =>
      cases t with
      | true => exact Fin.cnc (c := .dit [] []) rfl S f
      | false => exact Fin.cnc (c := .dic [] []) rfl S f
  cases t with
  | true => exact fun p hp => c.dit [] [] rfl [] rfl .nil p hp
  | false => exact fun p hp => c.dic [] [] rfl [] rfl .nil p hp
/-! ### truth, connectives -/
variable {F : Addr → Prop} {ι : List Addr} {H : Hp} {σ : L2.St} {τ : Env} {M : Mem} {Q : VK}
theorem tru_fin {x : V} {v : I} {b : Bool} (S : SOk k F ι H σ τ M) (i : IsI k F ι H x v) (e : truth (sh M v) = some b) : TruV k.K x H b := tru_of (sh_ok S.cs i) e
theorem and_imp {a b : C} (h : tE k Φ W (.and a b) σ H Q) : tAndT k.K (tE k Φ W a) (tE k Φ W b) σ H Q := by
  obtain ⟨F, ι, τ, M, S, f⟩ := h
  unfold evE at f
  refine ⟨F, ι, τ, M, S, f.bind fun v M1 x ι1 H1 S1 s1 i1 f1 => ?_⟩
  split at f1
  · rename_i e
    exact ⟨true, tru_fin S1 i1 e, iteT ⟨F, ι1, τ, M1, S1, f1⟩⟩
  · rename_i e
    exact ⟨false, tru_fin S1 i1 e, iteF (f1 x ι1 H1 S1 .refl i1)⟩
  · exact f1.elim
theorem or_imp {a b : C} (h : tE k Φ W (.or a b) σ H Q) : tOrT k.K (tE k Φ W a) (tE k Φ W b) σ H Q := by
  obtain ⟨F, ι, τ, M, S, f⟩ := h
  unfold evE at f
  refine ⟨F, ι, τ, M, S, f.bind fun v M1 x ι1 H1 S1 s1 i1 f1 => ?_⟩
  split at f1
  · rename_i e
    exact ⟨true, tru_fin S1 i1 e, iteT (f1 x ι1 H1 S1 .refl i1)⟩
  · rename_i e
    exact ⟨false, tru_fin S1 i1 e, iteF ⟨F, ι1, τ, M1, S1, f1⟩⟩
  · exact f1.elim
theorem not_imp {a : C} (h : tE k Φ W (.not a) σ H Q) : tNotT k.K (tE k Φ W a) σ H Q := by
  obtain ⟨F, ι, τ, M, S, f⟩ := h
  unfold evE at f
  refine ⟨F, ι, τ, M, S, f.bind fun v M1 x ι1 H1 S1 s1 i1 f1 => ?_⟩
  cases e : truth (sh M1 v) with
  | none => rw [e] at f1; exact f1.elim
  | some b => rw [e] at f1; exact ⟨b, tru_fin S1 i1 e, f1 (.bl (!b)) ι1 H1 S1 .refl (.bl _)⟩
theorem Fin.bindT {r : R I} {f : I → Mem → R I} {Q : V → Hp → Prop} {Q' : Bool → Hp → Prop} (h : Fin k F ι H σ τ W (r.bind f) Q)
    (i : ∀ v M1, r = .ok v M1 → ∃ b, truth (sh M1 v) = some b ∧ ∀ ι1 H1, SOk k F ι1 H1 σ τ M1 → Stp k ι H ι1 H1 → Fin k F ι1 H1 σ τ W (f v M1) Q → Q' b H1) : FinT k F ι H σ τ W r Q' := by
  cases r with
  | ok v M1 =>
    obtain ⟨b, e, i⟩ := i v M1 rfl
    exact ⟨b, e, fun ι1 H1 S s => i ι1 H1 S s (Fin.back s h)⟩
  | ex c M1 => exact h
  | no => exact h
theorem FinT.bindT {r : R I} {f : I → Mem → R I} {Q Q' : Bool → Hp → Prop} (h : FinT k F ι H σ τ W (r.bind f) Q)
    (i : ∀ v M1, r = .ok v M1 → ∃ b, truth (sh M1 v) = some b ∧ ∀ ι1 H1, SOk k F ι1 H1 σ τ M1 → Stp k ι H ι1 H1 → FinT k F ι1 H1 σ τ W (f v M1) Q → Q' b H1) : FinT k F ι H σ τ W r Q' := by
  cases r with
  | ok v M1 =>
    obtain ⟨b, e, i⟩ := i v M1 rfl
    exact ⟨b, e, fun ι1 H1 S s => i ι1 H1 S s (FinT.back s h)⟩
  | ex c M1 => exact h
  | no => exact h
theorem Fin.no_false {Q : V → Hp → Prop} {v : I} {M1 : Mem} {f : Option Bool → R I} (h : Fin k F ι H σ τ W (f (truth (sh M1 v))) Q) (hf : f none = .no) : ∃ b, truth (sh M1 v) = some b := by
  cases e : truth (sh M1 v) with
  | none => rw [e, hf] at h; exact h.elim
  | some b => exact ⟨b, rfl⟩
theorem ife_imp {t a b : C} (h : tE k Φ W (.ife t a b) σ H Q) : tIf (tT k Φ W t) (tE k Φ W a) (tE k Φ W b) σ H Q := by
  obtain ⟨F, ι, τ, M, S, f⟩ := h
  unfold evE at f
  refine ⟨F, ι, τ, M, S, f.bindT fun v M1 er => ?_⟩
  rw [er] at f
  have f : Fin k F ι H σ τ W (match truth (sh M1 v) with
    | some true => evE Φ a τ M1
    | some false => evE Φ b τ M1
    | none => .no) Q := f
  cases e : truth (sh M1 v) with
  | none => rw [e] at f; exact f.elim
  | some c =>
    refine ⟨c, rfl, fun ι1 H1 S1 s1 f1 => ?_⟩
    cases c with
    | true => exact iteT ⟨F, ι1, τ, M1, S1, f1⟩
    | false => exact iteF ⟨F, ι1, τ, M1, S1, f1⟩
theorem tT_and {a b : C} {Q : Bool → Hp → Prop} (h : tT k Φ W (.and a b) σ H Q) : tAnd (tT k Φ W a) (tT k Φ W b) σ H Q := by
  obtain ⟨F, ι, τ, M, S, f⟩ := h
  unfold evE at f
  refine ⟨F, ι, τ, M, S, f.bindT fun v M1 er => ?_⟩
  rw [er] at f
  have f : FinT k F ι H σ τ W (match truth (sh M1 v) with
    | some true => evE Φ b τ M1
    | some false => .ok v M1
    | none => .no) Q := f
  cases e : truth (sh M1 v) with
  | none => rw [e] at f; exact f.elim
  | some c =>
    refine ⟨c, rfl, fun ι1 H1 S1 s1 f1 => ?_⟩
    cases c with
    | true => exact iteT ⟨F, ι1, τ, M1, S1, f1⟩
    | false =>
      obtain ⟨d, ed, f1⟩ := f1
      rw [e] at ed
      cases ed
      exact iteF (f1 ι1 H1 S1 .refl)
theorem tT_or {a b : C} {Q : Bool → Hp → Prop} (h : tT k Φ W (.or a b) σ H Q) : tOr (tT k Φ W a) (tT k Φ W b) σ H Q := by
  obtain ⟨F, ι, τ, M, S, f⟩ := h
  unfold evE at f
  refine ⟨F, ι, τ, M, S, f.bindT fun v M1 er => ?_⟩
  rw [er] at f
  have f : FinT k F ι H σ τ W (match truth (sh M1 v) with
    | some true => .ok v M1
    | some false => evE Φ b τ M1
    | none => .no) Q := f
  cases e : truth (sh M1 v) with
  | none => rw [e] at f; exact f.elim
  | some c =>
    refine ⟨c, rfl, fun ι1 H1 S1 s1 f1 => ?_⟩
    cases c with
    | false => exact iteF ⟨F, ι1, τ, M1, S1, f1⟩
    | true =>
      obtain ⟨d, ed, f1⟩ := f1
      rw [e] at ed
      cases ed
      exact iteT (f1 ι1 H1 S1 .refl)
theorem tT_not {a : C} {Q : Bool → Hp → Prop} (h : tT k Φ W (.not a) σ H Q) : tNot (tT k Φ W a) σ H Q := by
  obtain ⟨F, ι, τ, M, S, f⟩ := h
  unfold evE at f
  refine ⟨F, ι, τ, M, S, f.bindT fun v M1 er => ?_⟩
  rw [er] at f
  have f : FinT k F ι H σ τ W (.of ((truth (sh M1 v)).map fun b => .bl !b) M1) Q := f
  cases e : truth (sh M1 v) with
  | none => rw [e] at f; exact f.elim
  | some c =>
    refine ⟨c, rfl, fun ι1 H1 S1 s1 f1 => ?_⟩
    obtain ⟨d, ed, f1⟩ := f1
    cases ed
    exact f1 ι1 H1 S1 .refl
def tIfT (t a b : TT) : TT := fun σ H Q => t σ H fun c H1 => if c = true then a σ H1 Q else b σ H1 Q
theorem tT_ife {t a b : C} {Q : Bool → Hp → Prop} (h : tT k Φ W (.ife t a b) σ H Q) : tIfT (tT k Φ W t) (tT k Φ W a) (tT k Φ W b) σ H Q := by
  obtain ⟨F, ι, τ, M, S, f⟩ := h
  unfold evE at f
  refine ⟨F, ι, τ, M, S, f.bindT fun v M1 er => ?_⟩
  rw [er] at f
  have f : FinT k F ι H σ τ W (match truth (sh M1 v) with
    | some true => evE Φ a τ M1
    | some false => evE Φ b τ M1
    | none => .no) Q := f
  cases e : truth (sh M1 v) with
  | none => rw [e] at f; exact f.elim
  | some c =>
    refine ⟨c, rfl, fun ι1 H1 S1 s1 f1 => ?_⟩
    cases c with
    | true => exact iteT ⟨F, ι1, τ, M1, S1, f1⟩
    | false => exact iteF ⟨F, ι1, τ, M1, S1, f1⟩
/-- a value's truth -/
theorem tT_val {c : C} {Q : Bool → Hp → Prop} (h : tT k Φ W c σ H Q) : tE k Φ W c σ H fun x H' => ∃ j, TruV k.K x H' j ∧ Q j H' := by
  obtain ⟨F, ι, τ, M, S, f⟩ := h
  refine ⟨F, ι, τ, M, S, ?_⟩
  cases e : evE Φ c τ M with
  | no => rw [e] at f; exact f
  | ex _ _ => rw [e] at f; exact f
  | ok v M1 =>
    rw [e] at f
    obtain ⟨b, eb, f⟩ := f
    exact fun x ι1 H1 S1 s1 i1 => ⟨b, tru_fin S1 i1 eb, f ι1 H1 S1 s1⟩
theorem tT_bool {c : C} {Q : Bool → Hp → Prop} (h : tT k Φ W c σ H Q) (hb : ∀ τ M v M', evE Φ c τ M = .ok v M' → ∃ b, v = .bl b) : tE k Φ W c σ H fun x H' => ∃ j, x = .bl j ∧ Q j H' := by
  obtain ⟨F, ι, τ, M, S, f⟩ := h
  refine ⟨F, ι, τ, M, S, ?_⟩
  cases e : evE Φ c τ M with
  | no => rw [e] at f; exact f
  | ex _ _ => rw [e] at f; exact f
  | ok v M1 =>
    obtain ⟨d, rfl⟩ := hb _ _ _ _ e
    rw [e] at f
    obtain ⟨b, eb, f⟩ := f
    cases eb
    exact fun x ι1 H1 S1 s1 i1 => ⟨d, by cases i1; rfl, f ι1 H1 S1 s1⟩
end
end Rs

/-! second layer, part i: what loops walk -/
namespace Rs
open PySem PySem.Spec PyProof.Rows L2
def Src.nth : Src → Mem → Nat → Option (Option I)
  | .vals xs, _, i => some xs[i]?
  | .cell n, M, i => cellItem M n i
section
variable {k : Kx} {F : Addr → Prop} {ι : List Addr} {H : Hp}
/-- a list that no value may hold is written -/
theorem ne_lst {D a : Addr} {ws : List V} {o : HO} (hD : H D = some (.lst ws)) (h : H a = some o) (n : ∀ xs, o ≠ .lst xs) : a ≠ D := fun e => by
  rw [e, hD] at h
  cases h
  exact n _ rfl
mutual
theorem IsI.far {D : Addr} {ws us : List V} (hD : H D = some (.lst ws)) (fD : F D) : ∀ {v : V} {x : I}, IsI k F ι H v x → IsI k F ι (upd H D (.lst us)) v x
  | _, _, .non => .non
  | _, _, .bl b => .bl b
  | _, _, .int i => .int i
  | _, _, .str s => .str s
  | _, _, .tup h t => .tup (by rw [upd_ne (ne_lst hD h (fun _ z => nomatch z))]; exact h) (IsIs.far hD fD t)
  | _, _, .wtp h t => .wtp (SqT.put hD trivial h) (IsIs.far hD fD t)
  | _, _, .lst h r t => .lst (by rw [upd_ne (fun e => r.2 (by rw [e]; exact fD))]; exact h) r (IsIs.far hD fD t)
  | _, _, .dic h r e t => .dic (by rw [upd_ne (ne_lst hD h (fun _ z => nomatch z))]; exact h) r e (IsIs.far hD fD t)
  | _, _, .dit h r e t => .dit (by rw [upd_ne (ne_lst hD h (fun _ z => nomatch z))]; exact h) r e (IsIs.far hD fD t)
  | _, _, .scr h => .scr (h.imp (fun ⟨o, q, z⟩ => ⟨o, by rw [upd_ne (ne_lst hD q (fun _ z => nomatch z))]; exact q, z⟩) id)
  | _, _, .obj h => .obj h
theorem IsIs.far {D : Addr} {ws us : List V} (hD : H D = some (.lst ws)) (fD : F D) : ∀ {vs : List V} {xs : List I}, IsIs k F ι H vs xs → IsIs k F ι (upd H D (.lst us)) vs xs
  | _, _, .nil => .nil
  | _, _, .cons h t => .cons (IsI.far hD fD h) (IsIs.far hD fD t)
end
end
/-- J walks these items, as long as P holds -/
structure Wk (k : Kx) (J : L2.It) (P : (Addr → Prop) → List Addr → Hp → Prop) (nth : Mem → Nat → Option (Option I)) : Prop where
  stay : ∀ F ι H ι' H', Stp k ι H ι' H' → P F ι H → P F ι' H'
  mono : ∀ F F' ι H, (∀ a, H a ≠ none → F' a → F a) → P F ι H → P F' ι H
  far : ∀ F ι H D ws us, H D = some (.lst ws) → F D → P F ι H → P F ι (upd H D (.lst us))
  go : ∀ F i ι H M v, CsOk k F ι H M → P F ι H → nth M i = some (some v) → J.go i H
  stop : ∀ F i ι H M, CsOk k F ι H M → P F ι H → nth M i = some none → J.stop i H
  yld : ∀ F i v ι H M x H', CsOk k F ι H M → P F ι H → nth M i = some (some v) → J.yld i H x H' → (H' = H ∨ ∃ T xs, H T = none ∧ H' = upd H T (.tup xs)) ∧ IsI k F ι H' x v
def FinI (k : Kx) (F : Addr → Prop) (ι : List Addr) (H : Hp) (σ : L2.St) (τ : Env) (W : WX) (r : R Src) (Q : L2.It → Hp → Prop) : Prop := match r with
  | .ok s M' => ∀ J P ι' H', SOk k F ι' H' σ τ M' → Stp k ι H ι' H' → Wk k J P s.nth → P F ι' H' → Q J H'
  | .ex c M' => ∀ (ι' : List Addr) (H' : Hp), SOk k F ι' H' σ τ M' → Stp k ι H ι' H' → W (.ref (k.xc c)) none σ H'
  | .no => False
def tI (k : Kx) (Φ : Oracle) (W : WX) (it : It) : TI := fun σ H Q => ∃ F ι τ M, SOk k F ι H σ τ M ∧ FinI k F ι H σ τ W (evIt Φ it τ M) Q
theorem PI.imp {X : Cx} {tg e : Expr} {t t' : TI} (h : PI X tg e t) (i : ∀ σ H R, t' σ H R → t σ H R) : PI X tg e t' := ⟨fun pins s σ H R I q => h.run pins s σ H R I (i σ H R q)⟩
def iAny (K : PySem.W.Frag) (tl : TE) : TI := fun σ H R => tl σ H fun x H1 =>
  (∃ a xs, x = .ref a ∧ SqL K H1 a xs ∧ R (Itl K a) H1) ∨ (∃ a xs, x = .ref a ∧ SqT K H1 a xs ∧ R (Itt K a) H1) ∨ ∃ s, x = .str s ∧ R (Its s) H1
theorem pi_any {X : Cx} {tg l : Expr} {tl : TE} (hl : PE X l tl) : PI X tg l (iAny X.K tl) := by
  refine ⟨fun pins s σ H R I h => ?_⟩
  refine thn (hl.run pins s σ H _ I h) fun v s1 ⟨x, H1, I1, r1, q1⟩ => ?_
  rcases q1 with ⟨a, xs, e, hq, q⟩ | ⟨a, xs, e, hq, q⟩ | ⟨x, ex, q⟩
  · subst e
    cases r1
    obtain ⟨its, rv, p, hz⟩ := I1.list hq
    refine wpAny_pyIter_list p.isList ?_
    refine ⟨s1.heap.objs.size, [s1.heap.objs.size], _, _, H1, rfl, I1.kept (t' := s1.toks) fun b o e => Heap.get?_push_of_some _ e, turn_list a _, ⟨_, Heap.get?_push_size _ rfl, rfl, rfl⟩, fun b hb => ?_, q⟩
    have e : b = s1.heap.objs.size := by simpa using hb
    subst e
    exact I1.fpOk (Nat.le_refl _) (I1.hok.fresh (Nat.le_refl _))
  · subst e
    cases r1
    obtain ⟨its, rv, p, hz⟩ := I1.tuple hq
    refine wpAny_pyIter_tuple (show s1.heap.IsTuple a its.toArray from p) ?_
    refine ⟨s1.heap.objs.size, [s1.heap.objs.size], _, _, H1, rfl, I1.kept (t' := s1.toks) fun b o e => Heap.get?_push_of_some _ e, turn_tuple a _, ⟨_, Heap.get?_push_size _ rfl, rfl, rfl⟩, fun b hb => ?_, q⟩
    have e : b = s1.heap.objs.size := by simpa using hb
    subst e
    exact I1.fpOk (Nat.le_refl _) (I1.hok.fresh (Nat.le_refl _))
  · subst ex
    obtain ⟨t, rfl⟩ := r1
    cases ha : x.cps.all (· < 128)
    · exact wpAny_pyIter_wide ha (pi_one (tk := s1.toks) I1 _ (turn_str _ x t "str_iterator" (.inr rfl)) ⟨_, Heap.get?_push_size _ rfl, rfl, rfl⟩ q)
    · exact wpAny_pyIter_ascii ha (pi_one (tk := s1.toks) I1 _ (turn_str _ x t "str_ascii_iterator" (.inl rfl)) ⟨_, Heap.get?_push_size _ rfl, rfl, rfl⟩ q)
set_option maxHeartbeats 1000000 in
theorem meets_enum1 {v : Value} {o : Obj} {H : Heap → Prop} (B : Begins v o H) :
    Meets (Builtin.«enumerate.__new__» ⟨[.type "enumerate", v], []⟩) (fun _ R s => H s.heap ∧
      R (.ok (.ret (.ref (s.heap.push o).objs.size))) { s with heap := (s.heap.push o).push { cls := .type "enumerate", data := .fields #[.none, .bool false, .ref s.heap.objs.size, rawInt 0, .none, .none] } }) :=
  .of_wp fun prog w A R s h => by
    obtain ⟨hp, g, d, tk, os⟩ := s; obtain ⟨h1, h⟩ := h
    have hsub := sub_enumerate
    have q1 : ∀ {A' : Around} {E : Value → Shared → Prop} {Q : Value → Shared → Prop}, Q (.ref hp.objs.size) ⟨hp.push o, g, d, tk, os⟩ → wpAny (model prog w) A' (pyIter v) Q E ⟨hp, g, d, tk, os⟩ :=
      fun q => B.iter prog w _ _ ⟨hp, g, d, tk, os⟩ _ h1 q
    wp_walk using q1
    refine wpAny_stack_any fun st => wpAny_pure ?_
    split
    · rename_i c _ _ _ _ _
      cases (c == Value.type "enumerate")
      · wp_walk using q1
        exact ⟨_, rfl, h⟩
      · wp_walk using q1
        exact ⟨_, rfl, h⟩
    · wp_walk using q1
      exact ⟨_, rfl, h⟩
theorem call_enum1 {prog : Program} {w : World} {A : Around} {E : Value → Shared → Prop} {s : Shared} {v : Value} {o : Obj} {H : Heap → Prop} {Q : Value → Shared → Prop} (B : Begins v o H) (h1 : H s.heap)
    (h : ∀ h', IsEnum h' (s.heap.objs.size + 1) s.heap.objs.size 0 .none → h'.get? s.heap.objs.size = some o → h'.objs.size = s.heap.objs.size + 2 →
      (∀ b o, s.heap.get? b = some o → h'.get? b = some o) → Q (.ref (s.heap.objs.size + 1)) { s with heap := h' }) :
    wpAny (model prog w) A (call (.type "enumerate") [v]) Q E s := by
  refine callType_new F.called_enumerate (by decide) (F.typeCall_enumerate_1 _) (F.newCall_enumerate_1 _) (fun obj => F.args_object_init_2 obj _) F.entry_enumerate_new
    (meets_enum1 B) ⟨h1, ?_⟩
  have hz : (s.heap.push o).objs.size = s.heap.objs.size + 1 := Heap.size_push ..
  show _ ∧ _
  rw [hz]
  have he : IsEnum ((s.heap.push o).push { cls := .type "enumerate", data := .fields #[.none, .bool false, .ref s.heap.objs.size, rawInt 0, .none, .none] }) (s.heap.objs.size + 1) s.heap.objs.size 0 .none := by
    have := Heap.get?_push_size (s.heap.push o) (o := { cls := .type "enumerate", data := .fields #[.none, .bool false, .ref s.heap.objs.size, rawInt 0, .none, .none] }) rfl
    rw [hz] at this; exact this
  refine ⟨⟨_, he, rfl⟩, h _ he (Heap.get?_push_of_some _ (Heap.get?_push_size _ B.free)) (by rw [Heap.size_push, hz]) fun b o x => Heap.get?_push_of_some _ (Heap.get?_push_of_some _ x)⟩
/-- the tuple at a, its items in new pairs -/
def IteT (K : PySem.W.Frag) (a : Addr) : L2.It :=
  ⟨fun i H => ∃ (xs : List V) (x : V), SqT K H a xs ∧ xs[i]? = some x, fun i H v H' => ∃ T x, v = .ref T ∧ H T = none ∧ H' = upd H T (.tup [.int (i : Nat), x]) ∧ ∀ xs, SqT K H a xs → xs[i]? = some x, fun i H => ∃ xs : List V, SqT K H a xs ∧ xs.length ≤ i⟩
theorem turn_enumT {P : Program} {w : World} {K : PySem.W.Frag} {elts : List Expr} {kk : Nat} {tpos : Pos} (a e it : Addr) :
    Turn P w K (.Tuple elts kk tpos) (IteT K a) [e, it] e (fun i h => (∃ old, IsEnum h e it ((i : Nat) : Int) old) ∧ h.IsTupleIter it a i ∧ e ≠ it ∧ a ≠ it ∧ a ≠ e) where
  mem := by simp
  obj := fun i h st b hb => by
    obtain ⟨⟨old, he⟩, ⟨o, ho, hc, hd⟩, _⟩ := st
    have e' : b = e ∨ b = it := by simpa using hb
    rcases e' with z | z
    · rw [z]; exact ⟨_, he, fun v q => nomatch q⟩
    · rw [z]; exact ⟨o, ho, fun v q => by rw [hd] at q; cases q⟩
  keep := fun i h h' st k => let ⟨⟨old, he⟩, hi, hne⟩ := st; ⟨⟨old, k e (by simp) _ he⟩, hi.at fun o q => k it (by simp) o q, hne⟩
  item := by
    intro X hP hw hK hc i pins s σ H E I hf st hg
    subst hP hw hK
    obtain ⟨⟨old, he⟩, hit, hne, hai, hae⟩ := st
    obtain ⟨xs, x, hq, hx⟩ := hg
    obtain ⟨its, rv, p, hz⟩ := I.tuple hq
    obtain ⟨u, hu, ru⟩ := rv.get hx
    have hel : e < s.heap.objs.size := Heap.lt_size he
    have hil : it < s.heap.objs.size := by obtain ⟨_, q, _⟩ := hit; exact Heap.lt_size q
    have hil' : i < its.toArray.size := by
      have := (List.getElem?_eq_some_iff.mp hu).1
      simpa using this
    refine wpAny_pyNext_enum_itemD (Draws.tuple (prog := X.prog) (w := X.w) (A := X.A.in1) (I.ok.hd hc) it a hai its.toArray) he ⟨hit, show s.heap.IsTuple a its.toArray from p⟩ hil' hne (by simp [hne, Ne.symm hae]) fun y h' tk hy ho st' hT hsz hk => ?_
    have hyu : y = u := by
      have hy' : its[i]? = some y := by simpa using hy
      rw [hu] at hy'; exact (Option.some.inj hy').symm
    subst hyu
    refine ⟨_, rfl, wpAny_letOwnedTupleGo_enum (s := { s with heap := h', toks := tk + 1 }) ho fun h'' he' sb => ?_⟩
    have hT2 : h''.get? s.heap.objs.size = some { cls := .type "tuple", data := .seq #[.int i tk, y] } := (sb.2 _ (Nat.ne_of_gt hel)).trans hT
    have new : ObjOk X.prog X.w (upd H s.heap.objs.size (.tup [.int (i : Nat), x])) h'' s.heap.objs.size (.tup [.int (i : Nat), x]) :=
      ⟨by show 2 ≤ sizeLine; decide, [.int i tk, y], .cons ⟨_, rfl⟩ (.cons ru .nil), ⟨_, hT2, rfl, _, rfl⟩⟩
    have I1 : Inv X pins σ (upd H s.heap.objs.size (.tup [.int (i : Nat), x])) { s with heap := h'', toks := tk + 1 } :=
      I.turnedNew (ch := [e, it]) (fun b ob hb q => (sb.2 b (fun z => hb (by simp [z]))).trans (hk b ob (fun z => hb (by simp [z])) (fun z => hb (by simp [z])) q)) hf (Nat.le_refl _) new
    refine ⟨.ref s.heap.objs.size, _, I1, rfl, ⟨_, x, rfl, I.hok.fresh (Nat.le_refl _), rfl, fun ys hy => by rw [I.tuple_inj hy hq]; exact hx⟩, ⟨⟨y, ?_⟩, st'.1.at fun o q => (sb.2 it (Ne.symm hne)).trans q, hne, hai, hae⟩, fun b hb => ?_⟩
    · have e1 : ((i + 1 : Nat) : Int) = (i : Int) + 1 := by omega
      rw [e1]; exact he'
    · have hb' : b < s.heap.objs.size := by
        have e' : b = e ∨ b = it := by simpa using hb
        rcases e' with z | z
        · rw [z]; exact hel
        · rw [z]; exact hil
      rw [upd_ne (Nat.ne_of_lt hb')]
      exact (hf b hb).1
  done := by
    intro X hP hw hK hc i pins s σ H E I hf st hg
    subst hP hw hK
    obtain ⟨⟨old, he⟩, hit, hne, hai, hae⟩ := st
    obtain ⟨xs, hq, hx⟩ := hg
    obtain ⟨its, rv, p, hz⟩ := I.tuple hq
    obtain ⟨f0, f1, f2, f3, f4, f5⟩ := hf it (by simp)
    have hl := rv.length
    have hT : s.TypeIs (.ref e) "enumerate" := ⟨_, he, rfl⟩
    unfold pyNext
    refine wpAny_bind (wpAny_attempt (wpAny_callSpecial?_slot (name := Str.ofString "__next__") hT F.slot_enumerate_next
      (wpAny_call_entry F.slot_enumerate_next hT F.entry_enumerate_next ?_ (F.args_enumerate_next_1 _))))
    show wpAny _ _ (field (.ref e) 2 >>= _) _ _ _
    refine wpAny_bind (wpAny_field he rfl (x := .ref it) rfl ?_)
    refine wpAny_bind (wpAny_nextOf_tuple_end (A := X.A.in1) (I.ok.hd hc) hit (show s.heap.IsTuple a its.toArray from p) (by simp; omega) fun h' x he' hx' => ?_)
    obtain ⟨o, ho, hcx⟩ := hx'
    refine wpAny_bind (wpAny_isInstance (T := "StopIteration") (b := true) ⟨o, ho, hcx⟩ isSubtype_stop ?_)
    exact wpAny_pure ⟨rfl, I.turned (t' := s.toks) (fun b o hb q => he' b o hb q) f0 f1 f3 f4 f5⟩
  self := fun A i s Q E st h => let ⟨⟨_, he⟩, _⟩ := st; wpAny_pyIter_enum he h
def iEnum2 (K : PySem.W.Frag) (ta : TA) : TI := fun σ H R => ta σ H fun vs H1 => ∃ a xs, vs = [.ref a] ∧ ((SqL K H1 a xs ∧ R (Ite K a) H1) ∨ (SqT K H1 a xs ∧ R (IteT K a) H1))
theorem pi_enum2 {X : Cx} {e : Expr} {ta : TA} {p pos tpos : Pos} {elts : List Expr} {kk : Nat} (hg : Gl X "enumerate") (hm : X.mg "enumerate" = none) (ha : PA X [e] ta) (hs : starEach [e] X.env = [(false, eval e X.env)]) :
    PI X (.Tuple elts kk tpos) (.Call (.Name "enumerate" p) [e] [] pos) (iEnum2 X.K ta) := by
  refine ⟨fun pins s σ H R I h => ?_⟩
  refine Call_ (ld_blt I hg hm boot_enumerate (PyProof.Rows.callWith_type1 (thn (ha.run pos pins s σ H _ I h) fun us s1 ⟨vs, H1, I1, r1, q1⟩ => ?_) hs rfl))
  obtain ⟨a, xs, ex, q1⟩ := q1
  subst ex
  cases r1 with
  | cons r rr =>
    cases rr
    cases r
    have fp : ∀ b ∈ [s1.heap.objs.size + 1, s1.heap.objs.size], ∀ {h' : Heap}, Inv X pins σ H1 { s1 with heap := h' } → FpOk X pins H1 b := fun b hb h' I2 => by
      have e' : b = s1.heap.objs.size + 1 ∨ b = s1.heap.objs.size := by simpa using hb
      have hle : s1.heap.objs.size ≤ b := by
        rcases e' with z | z
        · rw [z]; exact Nat.le_add_right _ _
        · rw [z]; exact Nat.le_refl _
      exact I1.fpOk hle (I1.hok.fresh hle)
    rcases q1 with ⟨hq, q⟩ | ⟨hq, q⟩
    · obtain ⟨its, rv, p', hz⟩ := I1.list hq
      refine call_enumerate_list p'.isList fun h' he hit hsz hk => wpAny_pyIter_enum he ?_
      have I2 : Inv X pins σ H1 { s1 with heap := h' } := I1.kept (t' := s1.toks) hk
      exact ⟨s1.heap.objs.size + 1, [s1.heap.objs.size + 1, s1.heap.objs.size], _, _, H1, rfl, I2, turn_enum a (s1.heap.objs.size + 1) s1.heap.objs.size, ⟨⟨.none, he⟩, hit, Nat.succ_ne_self _⟩, fun b hb => fp b hb I2, q⟩
    · obtain ⟨its, rv, p', hz⟩ := I1.tuple hq
      have hT : s1.heap.IsTuple a its.toArray := p'
      have hlt : a < s1.heap.objs.size := p'.lt
      refine call_enum1 (begins_tuple a its.toArray) hT fun h' he hit hsz hk => wpAny_pyIter_enum he ?_
      have I2 : Inv X pins σ H1 { s1 with heap := h' } := I1.kept (t' := s1.toks) hk
      exact ⟨s1.heap.objs.size + 1, [s1.heap.objs.size + 1, s1.heap.objs.size], _, _, H1, rfl, I2, turn_enumT a (s1.heap.objs.size + 1) s1.heap.objs.size, ⟨⟨.none, he⟩, ⟨_, hit, rfl, rfl⟩, Nat.succ_ne_self _, Nat.ne_of_lt hlt, Nat.ne_of_lt (Nat.lt_succ_of_lt hlt)⟩, fun b hb => fp b hb I2, q⟩
section
variable {k : Kx} {Φ : Oracle} {W : WX} {a b : Addr} {F : Addr → Prop} {ι : List Addr} {H : Hp} {σ : L2.St} {τ : Env} {M : Mem}
theorem map_get {α β : Type} {g : α → β} {xs : List α} {i : Nat} {v : β} (h : (xs.map g)[i]? = some v) : ∃ x, xs[i]? = some x ∧ g x = v := by
  rw [List.getElem?_map] at h
  cases e : xs[i]? with
  | none => rw [e] at h; cases h
  | some x => rw [e] at h; exact ⟨x, rfl, Option.some.inj h⟩
theorem get_lt {α β : Type} {xs : List α} {ys : List β} {i : Nat} {v : β} (hl : xs.length = ys.length) (h : ys[i]? = some v) : ∃ x, xs[i]? = some x := by
  have := (List.getElem?_eq_some_iff.mp h).1
  exact ⟨xs[i]'(by omega), List.getElem?_eq_getElem _⟩
theorem get_le {α β : Type} {xs : List α} {ys : List β} {i : Nat} (hl : xs.length = ys.length) (h : ys[i]? = none) : xs.length ≤ i := by
  have := List.getElem?_eq_none_iff.mp h
  omega
/-- a list or a tuple, as it stays -/
inductive LsOk (k : Kx) (a : Addr) (xs : List V) (ys : List I) (F : Addr → Prop) (ι : List Addr) (H : Hp) : Bool → Prop
  | lst : H a = some (.lst xs) → Fr F ι a → IsIs k F ι H xs ys → LsOk k a xs ys F ι H true
  | tup : SqT k.K H a xs → IsIs k F ι H xs ys → LsOk k a xs ys F ι H false
theorem LsOk.stay {ι' : List Addr} {H' : Hp} {xs : List V} {ys : List I} {l : Bool} (st : Stp k ι H ι' H') (h : LsOk k a xs ys F ι H l) : LsOk k a xs ys F ι' H' l := by
  cases h with
  | lst h f t => exact .lst (st.kp _ _ h f.1) (f.go st h) (t.go st)
  | tup h t => exact .tup (st.tp _ _ h) (t.go st)
theorem LsOk.mono {F' : Addr → Prop} {xs : List V} {ys : List I} {l : Bool} (hF : ∀ a, H a ≠ none → F' a → F a) (h : LsOk k a xs ys F ι H l) : LsOk k a xs ys F' ι H l := by
  cases h with
  | lst h f t => exact .lst h ⟨f.1, fun z => f.2 (hF _ (by rw [h]; exact fun z => nomatch z) z)⟩ (t.F hF)
  | tup h t => exact .tup h (t.F hF)
theorem LsOk.far {D : Addr} {ws us : List V} {xs : List V} {ys : List I} {l : Bool} (hD : H D = some (.lst ws)) (fD : F D) (h : LsOk k a xs ys F ι H l) : LsOk k a xs ys F ι (upd H D (.lst us)) l := by
  cases h with
  | lst h f t => exact .lst (by rw [upd_ne (fun e => f.2 (by rw [e]; exact fD))]; exact h) f (t.far hD fD)
  | tup h t => exact .tup (SqT.put hD trivial h) (t.far hD fD)
theorem LsOk.is {xs : List V} {ys : List I} {l : Bool} (h : LsOk k a xs ys F ι H l) : IsIs k F ι H xs ys := by cases h <;> assumption
theorem LsOk.sqL {xs : List V} {ys : List I} (h : LsOk k a xs ys F ι H true) : SqL k.K H a xs := by
  cases h with
  | lst h _ _ => exact lst_sq h
theorem LsOk.sqT {xs : List V} {ys : List I} (h : LsOk k a xs ys F ι H false) : SqT k.K H a xs := by
  cases h with
  | tup h _ => exact h
theorem wk_lst {xs : List V} {ys : List I} : Wk k (Itl k.K a) (fun F ι H => LsOk k a xs ys F ι H true) (Src.vals ys).nth where
  stay := fun F ι H ι' H' st p => p.stay st
  mono := fun F F' ι H hF p => p.mono hF
  far := fun F ι H D ws us hD fD p => p.far hD fD
  go := fun F i ι H M v C p e => by
    obtain ⟨w, h⟩ := get_lt p.is.length (Option.some.inj e)
    exact ⟨xs, w, p.sqL, h⟩
  stop := fun F i ι H M C p e => ⟨xs, p.sqL, get_le p.is.length (Option.some.inj e)⟩
  yld := fun F i v ι H M x H' C p e y => by
    obtain ⟨rfl, y⟩ := y
    obtain ⟨w, g1, g2⟩ := p.is.get (Option.some.inj e)
    have ex := (y xs p.sqL).symm.trans g1
    cases ex
    exact ⟨.inl rfl, g2⟩
theorem wk_tup {xs : List V} {ys : List I} : Wk k (Itt k.K a) (fun F ι H => LsOk k a xs ys F ι H false) (Src.vals ys).nth where
  stay := fun F ι H ι' H' st p => p.stay st
  mono := fun F F' ι H hF p => p.mono hF
  far := fun F ι H D ws us hD fD p => p.far hD fD
  go := fun F i ι H M v C p e => by
    obtain ⟨w, h⟩ := get_lt p.is.length (Option.some.inj e)
    exact ⟨xs, w, p.sqT, h⟩
  stop := fun F i ι H M C p e => ⟨xs, p.sqT, get_le p.is.length (Option.some.inj e)⟩
  yld := fun F i v ι H M x H' C p e y => by
    obtain ⟨rfl, y⟩ := y
    obtain ⟨w, g1, g2⟩ := p.is.get (Option.some.inj e)
    have ex := (y xs p.sqT).symm.trans g1
    cases ex
    exact ⟨.inl rfl, g2⟩
/-- a cell, walked -/
theorem wk_cell {n : Nat} : Wk k (Itl k.K a) (fun F ι H => ι[n]? = some a) (Src.cell n).nth where
  stay := fun F ι H ι' H' st p => get_prefix st.ip p
  mono := fun F F' ι H hF p => p
  far := fun F ι H D ws us hD fD p => p
  go := fun F i ι H M v C p e => by
    have e : cellItem M n i = some (some v) := e
    unfold cellItem at e
    split at e
    · rename_i xs em
      obtain ⟨vs, h1, h2⟩ := C.ce n _ a em p
      obtain ⟨w, h⟩ := get_lt h2.length (Option.some.inj e)
      exact ⟨vs, w, lst_sq h1, h⟩
    · cases e
  stop := fun F i ι H M C p e => by
    have e : cellItem M n i = some none := e
    unfold cellItem at e
    split at e
    · rename_i xs em
      obtain ⟨vs, h1, h2⟩ := C.ce n _ a em p
      exact ⟨vs, lst_sq h1, get_le h2.length (Option.some.inj e)⟩
    · cases e
  yld := fun F i v ι H M x H' C p e y => by
    obtain ⟨rfl, y⟩ := y
    have e : cellItem M n i = some (some v) := e
    unfold cellItem at e
    split at e
    · rename_i xs em
      obtain ⟨vs, h1, h2⟩ := C.ce n _ a em p
      obtain ⟨w, g1, g2⟩ := h2.get (Option.some.inj e)
      have ex := (y vs (lst_sq h1)).symm.trans g1
      cases ex
      exact ⟨.inl rfl, g2⟩
    · cases e
theorem wk_scr {ns : List Int} : Wk k (Itl k.K a) (fun F ι H => Scr k.K ι H a (ns.map V.int)) (Src.vals (ns.map I.int)).nth where
  stay := fun F ι H ι' H' st p => p.go st
  mono := fun F F' ι H hF p => p
  far := fun F ι H D ws us hD fD p => p.imp (fun ⟨o, q, z⟩ => ⟨o, by rw [upd_ne (ne_lst hD q (fun _ z => nomatch z))]; exact q, z⟩) id
  go := fun F i ι H M v C p e => by
    obtain ⟨w, h⟩ := get_lt (xs := ns.map V.int) (by rw [List.length_map, List.length_map]) (Option.some.inj e)
    exact ⟨_, w, p.sq, h⟩
  stop := fun F i ι H M C p e => ⟨_, p.sq, get_le (by rw [List.length_map, List.length_map]) (Option.some.inj e)⟩
  yld := fun F i v ι H M x H' C p e y => by
    obtain ⟨rfl, y⟩ := y
    obtain ⟨n, hn, rfl⟩ := map_get (Option.some.inj e)
    have ex := y _ p.sq
    rw [List.getElem?_map, hn] at ex
    cases ex
    exact ⟨.inl rfl, .int _⟩
theorem wk_str {s : Str} : Wk k (Its s) (fun _ _ _ => True) (Src.vals (s.cps.toList.map fun c => I.str ⟨#[c]⟩)).nth where
  stay := fun _ _ _ _ _ _ _ => trivial
  mono := fun _ _ _ _ _ _ => trivial
  far := fun _ _ _ _ _ _ _ _ _ => trivial
  go := fun F i ι H M v C p e => by
    have := (List.getElem?_eq_some_iff.mp (Option.some.inj e)).1
    rw [List.length_map, Array.length_toList] at this
    exact this
  stop := fun F i ι H M C p e => by
    have := List.getElem?_eq_none_iff.mp (Option.some.inj e)
    rw [List.length_map, Array.length_toList] at this
    exact this
  yld := fun F i v ι H M x H' C p e y => by
    obtain ⟨rfl, c, hc, rfl⟩ := y
    obtain ⟨n, hn, rfl⟩ := map_get (Option.some.inj e)
    rw [Array.getElem?_toList, hc] at hn
    cases hn
    exact ⟨.inl rfl, .str _⟩
theorem wk_rng {lo : Int} {n : Nat} : Wk k (Itr lo n) (fun _ _ _ => True) (Src.vals ((List.range n).map fun j : Nat => I.int (lo + (j : Int)))).nth where
  stay := fun _ _ _ _ _ _ _ => trivial
  mono := fun _ _ _ _ _ _ => trivial
  far := fun _ _ _ _ _ _ _ _ _ => trivial
  go := fun F i ι H M v C p e => by
    have := (List.getElem?_eq_some_iff.mp (Option.some.inj e)).1
    rw [List.length_map, List.length_range] at this
    exact this
  stop := fun F i ι H M C p e => by
    have := List.getElem?_eq_none_iff.mp (Option.some.inj e)
    rw [List.length_map, List.length_range] at this
    exact this
  yld := fun F i v ι H M x H' C p e y => by
    obtain ⟨rfl, rfl⟩ := y
    obtain ⟨j, hj, rfl⟩ := map_get (Option.some.inj e)
    have ek : j = i := by
      have := (List.getElem?_eq_some_iff.mp hj).2
      rw [List.getElem_range] at this
      exact this.symm
    subst ek
    exact ⟨.inl rfl, .int _⟩
theorem seq_wk {x : V} {v : I} {s : Src} {R : L2.It → Hp → Prop} (C : CsOk k F ι H M) (h : IsI k F ι H x v) (e : seqItems M v = some s) (q : ∀ J P, Wk k J P s.nth → P F ι H → R J H) :
    (∃ a xs, x = .ref a ∧ SqL k.K H a xs ∧ R (Itl k.K a) H) ∨ (∃ a xs, x = .ref a ∧ SqT k.K H a xs ∧ R (Itt k.K a) H) ∨ ∃ s, x = .str s ∧ R (Its s) H := by
  cases h with
  | non => cases e
  | bl _ => cases e
  | int _ => cases e
  | str s => cases e; exact .inr (.inr ⟨s, rfl, q _ _ wk_str trivial⟩)
  | tup h t => cases e; exact .inr (.inl ⟨_, _, rfl, tup_sq h, q _ _ wk_tup (.tup (tup_sq h) t)⟩)
  | wtp h t => cases e; exact .inr (.inl ⟨_, _, rfl, h, q _ _ wk_tup (.tup h t)⟩)
  | lst h f t => cases e; exact .inl ⟨_, _, rfl, lst_sq h, q _ _ wk_lst (.lst h f t)⟩
  | dic _ _ _ _ => cases e
  | dit _ _ _ _ => cases e
  | scr h => cases e; exact .inl ⟨_, _, rfl, h.sq, q _ _ wk_scr h⟩
  | obj h =>
    unfold seqItems at e
    dsimp only at e
    split at e
    · rename_i xs em
      cases e
      obtain ⟨vs, h1, h2⟩ := C.ce _ _ _ em h
      exact .inl ⟨_, _, rfl, lst_sq h1, q _ _ wk_cell h⟩
    · cases e
theorem FinI.bind {r : R I} {f : I → Mem → R Src} {Q : L2.It → Hp → Prop} {Q' : V → Hp → Prop} (h : FinI k F ι H σ τ W (r.bind f) Q)
    (i : ∀ v M1 x ι1 H1, SOk k F ι1 H1 σ τ M1 → Stp k ι H ι1 H1 → IsI k F ι1 H1 x v → FinI k F ι1 H1 σ τ W (f v M1) Q → Q' x H1) : Fin k F ι H σ τ W r Q' := by
  cases r with
  | ok v M1 =>
    refine fun x ι1 H1 S s q => i v M1 x ι1 H1 S s q ?_
    have h : FinI k F ι H σ τ W (f v M1) Q := h
    cases e : f v M1 with
    | ok a M2 => rw [e] at h; exact fun J P ι2 H2 S2 s2 w p => h J P ι2 H2 S2 (s.trans s2) w p
    | ex c M2 => rw [e] at h; exact fun ι2 H2 S2 s2 => h ι2 H2 S2 (s.trans s2)
    | no => rw [e] at h; exact h
  | ex c M1 => exact h
  | no => exact h
theorem FinI.bindA {r : R (List I)} {f : List I → Mem → R Src} {Q : L2.It → Hp → Prop} {Q' : List V → Hp → Prop} (h : FinI k F ι H σ τ W (r.bind f) Q)
    (i : ∀ v M1 x ι1 H1, SOk k F ι1 H1 σ τ M1 → Stp k ι H ι1 H1 → IsIs k F ι1 H1 x v → FinI k F ι1 H1 σ τ W (f v M1) Q → Q' x H1) : FinA k F ι H σ τ W r Q' := by
  cases r with
  | ok v M1 =>
    refine fun x ι1 H1 S s q => i v M1 x ι1 H1 S s q ?_
    have h : FinI k F ι H σ τ W (f v M1) Q := h
    cases e : f v M1 with
    | ok a M2 => rw [e] at h; exact fun J P ι2 H2 S2 s2 w p => h J P ι2 H2 S2 (s.trans s2) w p
    | ex c M2 => rw [e] at h; exact fun ι2 H2 S2 s2 => h ι2 H2 S2 (s.trans s2)
    | no => rw [e] at h; exact h
  | ex c M1 => exact h
  | no => exact h
variable {X : Cx} {tg : Expr}
theorem snd_seq {c : C} {e : Expr} (hK : k.K = X.K) (h : PE X e (tE k Φ W c)) : PI X tg e (tI k Φ W (.seq c)) := by
  obtain ⟨K0, c1, c2⟩ := k
  obtain rfl : K0 = X.K := hK
  refine PI.imp (pi_any h) fun σ H R q => ?_
  obtain ⟨F, ι, τ, M, S, f⟩ := q
  unfold evIt at f
  refine ⟨F, ι, τ, M, S, f.bind fun v M1 x ι1 H1 S1 s1 i1 f1 => ?_⟩
  cases e2 : seqItems M1 v with
  | none => rw [e2] at f1; exact f1.elim
  | some us => rw [e2] at f1; exact seq_wk S1.cs i1 e2 fun J P w p => f1 J P ι1 H1 S1 .refl w p
theorem snd_range {as : Cs} {es : List Expr} {p pos : Pos} (P : PEs k X W Φ es as) (hn : ∀ e ∈ es, Nice e) (hl : es.length = 1 ∨ es.length = 2) (hg : Gl X "range") (hm : X.mg "range" = none) : PI X tg (.Call (.Name "range" p) es [] pos) (tI k Φ W (.range as)) := by
  have conv : ∀ {σ : L2.St} {H : Hp} {R : L2.It → Hp → Prop}, tI k Φ W (.range as) σ H R → tA k Φ W as σ H fun xs H1 => (∃ n : Int, xs = [.int n] ∧ -(2 ^ 62) ≤ n ∧ n < 2 ^ 62 ∧ R (Itr 0 n.toNat) H1) ∨
      ∃ i j : Int, xs = [.int i, .int j] ∧ (-(2 ^ 62) ≤ i ∧ i < 2 ^ 62 ∧ -(2 ^ 62) ≤ j ∧ j < 2 ^ 62) ∧ R (Itr i (j - i).toNat) H1 := fun {σ H R} q => by
    obtain ⟨F, ι, τ, M, S, f⟩ := q
    unfold evIt at f
    refine ⟨F, ι, τ, M, S, f.bindA fun vs M1 xs ι1 H1 S1 s1 i1 f1 => ?_⟩
    cases e2 : rangeItems vs with
    | none => rw [e2] at f1; exact f1.elim
    | some us =>
      rw [e2] at f1
      unfold rangeItems at e2
      split at e2
      · obtain ⟨hc, e2⟩ := if_some e2
        cases e2
        cases i1 with
        | cons r t =>
          cases t
          cases r
          refine .inl ⟨_, rfl, hc.1, hc.2, ?_⟩
          have w := wk_rng (k := k) (lo := 0) (n := Int.toNat ‹Int›)
          simp only [Int.zero_add] at w
          exact f1 _ _ ι1 H1 S1 .refl w trivial
      · obtain ⟨hc, e2⟩ := if_some e2
        cases e2
        cases i1 with
        | cons r t =>
          cases t with
          | cons r2 t2 =>
            cases t2
            cases r
            cases r2
            exact .inr ⟨_, _, rfl, hc, f1 _ _ ι1 H1 S1 .refl wk_rng trivial⟩
      · cases e2
  cases P with
  | nil => simp at hl
  | cons h1 s1 t =>
    cases t with
    | nil =>
      refine PI.imp (pi_range1 hg hm (PEs.cons h1 s1 .nil).pa (s1 [])) fun σ H R q => ?_
      refine tA.mono (conv q) fun xs H1 l z => ?_
      rcases z with ⟨n, rfl, a, b, r⟩ | ⟨i, j, rfl, _⟩
      · exact ⟨n, rfl, a, b, r⟩
      · cases l
    | cons h2 s2 t2 =>
      cases t2 with
      | nil =>
        refine PI.imp (pi_range2 hg hm (PEs.cons h1 s1 (.cons h2 s2 .nil)).pa ((s1 _).trans (congrArg _ (s2 []))) (s2 [])) fun σ H R q => ?_
        refine tA.mono (conv q) fun xs H1 l z => ?_
        rcases z with ⟨n, rfl, _⟩ | ⟨i, j, rfl, c, r⟩
        · cases l
        · exact ⟨i, j, rfl, c, r⟩
      | cons _ _ t3 => simp at hl
/-! ### enumerate, zip -/
theorem enumI_get : ∀ (xs : List I) (k i : Nat), (enumI k xs)[i]? = xs[i]?.map fun x => .tup [.int ((k + i : Nat) : Int), x]
  | [], k, i => by simp [enumI]
  | x :: xs, k, 0 => by simp [enumI]
  | x :: xs, k, i + 1 => by
    have := enumI_get xs (k + 1) i
    rw [show k + 1 + i = k + (i + 1) by omega] at this
    simpa [enumI] using this
theorem zipI_get : ∀ (xs ys : List I) (i : Nat), (zipI xs ys)[i]? = match xs[i]?, ys[i]? with
    | some x, some y => some (.tup [x, y])
    | _, _ => none
  | [], ys, _ => by simp [zipI]
  | x :: xs, [], i => by
    simp only [zipI, List.getElem?_nil]
    split
    · rename_i e; cases e
    · rfl
  | x :: xs, y :: ys, 0 => by simp [zipI]
  | x :: xs, y :: ys, i + 1 => by
    simpa [zipI] using zipI_get xs ys i
theorem listItems_ok {x : V} {v : I} {ys : List I} (h : IsI k F ι H x v) (e : listItems v = some ys) : ∃ a xs l, x = .ref a ∧ LsOk k a xs ys F ι H l ∧ (l = true → ∃ ds, v = .lst ds) ∧ (l = false → ∃ ds, v = .tup ds) := by
  cases h with
  | tup h t => cases e; exact ⟨_, _, false, rfl, .tup (tup_sq h) t, (fun z => nomatch z), fun _ => ⟨_, rfl⟩⟩
  | lst h f t => cases e; exact ⟨_, _, true, rfl, .lst h f t, fun _ => ⟨_, rfl⟩, (fun z => nomatch z)⟩
  | _ => cases e
theorem pair_is {T : Addr} {x y : V} {u w : I} (hT : H T = none) (h1 : IsI k F ι H x u) (h2 : IsI k F ι H y w) : IsI k F ι (upd H T (.tup [x, y])) (.ref T) (.tup [u, w]) := by
  have st : Stp k ι H ι (upd H T (.tup [x, y])) := .new hT
  exact .tup upd_same (.cons (h1.go st) (.cons (h2.go st) .nil))
theorem enum_some {ys : List I} {i : Nat} {v : I} (e : (enumI 0 ys)[i]? = some v) : ∃ u, ys[i]? = some u ∧ v = .tup [.int ((i : Nat) : Int), u] := by
  rw [enumI_get] at e
  obtain ⟨u, h1, rfl⟩ := map_some e
  exact ⟨u, h1, by rw [Nat.zero_add]⟩
theorem enum_none {ys : List I} {i : Nat} (e : (enumI 0 ys)[i]? = none) : ys[i]? = none := by
  rw [enumI_get, Option.map_eq_none_iff] at e
  exact e
theorem wk_enumL {xs : List V} {ys : List I} : Wk k (Ite k.K a) (fun F ι H => LsOk k a xs ys F ι H true) (Src.vals (enumI 0 ys)).nth where
  stay := fun F ι H ι' H' st p => p.stay st
  mono := fun F F' ι H hF p => p.mono hF
  far := fun F ι H D ws us hD fD p => p.far hD fD
  go := fun F i ι H M v C p e => by
    obtain ⟨u, h1, rfl⟩ := enum_some (Option.some.inj e)
    obtain ⟨w, h⟩ := get_lt p.is.length h1
    exact ⟨xs, w, p.sqL, h⟩
  stop := fun F i ι H M C p e => ⟨xs, p.sqL, get_le p.is.length (enum_none (Option.some.inj e))⟩
  yld := fun F i v ι H M x H' C p e y => by
    obtain ⟨T, w, rfl, hT, rfl, q⟩ := y
    obtain ⟨u, h1, rfl⟩ := enum_some (Option.some.inj e)
    obtain ⟨w', g1, g2⟩ := p.is.get h1
    have ex := (q xs p.sqL).symm.trans g1
    cases ex
    exact ⟨.inr ⟨T, _, hT, rfl⟩, pair_is hT (.int _) g2⟩
theorem wk_enumT {xs : List V} {ys : List I} : Wk k (IteT k.K a) (fun F ι H => LsOk k a xs ys F ι H false) (Src.vals (enumI 0 ys)).nth where
  stay := fun F ι H ι' H' st p => p.stay st
  mono := fun F F' ι H hF p => p.mono hF
  far := fun F ι H D ws us hD fD p => p.far hD fD
  go := fun F i ι H M v C p e => by
    obtain ⟨u, h1, rfl⟩ := enum_some (Option.some.inj e)
    obtain ⟨w, h⟩ := get_lt p.is.length h1
    exact ⟨xs, w, p.sqT, h⟩
  stop := fun F i ι H M C p e => ⟨xs, p.sqT, get_le p.is.length (enum_none (Option.some.inj e))⟩
  yld := fun F i v ι H M x H' C p e y => by
    obtain ⟨T, w, rfl, hT, rfl, q⟩ := y
    obtain ⟨u, h1, rfl⟩ := enum_some (Option.some.inj e)
    obtain ⟨w', g1, g2⟩ := p.is.get h1
    have ex := (q xs p.sqT).symm.trans g1
    cases ex
    exact ⟨.inr ⟨T, _, hT, rfl⟩, pair_is hT (.int _) g2⟩
theorem zip_some {ys zs : List I} {i : Nat} {v : I} (e : (zipI ys zs)[i]? = some v) : ∃ u w, ys[i]? = some u ∧ zs[i]? = some w ∧ v = .tup [u, w] := by
  rw [zipI_get] at e
  split at e
  · rename_i u w e1 e2; cases e; exact ⟨u, w, e1, e2, rfl⟩
  · cases e
theorem zip_none {ys zs : List I} {i : Nat} (e : (zipI ys zs)[i]? = none) : ys[i]? = none ∨ zs[i]? = none := by
  rw [zipI_get] at e
  cases e1 : ys[i]? with
  | none => exact .inl rfl
  | some u =>
    cases e2 : zs[i]? with
    | none => exact .inr rfl
    | some w => rw [e1, e2] at e; cases e
theorem wk_zipL {xs us : List V} {ys ws : List I} : Wk k (Itz k.K a b) (fun F ι H => LsOk k a xs ys F ι H true ∧ LsOk k b us ws F ι H true) (Src.vals (zipI ys ws)).nth where
  stay := fun F ι H ι' H' st p => ⟨p.1.stay st, p.2.stay st⟩
  mono := fun F F' ι H hF p => ⟨p.1.mono hF, p.2.mono hF⟩
  far := fun F ι H D ws us hD fD p => ⟨p.1.far hD fD, p.2.far hD fD⟩
  go := fun F i ι H M v C p e => by
    obtain ⟨u1, u2, h1, h2, rfl⟩ := zip_some (Option.some.inj e)
    obtain ⟨w1, g1⟩ := get_lt p.1.is.length h1
    obtain ⟨w2, g2⟩ := get_lt p.2.is.length h2
    exact ⟨xs, us, w1, w2, p.1.sqL, p.2.sqL, g1, g2⟩
  stop := fun F i ι H M C p e => ⟨xs, us, p.1.sqL, p.2.sqL, (zip_none (Option.some.inj e)).imp (get_le p.1.is.length) (get_le p.2.is.length)⟩
  yld := fun F i v ι H M x H' C p e y => by
    obtain ⟨T, w1, w2, rfl, hT, rfl, q1, q2⟩ := y
    obtain ⟨u1, u2, g1, g2, rfl⟩ := zip_some (Option.some.inj e)
    obtain ⟨z1, a1, b1⟩ := p.1.is.get g1
    obtain ⟨z2, a2, b2⟩ := p.2.is.get g2
    have ex := (q1 xs p.1.sqL).symm.trans a1
    cases ex
    have ex := (q2 us p.2.sqL).symm.trans a2
    cases ex
    exact ⟨.inr ⟨T, _, hT, rfl⟩, pair_is hT b1 b2⟩
theorem wk_zipT {xs us : List V} {ys ws : List I} : Wk k (RZ.ItzT k.K a b) (fun F ι H => LsOk k a xs ys F ι H false ∧ LsOk k b us ws F ι H false) (Src.vals (zipI ys ws)).nth where
  stay := fun F ι H ι' H' st p => ⟨p.1.stay st, p.2.stay st⟩
  mono := fun F F' ι H hF p => ⟨p.1.mono hF, p.2.mono hF⟩
  far := fun F ι H D ws us hD fD p => ⟨p.1.far hD fD, p.2.far hD fD⟩
  go := fun F i ι H M v C p e => by
    obtain ⟨u1, u2, h1, h2, rfl⟩ := zip_some (Option.some.inj e)
    obtain ⟨w1, g1⟩ := get_lt p.1.is.length h1
    obtain ⟨w2, g2⟩ := get_lt p.2.is.length h2
    exact ⟨xs, us, w1, w2, p.1.sqT, p.2.sqT, g1, g2⟩
  stop := fun F i ι H M C p e => ⟨xs, us, p.1.sqT, p.2.sqT, (zip_none (Option.some.inj e)).imp (get_le p.1.is.length) (get_le p.2.is.length)⟩
  yld := fun F i v ι H M x H' C p e y => by
    obtain ⟨T, w1, w2, rfl, hT, rfl, q1, q2⟩ := y
    obtain ⟨u1, u2, g1, g2, rfl⟩ := zip_some (Option.some.inj e)
    obtain ⟨z1, a1, b1⟩ := p.1.is.get g1
    obtain ⟨z2, a2, b2⟩ := p.2.is.get g2
    have ex := (q1 xs p.1.sqT).symm.trans a1
    cases ex
    have ex := (q2 us p.2.sqT).symm.trans a2
    cases ex
    exact ⟨.inr ⟨T, _, hT, rfl⟩, pair_is hT b1 b2⟩
theorem snd_enum {c : C} {e : Expr} {p pos tpos : Pos} {elts : List Expr} {kk : Nat} (hK : k.K = X.K) (h : PE X e (tE k Φ W c)) (hn : Nice e) (hg : Gl X "enumerate") (hm : X.mg "enumerate" = none) : PI X (.Tuple elts kk tpos) (.Call (.Name "enumerate" p) [e] [] pos) (tI k Φ W (.enum c)) := by
  obtain ⟨K0, c1, c2⟩ := k
  obtain rfl : K0 = X.K := hK
  refine PI.imp (pi_enum2 hg hm (pa_cons h pa_nil (hn.starEach [] X.env)) (hn.starEach [] X.env)) fun σ H R q => ?_
  obtain ⟨F, ι, τ, M, S, f⟩ := q
  unfold evIt at f
  refine ⟨F, ι, τ, M, S, f.bind fun v M1 x ι1 H1 S1 s1 i1 f1 => ?_⟩
  cases e2 : listItems v with
  | none => rw [e2] at f1; exact f1.elim
  | some us =>
    rw [e2] at f1
    obtain ⟨a, xs, l, rfl, hl, _, _⟩ := listItems_ok i1 e2
    cases l with
    | true => exact ⟨a, xs, rfl, .inl ⟨hl.sqL, f1 _ _ ι1 H1 S1 .refl wk_enumL hl⟩⟩
    | false => exact ⟨a, xs, rfl, .inr ⟨hl.sqT, f1 _ _ ι1 H1 S1 .refl wk_enumT hl⟩⟩
theorem snd_zip {c d : C} {e e2 : Expr} {p pos tpos : Pos} {elts : List Expr} {kk : Nat} (hK : k.K = X.K) (h : PE X e (tE k Φ W c)) (h2 : PE X e2 (tE k Φ W d)) (hn : Nice e) (hn2 : Nice e2) (hg : Gl X "zip") (hm : X.mg "zip" = none) :
    PI X (.Tuple elts kk tpos) (.Call (.Name "zip" p) [e, e2] [] pos) (tI k Φ W (.zip c d)) := by
  obtain ⟨K0, c1, c2⟩ := k
  obtain rfl : K0 = X.K := hK
  refine PI.imp (RZ.pi_zipA hg hm (pa_cons h (pa_cons h2 pa_nil (hn2.starEach [] X.env)) (hn.starEach [e2] X.env)) (hs := hn.starEach [e2] X.env) (hpl := any_back (es := [e2]) fun e m => by rw [List.mem_singleton.mp m]; exact hn2)) fun σ H R q => ?_
  obtain ⟨F, ι, τ, M, S, f⟩ := q
  unfold evIt at f
  refine ⟨F, ι, τ, M, S, f.bind fun v M1 x ι1 H1 S1 s1 i1 f1 => ⟨F, ι1, τ, M1, S1, f1.bind fun u M2 y ι2 H2 S2 s2 i2 f2 => ?_⟩⟩
  split at f2
  · rename_i xs ys l1 l2
    split at f2
    · rename_i hk
      obtain ⟨a, ws, k1, rfl, o1, k1a, k1b⟩ := listItems_ok (i1.go s2) l1
      obtain ⟨b, vs, k2, rfl, o2, k2a, k2b⟩ := listItems_ok i2 l2
      cases k1 with
      | true =>
        cases k2 with
        | true => exact ⟨a, b, ws, vs, rfl, .inl ⟨o1.sqL, o2.sqL, f2 _ _ ι2 H2 S2 .refl wk_zipL ⟨o1, o2⟩⟩⟩
        | false =>
          obtain ⟨d1, z1⟩ := k1a rfl
          obtain ⟨d2, z2⟩ := k2b rfl
          rw [z1, z2] at hk; cases hk
      | false =>
        cases k2 with
        | true =>
          obtain ⟨d1, z1⟩ := k1b rfl
          obtain ⟨d2, z2⟩ := k2a rfl
          rw [z1, z2] at hk; cases hk
        | false => exact ⟨a, b, ws, vs, rfl, .inr ⟨o1.sqT, o2.sqT, f2 _ _ ι2 H2 S2 .refl wk_zipT ⟨o1, o2⟩⟩⟩
    · exact f2.elim
  · exact f2.elim
end
end Rs

/-! second layer, part j: targets, comprehensions -/
namespace Rs
open PySem PySem.Spec PyProof.Rows L2
mutual
def gTg (K : PySem.W.Frag) : Tg → TG
  | .nm i => gName i
  | .tup ts => gTup K ts.len (gTgs K ts)
def gTgs (K : PySem.W.Frag) : Tgs → TGs
  | .nil => gNil
  | .cons t ts => gCons (gTg K t) (gTgs K ts)
end
mutual
def Tg.has (j : Nat) : Tg → Prop
  | .nm i => j = i
  | .tup ts => ts.has j
def Tgs.has (j : Nat) : Tgs → Prop
  | .nil => False
  | .cons t ts => t.has j ∨ ts.has j
end
section
variable {k : Kx} {F F' : Addr → Prop} {ι ι' : List Addr} {H H' : Hp} {M : Mem}
theorem set_at {τ : Env} {i j : Nat} {s u : Option I} (h : (τ.set i s)[j]? = some u) : (j = i ∧ u = s) ∨ (j ≠ i ∧ τ[j]? = some u) := by
  by_cases e : j = i
  · subst e
    rw [List.getElem?_set_self' ] at h
    cases e2 : τ[j]? with
    | none => rw [e2] at h; cases h
    | some w => rw [e2] at h; cases h; exact .inl ⟨rfl, rfl⟩
  · rw [List.getElem?_set_ne (Ne.symm e)] at h
    exact .inr ⟨e, h⟩
theorem SOk.put {σ : L2.St} {τ : Env} {i : Nat} {x : V} {v : I} (S : SOk k F ι H σ τ M) (hi : i < τ.length) (h : IsI k F ι H x v) : SOk k F ι H (σ.set i (some x)) (τ.set i (some v)) M := by
  have hσ : i < σ.length := by rw [S.len]; exact hi
  refine ⟨by rw [List.length_set, List.length_set]; exact S.len, fun j u e => ?_, S.cs⟩
  rcases set_at e with ⟨rfl, z⟩ | ⟨n, z⟩
  · cases z
    exact ⟨x, List.getElem?_set_self hσ, h⟩
  · obtain ⟨w, e1, h1⟩ := S.sl j u z
    exact ⟨w, by rw [List.getElem?_set_ne (Ne.symm n)]; exact e1, h1⟩
mutual
theorem asgT_ok : ∀ (g : Tg) {x : V} {v : I} {τ τ' : Env} {σ : L2.St} {R : L2.St → Hp → Prop}, SOk k F ι H σ τ M → asgT g v τ = some τ' → IsI k F ι H x v →
    (∀ σ', SOk k F ι H σ' τ' M → σ'.length = σ.length → (∀ j, ¬ g.has j → σ'[j]? = σ[j]?) → R σ' H) → gTg k.K g x σ H R
  | .nm i, x, v, τ, τ', σ, R, S, e, h, q => by
    have e : (if i < τ.length then some (τ.set i (some v)) else none) = some τ' := e
    obtain ⟨hi, e⟩ := if_some e
    cases e
    exact q _ (S.put hi h) (by rw [List.length_set]) fun j n => by rw [List.getElem?_set_ne (fun z => n z.symm)]
  | .tup ts, x, v, τ, τ', σ, R, S, e, h, q => by
    have go : ∀ {a : Addr} {xs : List V} {ys : List I}, SqT k.K H a xs → IsIs k F ι H xs ys → asgTs ts ys τ = some τ' → gTg k.K (.tup ts) (.ref a) σ H R := fun {a xs ys} hs t e => by
      refine ⟨a, xs, rfl, hs, by rw [t.length]; exact asgTs_len ts e, ?_⟩
      exact asgTs_ok ts S e t q
    cases h with
    | tup h t => exact go (tup_sq h) t e
    | wtp h t => exact go h t e
    | _ => cases e
theorem asgTs_len : ∀ (ts : Tgs) {vs : List I} {τ τ' : Env}, asgTs ts vs τ = some τ' → vs.length = ts.len
  | .nil, vs, τ, τ', e => by
    cases vs with
    | nil => rfl
    | cons _ _ => cases e
  | .cons t ts, vs, τ, τ', e => by
    cases vs with
    | nil => cases e
    | cons v vs =>
      unfold asgTs at e
      obtain ⟨τ1, _, e⟩ := Option.bind_eq_some_iff.mp e
      exact congrArg (· + 1) (asgTs_len ts e)
theorem asgTs_ok : ∀ (ts : Tgs) {xs : List V} {vs : List I} {τ τ' : Env} {σ : L2.St} {R : L2.St → Hp → Prop}, SOk k F ι H σ τ M → asgTs ts vs τ = some τ' → IsIs k F ι H xs vs →
    (∀ σ', SOk k F ι H σ' τ' M → σ'.length = σ.length → (∀ j, ¬ ts.has j → σ'[j]? = σ[j]?) → R σ' H) → gTgs k.K ts xs σ H R
  | .nil, xs, vs, τ, τ', σ, R, S, e, h, q => by
    cases h with
    | nil =>
      cases e
      exact ⟨rfl, q σ S rfl fun _ _ => rfl⟩
    | cons _ _ => cases e
  | .cons t ts, xs, vs, τ, τ', σ, R, S, e, h, q => by
    cases h with
    | nil => cases e
    | cons h1 h2 =>
      unfold asgTs at e
      obtain ⟨τ1, e1, e2⟩ := Option.bind_eq_some_iff.mp e
      refine ⟨_, _, rfl, asgT_ok t S e1 h1 fun σ1 S1 l1 o1 => ?_⟩
      exact asgTs_ok ts S1 e2 h2 fun σ' S' l2 o2 => q σ' S' (l2.trans l1) fun j n => (o2 j fun z => n (.inr z)).trans (o1 j fun z => n (.inl z))
end
/-! ### targets in the text -/
variable {X : Cx}
theorem ckTs_len {N : List Str} {cel : Bool} {sc : Scope} {own : List Nat} : ∀ {ts : Tgs} {es : List Expr} {env : PySem.Env}, ckTs N cel sc own ts es = true → (assignEach es env).length = ts.len ∧ (assignEach es env).findIdx? (·.1) = none
  | .nil, [], _, _ => ⟨rfl, rfl⟩
  | .nil, _ :: _, _, h => by cases h
  | .cons t ts, [], _, h => by cases h
  | .cons t ts, e :: es, env, h => by
    unfold ckTs at h
    rw [Bool.and_eq_true] at h
    obtain ⟨h1, h2⟩ := ckTs_len (env := env) h.2
    have he : assignEach (e :: es) env = (false, assign e env) :: assignEach es env := by
      have hh := h.1
      cases t with
      | nm i => cases e <;> first | rfl | cases hh
      | tup ts => cases e <;> first | rfl | cases hh
    rw [he]
    refine ⟨congrArg (· + 1) h1, ?_⟩
    rw [List.findIdx?_cons, h2]
    rfl
theorem assignEach_cons {N : List Str} {cel : Bool} {sc : Scope} {own : List Nat} {t : Tg} {e : Expr} {es : List Expr} {env : PySem.Env} (h : ckT N cel sc own t e = true) : (assignEach (e :: es) env).map (·.2) = assign e env :: (assignEach es env).map (·.2) := by
  cases t with
  | nm i => cases e <;> first | rfl | cases h
  | tup ts => cases e <;> first | rfl | cases h
mutual
theorem sndT (hc : X.calm = true) (hN : X.N.Nodup) {cel : Bool} {sc : Scope} {own : List Nat} (hs : ∀ x, (locB sc x || cel && decide (sc.names.lookup x = some .cell)) = true → X.env.scope.names.lookup x = some .local ∨ (X.env.scope.names.lookup x = some .cell ∧ X.fn x = true)) : ∀ (g : Tg) (e : Expr), ckT X.N cel sc own g e = true → PG X e (gTg X.K g)
  | .nm i, e, h => by
    cases e <;> first
      | (cases h; done)
      | (rename_i x pos
         have h : (decide (X.N[i]? = some x) && (locB sc x || cel && decide (sc.names.lookup x = some .cell)) && own.contains i) = true := h
         rw [Bool.and_eq_true, Bool.and_eq_true, decide_eq_true_eq] at h
         rcases hs x h.1.2 with q | ⟨q, q2⟩
         · exact pg_name hN h.1.1 (.inl q) (.inr q)
         · exact pg_name hN h.1.1 (.inr q) (.inl q2))
  | .tup ts, e, h => by
    cases e <;> first
      | (cases h; done)
      | (rename_i es k pos
         have h : ckTs X.N cel sc own ts es = true := h
         obtain ⟨h1, h2⟩ := ckTs_len (env := X.env) h
         exact pg_tup hc (sndTs hc hN hs ts es h) h1 h2)
theorem sndTs (hc : X.calm = true) (hN : X.N.Nodup) {cel : Bool} {sc : Scope} {own : List Nat} (hs : ∀ x, (locB sc x || cel && decide (sc.names.lookup x = some .cell)) = true → X.env.scope.names.lookup x = some .local ∨ (X.env.scope.names.lookup x = some .cell ∧ X.fn x = true)) : ∀ (ts : Tgs) (es : List Expr), ckTs X.N cel sc own ts es = true → PGs X es (gTgs X.K ts)
  | .nil, es, h => by
    cases es with
    | nil => exact pgs_nil
    | cons _ _ => cases h
  | .cons t ts, es, h => by
    cases es with
    | nil => cases h
    | cons e es =>
      unfold ckTs at h
      rw [Bool.and_eq_true] at h
      exact pgs_cons (sndT hc hN hs t e h.1) (sndTs hc hN hs ts es h.2) (assignEach_cons h.1)
end
mutual
theorem ckT_has {N : List Str} {cel : Bool} {sc : Scope} {own : List Nat} {j : Nat} : ∀ (g : Tg) (e : Expr), ckT N cel sc own g e = true → g.has j → j ∈ own
  | .nm i, e, h, z => by
    cases e <;> first
      | (cases h; done)
      | (rename_i x pos
         have h : (decide (N[i]? = some x) && (locB sc x || cel && decide (sc.names.lookup x = some .cell)) && own.contains i) = true := h
         rw [Bool.and_eq_true, Bool.and_eq_true] at h
         have z : j = i := z
         subst z
         simpa using h.2)
  | .tup ts, e, h, z => by
    cases e <;> first
      | (cases h; done)
      | (rename_i es k pos
         exact ckTs_has ts es h z)
theorem ckTs_has {N : List Str} {cel : Bool} {sc : Scope} {own : List Nat} {j : Nat} : ∀ (ts : Tgs) (es : List Expr), ckTs N cel sc own ts es = true → ts.has j → j ∈ own
  | .nil, _, _, z => z.elim
  | .cons t ts, es, h, z => by
    cases es with
    | nil => cases h
    | cons e es =>
      unfold ckTs at h
      rw [Bool.and_eq_true] at h
      rcases z with z | z
      · exact ckT_has t e h.1 z
      · exact ckTs_has ts es h.2 z
end

/-! ### values, their cells known otherwise -/
mutual
theorem IsI.re {F' : Addr → Prop} {ι' : List Addr} (hF : ∀ a, H a ≠ none → Fr F ι a → Fr F' ι' a) (hS : ∀ a o xs, H a = some (.frz o (.lst xs)) → a ∉ ι → a ∉ ι') (hι : ∀ (n : Nat) (a : Addr), ι[n]? = some a → ι'[n]? = some a) : ∀ {v : V} {x : I}, IsI k F ι H v x → IsI k F' ι' H v x
  | _, _, .non => .non
  | _, _, .bl b => .bl b
  | _, _, .int i => .int i
  | _, _, .str s => .str s
  | _, _, .tup h t => .tup h (IsIs.re hF hS hι t)
  | _, _, .wtp h t => .wtp h (IsIs.re hF hS hι t)
  | _, _, .lst h r t => .lst h (hF _ (by rw [h]; exact fun z => nomatch z) r) (IsIs.re hF hS hι t)
  | _, _, .dic h r e t => .dic h (hF _ (by rw [h]; exact fun z => nomatch z) r) e (IsIs.re hF hS hι t)
  | _, _, .dit h r e t => .dit h (hF _ (by rw [h]; exact fun z => nomatch z) r) e (IsIs.re hF hS hι t)
  | _, _, .scr h => .scr (h.imp (fun ⟨o, q, z⟩ => ⟨o, q, hS _ _ _ q z⟩) id)
  | _, _, .obj h => .obj (hι _ _ h)
theorem IsIs.re {F' : Addr → Prop} {ι' : List Addr} (hF : ∀ a, H a ≠ none → Fr F ι a → Fr F' ι' a) (hS : ∀ a o xs, H a = some (.frz o (.lst xs)) → a ∉ ι → a ∉ ι') (hι : ∀ (n : Nat) (a : Addr), ι[n]? = some a → ι'[n]? = some a) : ∀ {vs : List V} {xs : List I}, IsIs k F ι H vs xs → IsIs k F' ι' H vs xs
  | _, _, .nil => .nil
  | _, _, .cons h t => .cons (IsI.re hF hS hι h) (IsIs.re hF hS hι t)
end
theorem CellOk.re {F' : Addr → Prop} {ι' : List Addr} (hF : ∀ a, H a ≠ none → Fr F ι a → Fr F' ι' a) (hS : ∀ a o xs, H a = some (.frz o (.lst xs)) → a ∉ ι → a ∉ ι') (hι : ∀ (n : Nat) (a : Addr), ι[n]? = some a → ι'[n]? = some a) {a : Addr} {c : Cell} (h : CellOk k F ι H a c) : CellOk k F' ι' H a c := by
  cases c with
  | lst xs => obtain ⟨vs, h1, h2⟩ := h; exact ⟨vs, h1, h2.re hF hS hι⟩
  | dic ks xs => obtain ⟨vs, h1, hk, h2⟩ := h; exact ⟨vs, h1, hk, h2.re hF hS hι⟩
  | dit ks xs => obtain ⟨vs, h1, hk, h2⟩ := h; exact ⟨vs, h1, hk, h2.re hF hS hι⟩
  | ins c fs => obtain ⟨dx, fvs, h1, ho, hk, h2⟩ := h; exact ⟨dx, fvs, h1, ho, hk, h2.re hF hS hι⟩
theorem CellOk.far {D a : Addr} {ws us : List V} {c : Cell} (hD : H D = some (.lst ws)) (fD : F D) (n : a ≠ D) (h : CellOk k F ι H a c) : CellOk k F ι (upd H D (.lst us)) a c := by
  cases c with
  | lst xs => obtain ⟨vs, h1, h2⟩ := h; exact ⟨vs, by rw [upd_ne n]; exact h1, h2.far hD fD⟩
  | dic ks xs => obtain ⟨vs, h1, hk, h2⟩ := h; exact ⟨vs, by rw [upd_ne n]; exact h1, hk, h2.far hD fD⟩
  | dit ks xs => obtain ⟨vs, h1, hk, h2⟩ := h; exact ⟨vs, by rw [upd_ne n]; exact h1, hk, h2.far hD fD⟩
  | ins c fs => obtain ⟨dx, fvs, h1, ho, hk, h2⟩ := h; exact ⟨dx, fvs, by rw [upd_ne n]; exact h1, by rw [upd_ne (ne_lst hD ho (fun _ z => nomatch z))]; exact ho, hk, h2.far hD fD⟩
theorem SOk.far {D : Addr} {ws us : List V} {σ : L2.St} {τ : Env} (hD : H D = some (.lst ws)) (fD : F D) (n : D ∉ ι) (S : SOk k F ι H σ τ M) : SOk k F ι (upd H D (.lst us)) σ τ M :=
  ⟨S.len, fun i x e => by obtain ⟨v, e1, h⟩ := S.sl i x e; exact ⟨v, e1, h.far hD fD⟩, S.cs.li, S.cs.nd, fun a h z => by
    by_cases e : a = D
    · rw [e, upd_same] at z; cases z
    · rw [upd_ne e] at z; exact S.cs.fd a h z, fun m c a h1 h2 => (S.cs.ce m c a h1 h2).far hD fD fun e => n (by rw [← e]; exact List.mem_iff_getElem?.mpr ⟨m, h2⟩)⟩
/-- .. as the state ahead of it sees that -/
theorem Stp.far {D : Addr} {ws us : List V} (s : Stp k ι H ι' H') (hn : H D = none) (hD : H' D = some (.lst ws)) : Stp k ι H ι' (upd H' D (.lst us)) :=
  ⟨s.ip, fun a o h n => by rw [upd_ne (ne_of_none h hn)]; exact s.kp a o h n, fun a xs h => SqT.put hD trivial (s.tp a xs h), fun a xs h => by rw [upd_ne (ne_of_none h hn)]; exact s.tt a xs h,
   fun a x h => by rw [upd_ne (ne_of_none h hn)]; exact s.ow a x h, fun a h => by
    by_cases e : a = D
    · rw [e]; exact hn
    · rw [upd_ne e] at h; exact s.dm a h, s.nw⟩
theorem SOk.re {F' : Addr → Prop} {σ : L2.St} {τ : Env} (S : SOk k F ι H σ τ M) (hF : ∀ a, H a ≠ none → Fr F ι a → Fr F' ι a) (fd : ∀ a, F' a → H a ≠ none) : SOk k F' ι H σ τ M :=
  ⟨S.len, fun i x e => by obtain ⟨v, e1, h⟩ := S.sl i x e; exact ⟨v, e1, h.re hF (fun _ _ _ _ z => z) fun _ _ z => z⟩, S.cs.li, S.cs.nd, fd, fun m c a h1 h2 => (S.cs.ce m c a h1 h2).re hF (fun _ _ _ _ z => z) fun _ _ z => z⟩

/-! ### names within a comprehension -/
theorem wipeE_get {own : List Nat} {τ : Env} {j : Nat} {s : Option I} (h : (wipeE own τ)[j]? = some s) : (s = none) ∨ (j ∉ own ∧ τ[j]? = some s) := by
  induction own with
  | nil => exact .inr ⟨by simp, h⟩
  | cons i own ih =>
    have h : ((wipeE own τ).set i none)[j]? = some s := h
    rcases set_at h with ⟨rfl, e⟩ | ⟨n, e⟩
    · exact .inl e
    · rcases ih e with z | ⟨z1, z2⟩
      · exact .inl z
      · exact .inr ⟨by simp [n, z1], z2⟩
theorem wipeE_len {own : List Nat} {τ : Env} : (wipeE own τ).length = τ.length := by
  induction own with
  | nil => rfl
  | cons i own ih =>
    show ((wipeE own τ).set i none).length = _
    rw [List.length_set, ih]
theorem wipe_get {vs : List Nat} {σ : L2.St} {j : Nat} (h : j ∉ vs) : (wipe σ vs)[j]? = σ[j]? := by
  induction vs with
  | nil => rfl
  | cons i vs ih =>
    show ((wipe σ vs).set i none)[j]? = _
    rw [List.getElem?_set_ne (fun e => h (by simp [e])), ih (fun z => h (by simp [z]))]
theorem wipe_in {vs : List Nat} {σ : L2.St} {j : Nat} (h : j ∈ vs) (hl : j < σ.length) : (wipe σ vs)[j]? = some none := by
  induction vs with
  | nil => cases h
  | cons i vs ih =>
    show ((wipe σ vs).set i none)[j]? = _
    by_cases e : j = i
    · subst e
      exact List.getElem?_set_self (by rw [wipe_length]; exact hl)
    · rw [List.getElem?_set_ne (Ne.symm e)]
      rcases List.mem_cons.mp h with z | z
      · exact absurd z e
      · exact ih z
theorem wipe_eq {vs : List Nat} {σ σ' : L2.St} (hl : σ'.length = σ.length) (h : ∀ j, j ∉ vs → σ'[j]? = σ[j]?) : wipe σ' vs = wipe σ vs := by
  apply List.ext_getElem?
  intro j
  by_cases hj : j ∈ vs
  · by_cases hlt : j < σ.length
    · rw [wipe_in hj hlt, wipe_in hj (by rw [hl]; exact hlt)]
    · rw [List.getElem?_eq_none_iff.mpr, List.getElem?_eq_none_iff.mpr]
      · rw [wipe_length]; omega
      · rw [wipe_length, hl]; omega
  · rw [wipe_get hj, wipe_get hj, h j hj]
theorem SOk.wiped {σ : L2.St} {τ : Env} (S : SOk k F ι H σ τ M) (own : List Nat) : SOk k F ι H (wipe σ own) (wipeE own τ) M := by
  refine ⟨by rw [wipe_length, wipeE_len]; exact S.len, fun i s e => ?_, S.cs⟩
  rcases wipeE_get e with z | ⟨h1, h2⟩
  · cases z
  · rw [wipe_get h1]
    exact S.sl i s h2
end

section
variable {k : Kx} {Φ : Oracle} {W : WX} {σ : L2.St} {H : Hp} {cl : Bool}
/-- behind tests -/
def FinTs (k : Kx) (F : Addr → Prop) (ι : List Addr) (H : Hp) (σ : L2.St) (τ : Env) (r : R Bool) (Q : Bool → Hp → Prop) : Prop := match r with
  | .ok b M' => ∀ (ι' : List Addr) (H' : Hp), SOk k F ι' H' σ τ M' → Stp k ι H ι' H' → Q b H'
  | _ => False
def W0 : WX := fun _ _ _ _ => False
def tTs (k : Kx) (Φ : Oracle) (ifs : Cs) : TT := fun σ H Q => ∃ F ι τ M, SOk k F ι H σ τ M ∧ FinTs k F ι H σ τ (evT Φ ifs τ M) Q
def compF (Φ : Oracle) (own : List Nat) (elt : C) (g : Tg) (ifs : Cs) (τ : Env) (v : I) (M2 : Mem) : R (Option I) := match asgT g v (wipeE own τ) with
  | some τ2 => match evT Φ ifs τ2 M2 with
    | .ok true M3 => match evE Φ elt τ2 M3 with
      | .ok d M4 => .ok (some d) M4
      | _ => .no
    | .ok false M3 => .ok none M3
    | _ => .no
  | none => .no
theorem compL_eq (g : I → Mem → R (Option I)) (xs : List I) : ∀ (n i : Nat) (acc : List I) (M : Mem), n = xs.length - i → i ≤ xs.length → compL g (xs.drop i) acc M = compG (Src.vals xs).nth g (n + 1) i acc M
  | 0, i, acc, M, h, hi => by
    have e : i = xs.length := by omega
    subst e
    rw [List.drop_length]
    show R.ok acc M = match (some xs[xs.length]? : Option (Option I)) with
      | some none => R.ok acc M
      | some (some v) => _
      | none => .no
    rw [List.getElem?_eq_none (Nat.le_refl _)]
  | n + 1, i, acc, M, h, hi => by
    have hlt : i < xs.length := by omega
    have ih := compL_eq g xs n (i + 1)
    rw [List.drop_eq_getElem_cons hlt]
    have hn : (Src.vals xs).nth M i = some (some xs[i]) := by
      show some xs[i]? = _
      rw [List.getElem?_eq_getElem hlt]
    unfold compL
    unfold compG
    rw [hn]
    dsimp only
    cases e : g xs[i] M with
    | ok o M1 =>
      cases o with
      | none => exact ih _ _ (by omega) (by omega)
      | some d =>
        dsimp only
        rw [ih _ _ (by omega) (by omega)]
    | ex c M1 => rfl
    | no => rfl
theorem comp_imp {own : List Nat} {elt : C} {g : Tg} {it : It} {ifs : Cs} {Q : VK} (hg : ∀ j, g.has j → j ∈ own) (h : tE k Φ W (mkC cl (.comp own elt g it ifs)) σ H Q) : tLc (tI k Φ W it) (gTg k.K g) (tTs k Φ ifs) (tE k Φ W0 elt) own σ H Q := by
  obtain ⟨F, ι0, τ, M0, S0, f⟩ := h
  -- what is to be shown once the list is made
  let fin : List I → Mem → Prop := fun res Mf => ∀ ι' H' D accV, SOk k (fun a => F a ∨ a = D) ι' H' σ τ Mf → Stp k ι0 H ι' H' → H D = none → H' D = some (.lst accV) → D ∉ ι' → IsIs k (fun a => F a ∨ a = D) ι' H' accV res → Q (.ref D) H'
  have nF : ∀ D, H D = none → ¬ F D := fun D hn z => S0.cs.fd D z hn
  have close : ∀ res Mf, (match cl with
      | false => Fin k F ι0 H σ τ W (.ok (.lst res) Mf) Q
      | true => Fin k F ι0 H σ τ W (.ok (.obj Mf.length) (Mf ++ [.lst res])) Q) → fin res Mf := fun res Mf f ι' H' D accV S st hn hD nD is => by
    cases cl with
    | false =>
      have S' : SOk k F ι' H' σ τ Mf := S.re (fun a _ r => ⟨r.1, fun z => r.2 (.inl z)⟩) fun a z => S.cs.fd a (.inl z)
      exact f (.ref D) ι' H' S' st (.lst hD ⟨nD, nF D hn⟩ (is.F fun a _ z => .inl z))
    | true =>
      have hFr : ∀ a, H' a ≠ none → Fr (fun a => F a ∨ a = D) ι' a → Fr F (ι' ++ [D]) a := fun a _ r => ⟨fun z => (List.mem_append.mp z).elim r.1 fun z => r.2 (.inr (List.mem_singleton.mp z)), fun z => r.2 (.inl z)⟩
      have hS : ∀ a o xs, H' a = some (.frz o (.lst xs)) → a ∉ ι' → a ∉ ι' ++ [D] := fun a o xs h n z => (List.mem_append.mp z).elim n fun z => by
        rw [List.mem_singleton.mp z, hD] at h; cases h
      have hι : ∀ n a, ι'[n]? = some a → (ι' ++ [D])[n]? = some a := fun n a h => get_prefix (List.prefix_append _ _) h
      have S' : SOk k F (ι' ++ [D]) H' σ τ (Mf ++ [.lst res]) := by
        refine ⟨S.len, fun i x e => by obtain ⟨v, e1, h⟩ := S.sl i x e; exact ⟨v, e1, h.re hFr hS hι⟩, by rw [List.length_append, List.length_append, S.cs.li]; rfl, List.nodup_append.mpr ⟨S.cs.nd, by simp, fun a ha b hb e => ?_⟩, fun a z => S.cs.fd a (.inl z), fun n c a h1 h2 => ?_⟩
        · rw [List.mem_singleton.mp hb] at e
          exact nD (by rw [← e]; exact ha)
        · by_cases hl : n < Mf.length
          · rw [List.getElem?_append_left hl] at h1
            rw [List.getElem?_append_left (by rw [S.cs.li]; exact hl)] at h2
            exact (S.cs.ce n c a h1 h2).re hFr hS hι
          · have e : n = Mf.length := by
              have := (List.getElem?_eq_some_iff.mp h1).1
              rw [List.length_append] at this
              have e1 : [Cell.lst res].length = 1 := rfl
              omega
            subst e
            rw [List.getElem?_append_right (Nat.le_refl _), Nat.sub_self] at h1
            rw [List.getElem?_append_right (by rw [S.cs.li]; exact Nat.le_refl _), S.cs.li, Nat.sub_self] at h2
            cases h1; cases h2
            exact ⟨accV, hD, is.re hFr hS hι⟩
      have st' : Stp k ι0 H (ι' ++ [D]) H' := ⟨st.ip.trans (List.prefix_append _ _), st.kp, st.tp, st.tt, st.ow, st.dm, fun a m => (List.mem_append.mp m).elim (st.nw a) fun z => .inr (by rw [List.mem_singleton.mp z]; exact hn)⟩
      refine f (.ref D) _ H' S' st' (.obj ?_)
      rw [← S.cs.li]; simp
  -- the evaluator
  have ev : ∃ r : R Src, r = evIt Φ it τ M0 ∧ match r with
      | .ok src M1 => ∃ w res Mf, compG src.nth (compF Φ own elt g ifs τ) w 0 [] M1 = .ok res Mf ∧ fin res Mf
      | .ex c M1 => ∀ (ι' : List Addr) (H' : Hp), SOk k F ι' H' σ τ M1 → Stp k ι0 H ι' H' → W (.ref (k.xc c)) none σ H'
      | .no => False := by
    refine ⟨_, rfl, ?_⟩
    have key : ∀ {r : R (List I)}, (match cl with
        | false => Fin k F ι0 H σ τ W (r.bind fun r M2 => .ok (.lst r) M2) Q
        | true => Fin k F ι0 H σ τ W ((r.bind fun r M2 => .ok (.lst r) M2).bind fun v M1 => match toCell v with
          | some cc => .ok (.obj M1.length) (M1 ++ [cc])
          | none => .no) Q) → (∀ c M, r ≠ .ex c M) → ∃ res Mf, r = .ok res Mf ∧ fin res Mf := fun {r} f ne => by
      cases r with
      | ok res Mf => exact ⟨res, Mf, rfl, close res Mf (by cases cl <;> exact f)⟩
      | ex c M => exact absurd rfl (ne c M)
      | no => cases cl <;> exact f.elim
    have nex : ∀ nth (w i : Nat) acc M c M', compG nth (compF Φ own elt g ifs τ) w i acc M ≠ .ex c M' := by
      intro nth w
      induction w with
      | zero => intro i acc M c M' z; cases z
      | succ w ih =>
        intro i acc M c M' z
        unfold compG at z
        split at z
        · cases z
        · split at z
          · split at z
            · exact ih _ _ _ _ _ z
            · cases z
          · exact ih _ _ _ _ _ z
          · cases z
        · cases z
    cases e : evIt Φ it τ M0 with
    | no =>
      cases cl with
      | false =>
        have f : Fin k F ι0 H σ τ W (evE Φ (.comp own elt g it ifs) τ M0) Q := f
        unfold evE at f; rw [e] at f; exact f.elim
      | true =>
        have f : Fin k F ι0 H σ τ W (evE Φ (.cell (.comp own elt g it ifs)) τ M0) Q := f
        unfold evE at f; unfold evE at f; rw [e] at f; exact f.elim
    | ex c M1 =>
      cases cl with
      | false =>
        have f : Fin k F ι0 H σ τ W (evE Φ (.comp own elt g it ifs) τ M0) Q := f
        unfold evE at f; rw [e] at f; exact f
      | true =>
        have f : Fin k F ι0 H σ τ W (evE Φ (.cell (.comp own elt g it ifs)) τ M0) Q := f
        unfold evE at f; unfold evE at f; rw [e] at f; exact f
    | ok src M1 =>
      cases src with
      | vals xs =>
        have eL := compL_eq (compF Φ own elt g ifs τ) xs xs.length 0 [] M1 rfl (Nat.zero_le _)
        rw [List.drop_zero] at eL
        have : ∃ res Mf, compL (compF Φ own elt g ifs τ) xs [] M1 = .ok res Mf ∧ fin res Mf := by
          refine key ?_ fun c M z => nex (Src.vals xs).nth _ _ _ _ _ _ (eL ▸ z)
          cases cl with
          | false =>
            have f : Fin k F ι0 H σ τ W (evE Φ (.comp own elt g it ifs) τ M0) Q := f
            unfold evE at f; rw [e] at f; exact f
          | true =>
            have f : Fin k F ι0 H σ τ W (evE Φ (.cell (.comp own elt g it ifs)) τ M0) Q := f
            unfold evE at f; unfold evE at f; rw [e] at f; exact f
        obtain ⟨res, Mf, e1, hf⟩ := this
        exact ⟨_, res, Mf, eL ▸ e1, hf⟩
      | cell n =>
        have : ∃ res Mf, compG (cellItem · n) (compF Φ own elt g ifs τ) 1000000 0 [] M1 = .ok res Mf ∧ fin res Mf := by
          refine key ?_ fun c M z => nex _ _ _ _ _ _ _ z
          cases cl with
          | false =>
            have f : Fin k F ι0 H σ τ W (evE Φ (.comp own elt g it ifs) τ M0) Q := f
            unfold evE at f; rw [e] at f; exact f
          | true =>
            have f : Fin k F ι0 H σ τ W (evE Φ (.cell (.comp own elt g it ifs)) τ M0) Q := f
            unfold evE at f; unfold evE at f; rw [e] at f; exact f
        obtain ⟨res, Mf, e1, hf⟩ := this
        exact ⟨_, res, Mf, e1, hf⟩
  obtain ⟨r, er, ev⟩ := ev
  refine ⟨F, ι0, τ, M0, S0, ?_⟩
  rw [← er]
  cases r with
  | no => exact ev.elim
  | ex c M1 => exact ev
  | ok src M1 =>
    obtain ⟨w, res, Mf, ec, hfin⟩ := ev
    intro J Pp ι1 H1 S1 P1 wk hp Da hD
    have hD0 : H Da = none := P1.dm Da hD
    let F' : Addr → Prop := fun a => F a ∨ a = Da
    let Inv : Nat → Nat → Hp → Prop := fun i w Hc => ∃ ι M acc accV, SOk k F' ι Hc σ τ M ∧ Stp k ι0 H ι Hc ∧ compG src.nth (compF Φ own elt g ifs τ) w i acc M = .ok res Mf ∧
        Hc Da = some (.lst accV) ∧ IsIs k F' ι Hc accV acc ∧ Da ∉ ι ∧ Pp F' ι Hc
    refine ⟨Inv, ⟨w, ?_⟩, fun i w Hc hW => ?_⟩
    · have st : Stp k ι1 H1 ι1 (upd H1 Da (.lst [])) := .new hD
      have nD : Da ∉ ι1 := fun z => S1.cs.dom z hD
      refine ⟨ι1, M1, [], [], ?_, P1.trans st, ec, upd_same, .nil, nD, wk.stay _ _ _ _ _ st (wk.mono F F' ι1 H1 (fun a ha z => z.elim id fun z => absurd (by rw [z]; exact hD) ha) hp)⟩
      have S1' : SOk k F ι1 (upd H1 Da (.lst [])) σ τ M1 := S1.next st (S1.cs.new hD)
      -- values stand elsewhere
      have e1 : SOk k F' ι1 H1 σ τ M1 → SOk k F' ι1 (upd H1 Da (.lst [])) σ τ M1 := fun S => S.next st (S.cs.new hD)
      refine ⟨S1.len, fun i x e => ?_, S1.cs.li, S1.cs.nd, fun a z => ?_, fun n c a h1 h2 => ?_⟩
      · obtain ⟨v, q1, q2⟩ := S1.sl i x e
        exact ⟨v, q1, (q2.re (F' := F') (fun a ha r => ⟨r.1, fun z => z.elim r.2 fun z => ha (by rw [z]; exact hD)⟩) (fun _ _ _ _ z => z) fun _ _ z => z).go st⟩
      · rcases z with z | z
        · exact S1'.cs.fd a z
        · rw [z, upd_same]; exact fun z => nomatch z
      · exact ((S1.cs.ce n c a h1 h2).re (F' := F') (fun a ha r => ⟨r.1, fun z => z.elim r.2 fun z => ha (by rw [z]; exact hD)⟩) (fun _ _ _ _ z => z) fun _ _ z => z).go st (upd_ne fun z => nD (by rw [← z]; exact List.mem_iff_getElem?.mpr ⟨n, h2⟩))
    · obtain ⟨ι, M, acc, accV, S, P, ec, hDa, is, nD, hp⟩ := hW
      cases w with
      | zero => cases ec
      | succ w =>
        unfold compG at ec
        split at ec
        · rename_i en
          cases ec
          exact .inl ⟨wk.stop F' i ι Hc _ S.cs hp en, hfin ι Hc Da accV S P hD0 hDa nD is⟩
        · rename_i v en
          refine .inr ⟨wk.go F' i ι Hc M v S.cs hp en, fun H' => Inv (i + 1) w H', fun H' hN => ⟨w, Nat.lt_succ_self _, hN⟩, fun x H2 hy => ?_⟩
          obtain ⟨hH, iv⟩ := wk.yld F' i v ι Hc M x H2 S.cs hp en hy
          have st2 : Stp k ι Hc ι H2 ∧ SOk k F' ι H2 σ τ M ∧ H2 Da = some (.lst accV) := by
            rcases hH with rfl | ⟨T, ts, hT, rfl⟩
            · exact ⟨.refl, S, hDa⟩
            · exact ⟨.new hT, S.next (.new hT) (S.cs.new hT), upd_some hDa hT⟩
          obtain ⟨st2, S2, hD2⟩ := st2
          cases eg : compF Φ own elt g ifs τ v M with
          | no => rw [eg] at ec; cases ec
          | ex c M3 => rw [eg] at ec; cases ec
          | ok o M3 =>
            rw [eg] at ec
            unfold compF at eg
            cases ea : asgT g v (wipeE own τ) with
            | none => rw [ea] at eg; cases eg
            | some τ2 =>
              rw [ea] at eg
              dsimp only at eg
              refine asgT_ok g (S2.wiped own) ea iv fun σ2 S3 l3 o3 => ⟨?_, ?_⟩
              · refine wipe_eq (by rw [l3, wipe_length]) fun j hj => ?_
                rw [o3 j fun z => hj (hg j z), wipe_get hj]
              · -- the slots of the surroundings go on
                have step : ∀ ι3 H3 M4, CsOk k F' ι3 H3 M4 → Stp k ι H2 ι3 H3 → SOk k F' ι3 H3 σ τ M4 ∧ Stp k ι0 H ι3 H3 ∧ H3 Da = some (.lst accV) ∧ IsIs k F' ι3 H3 accV acc ∧ Da ∉ ι3 ∧ Pp F' ι3 H3 := fun ι3 H3 M4 C3 s3 => by
                  refine ⟨S2.next s3 C3, (P.trans st2).trans s3, s3.kp _ _ hD2 nD, (is.go st2).go s3, fun z => ?_, wk.stay _ _ _ _ _ s3 (wk.stay _ _ _ _ _ st2 hp)⟩
                  rcases s3.nw _ z with z | z
                  · exact nD z
                  · rw [hD2] at z; cases z
                refine ⟨F', ι, τ2, M, S3, ?_⟩
                cases et : evT Φ ifs τ2 M with
                | no => rw [et] at eg; cases eg
                | ex c M4 => rw [et] at eg; cases eg
                | ok b M4 =>
                  rw [et] at eg
                  refine fun ι3 H3 S4 s4 => ?_
                  cases b with
                  | false =>
                    rw [if_neg Bool.false_ne_true]
                    cases eg
                    obtain ⟨a1, a2, a3, a4, a5, a6⟩ := step ι3 H3 _ S4.cs s4
                    exact ⟨ι3, _, acc, accV, a1, a2, ec, a3, a4, a5, a6⟩
                  | true =>
                    rw [if_pos rfl]
                    dsimp only at eg
                    refine ⟨F', ι3, τ2, M4, S4, ?_⟩
                    cases ee : evE Φ elt τ2 M4 with
                    | no => rw [ee] at eg; cases eg
                    | ex c M5 => rw [ee] at eg; cases eg
                    | ok d M5 =>
                      rw [ee] at eg
                      cases eg
                      dsimp only at ec
                      refine fun y ι4 H4 S5 s5 iy => ?_
                      split at ec
                      · rename_i hz
                        obtain ⟨a1, a2, a3, a4, a5, a6⟩ := step ι4 H4 _ S5.cs (s4.trans s5)
                        have fD : F' Da := .inr rfl
                        refine ⟨accV, a3, by rw [a4.length]; exact hz, ι4, _, acc ++ [d], accV ++ [y], a1.far a3 fD a5, a2.far hD0 a3, ec, upd_same, (a4.far a3 fD).append (.cons (iy.far a3 fD) .nil), a5, ?_⟩
                        exact wk.far F' ι4 H4 Da accV (accV ++ [y]) a3 fD a6
                      · cases ec
        · cases ec
end
end Rs

/-! second layer, part k: every expression of the language is read in the text -/
namespace Rs
open PySem PySem.Spec PyProof.Rows L2
section
variable {k : Kx} {Φ : Oracle} {W : WX} {σ : L2.St} {H : Hp} {Q : VK} {F : Addr → Prop} {ι : List Addr} {τ : Env} {M : Mem}
/-! ### methods that write -/
/-- a list's cell is written -/
theorem put_lst {n : Nat} {xs ys : List I} {a : Addr} {vs us : List V} (S : SOk k F ι H σ τ M) (em : M[n]? = some (.lst xs)) (ea : ι[n]? = some a) (ha : H a = some (.lst vs)) (hy : IsIs k F ι H us ys) :
    SOk k F ι (upd H a (.lst us)) σ τ (M.set n (.lst ys)) ∧ Stp k ι H ι (upd H a (.lst us)) := by
  have st : Stp k ι H ι (upd H a (.lst us)) := .put ha trivial (List.mem_iff_getElem?.mpr ⟨n, ea⟩)
  exact ⟨S.next st (S.cs.put em ea ha trivial ⟨us, upd_same, hy.go st⟩), st⟩
theorem cell_at {n : Nat} {x : V} {xs : List I} (S : SOk k F ι H σ τ M) (h : IsI k F ι H x (.obj n)) (em : M[n]? = some (.lst xs)) : ∃ a vs, x = .ref a ∧ ι[n]? = some a ∧ H a = some (.lst vs) ∧ IsIs k F ι H vs xs := by
  cases h with
  | obj h =>
    obtain ⟨vs, h1, h2⟩ := S.cs.ce n _ _ em h
    exact ⟨_, vs, rfl, h, h1, h2⟩
theorem app_imp {o a : C} (h : tE k Φ W (.app o a) σ H Q) : tBM k.K "list" rAppend (tE k Φ W o) (tA k Φ W (.cons a .nil)) σ H Q := by
  obtain ⟨F, ι, τ, M, S, f⟩ := h
  unfold evE at f
  refine ⟨F, ι, τ, M, S, f.bind fun v M1 x ι1 H1 S1 s1 i1 f1 => ?_⟩
  split at f1
  · rename_i n
    split at f1
    · rename_i xs em
      obtain ⟨p, vs, rfl, ea, ha, hx⟩ := cell_at S1 i1 em
      refine ⟨.inl ⟨rfl, _, lst_sq ha⟩, F, ι1, τ, M1, S1, ?_⟩
      have f2 : Fin k F ι1 H1 σ τ W ((evE Φ a τ M1).bind _) Q := f1
      have f3 := f2.bind (Q' := fun y H2 => rAppend (.ref p) [y] H2 Q) fun d M2 y ι2 H2 S2 s2 i2 f2 => ?_
      · have e : evEs Φ (.cons a .nil) τ M1 = (evE Φ a τ M1).bind fun v M1 => .ok [v] M1 := by
          conv => lhs; unfold evEs
          rfl
        rw [e]
        cases er : evE Φ a τ M1 with
        | no => rw [er] at f3; exact f3
        | ex _ _ => rw [er] at f3; exact f3
        | ok d M2 =>
          rw [er] at f3
          intro ys ι2 H2 S2 s2 i2
          cases i2 with
          | cons i2 t => cases t; exact f3 _ ι2 H2 S2 s2 i2
      · split at f2
        · rename_i ys em2
          obtain ⟨p', us, e, ea2, ha2, hy⟩ := cell_at S2 (.obj (get_prefix s2.ip ea)) em2
          cases e
          split at f2
          · rename_i hz
            obtain ⟨S3, s3⟩ := put_lst S2 em2 ea2 ha2 (hy.append (.cons i2 .nil))
            exact ⟨p, us, y, rfl, rfl, ha2, by rw [hy.length]; exact hz, f2 .non ι2 _ S3 s3 .non⟩
          · exact f2.elim
        · exact f2.elim
    · exact f1.elim
  · exact f1.elim
theorem ext_imp {o a : C} (h : tE k Φ W (.ext o a) σ H Q) : tBM k.K "list" rExtend (tE k Φ W o) (tA k Φ W (.cons a .nil)) σ H Q := by
  obtain ⟨F, ι, τ, M, S, f⟩ := h
  unfold evE at f
  refine ⟨F, ι, τ, M, S, f.bind fun v M1 x ι1 H1 S1 s1 i1 f1 => ?_⟩
  split at f1
  · rename_i n
    split at f1
    · rename_i xs em
      obtain ⟨p, vs, rfl, ea, ha, hx⟩ := cell_at S1 i1 em
      refine ⟨.inl ⟨rfl, _, lst_sq ha⟩, F, ι1, τ, M1, S1, ?_⟩
      have f2 : Fin k F ι1 H1 σ τ W ((evE Φ a τ M1).bind _) Q := f1
      have f3 := f2.bind (Q' := fun y H2 => rExtend (.ref p) [y] H2 Q) fun d M2 y ι2 H2 S2 s2 i2 f2 => ?_
      · have e : evEs Φ (.cons a .nil) τ M1 = (evE Φ a τ M1).bind fun v M1 => .ok [v] M1 := by
          conv => lhs; unfold evEs
          rfl
        rw [e]
        cases er : evE Φ a τ M1 with
        | no => rw [er] at f3; exact f3
        | ex _ _ => rw [er] at f3; exact f3
        | ok d M2 =>
          rw [er] at f3
          intro ys ι2 H2 S2 s2 i2
          cases i2 with
          | cons i2 t => cases t; exact f3 _ ι2 H2 S2 s2 i2
      · split at f2
        · rename_i ys em2
          obtain ⟨p', us, e, ea2, ha2, hy⟩ := cell_at S2 (.obj (get_prefix s2.ip ea)) em2
          cases e
          split at f2
          · rename_i zs ez
            split at f2
            · rename_i hz
              have iz := sh_ok S2.cs i2
              rw [ez] at iz
              obtain ⟨b, ws, rfl, hb, hw⟩ := isS_lst iz
              obtain ⟨S3, s3⟩ := put_lst S2 em2 ea2 ha2 (hy.append hw)
              exact ⟨p, b, us, ws, rfl, rfl, ha2, hb, by rw [hy.length, hw.length]; exact hz, f2 .non ι2 _ S3 s3 .non⟩
            · exact f2.elim
          · exact f2.elim
        · exact f2.elim
    · exact f1.elim
  · exact f1.elim
theorem pop_imp {o : C} (h : tE k Φ W (.pop o) σ H Q) : tBM0 k.K "list" rPop (tE k Φ W o) σ H Q := by
  obtain ⟨F, ι, τ, M, S, f⟩ := h
  unfold evE at f
  refine ⟨F, ι, τ, M, S, f.bind fun v M1 x ι1 H1 S1 s1 i1 f1 => ?_⟩
  split at f1
  · rename_i n
    split at f1
    · rename_i xs em
      obtain ⟨p, vs, rfl, ea, ha, hx⟩ := cell_at S1 i1 em
      split at f1
      · rename_i d ed
        have e2 : xs[xs.length - 1]? = some d := by rw [← List.getLast?_eq_getElem?]; exact ed
        obtain ⟨y, h1, h2⟩ := hx.get e2
        obtain ⟨S3, s3⟩ := put_lst S1 em ea ha hx.dropLast
        exact ⟨.inl ⟨rfl, _, lst_sq ha⟩, p, vs, y, rfl, rfl, ha, by rw [hx.length]; exact h1, f1 y ι1 _ S3 s3 (h2.go s3)⟩
      · exact f1.elim
    · exact f1.elim
  · exact f1.elim
/-! ### chains -/
variable {X : Cx} {Γ : Ctx}
def rAft (k : Kx) (o : Op) : R2 := fun x y H Q => ∃ F ι M vx vy v, CsOk k F ι H M ∧ IsI k F ι H x vx ∧ IsI k F ι H y vy ∧ opM o M [vx, vy] = some v ∧ CN k F ι H v false Q
theorem aft_of {o : Op} {x y : V} (h : rAft k o x y H Q) : Aft k false o Q [x, y] H := by
  obtain ⟨F, ι, M, vx, vy, v, C, i1, i2, e, c⟩ := h
  exact ⟨F, ι, M, [vx, vy], v, C, .cons i1 (.cons i2 .nil), e, c⟩
theorem link_rule (O : XOk k Γ Φ W X) {o : Op} {c : CmpOp} (h : link o = some c) : OpR X (compareOp c) (rAft k o) := by
  obtain ⟨K0, c1, c2⟩ := k
  obtain rfl : K0 = X.K := O.K
  have hu := O.hu
  unfold link at h
  split at h <;> cases h
  · intro pins s σ H x y v u Q I rx ry h; exact op_lt2 (by have := O.hu; omega) pins s σ H x y v u Q I rx ry (ru_lt (aft_of h))
  · intro pins s σ H x y v u Q I rx ry h; exact op_le pins s σ H x y v u Q I rx ry (ru_cmp (op := .le) rfl (fun _ _ _ e => e) (aft_of h))
  · intro pins s σ H x y v u Q I rx ry h; exact op_eqD (by omega) pins s σ H x y v u Q I rx ry (ru_eq (aft_of h))
theorem lt_bool {a b w : I} (e : ltD a b = some w) : ∃ r, w = .bl r := by
  unfold ltD at e
  split at e
  · split at e
    · cases e; exact ⟨_, rfl⟩
    · cases e
  · unfold cmpI at e
    split at e
    · cases e; exact ⟨_, rfl⟩
    · obtain ⟨r, _, rfl⟩ := map_some e; exact ⟨_, rfl⟩
    · cases e
theorem link_bool {o : Op} {c : CmpOp} (h : link o = some c) {M : Mem} {vs : List I} {v : I} (e : opM o M vs = some v) : ∃ b, v = .bl b := by
  unfold opM at e
  obtain ⟨us, _, e⟩ := Option.bind_eq_some_iff.mp e
  unfold link at h
  split at h <;> cases h
  · match us, e with
    | [a, b], e =>
      exact lt_bool (show ltD a b = some v from e)
  · match us, e with
    | [a, b], e =>
      have e : cmpI (fun i j => decide (i ≤ j)) (fun _ _ => none) a b = some v := e
      unfold cmpI at e
      split at e
      · cases e; exact ⟨_, rfl⟩
      · cases e
      · cases e
  · match us, e with
    | [a, b], e =>
      obtain ⟨r, _, rfl⟩ := map_some (show (eqD a b).map I.bl = some v from e)
      exact ⟨_, rfl⟩
theorem chain_imp {o p : Op} {a b c : C} {o' : CmpOp} (ho : link o = some o') (h : tE k Φ W (.chain o p a b c) σ H Q) : tChain (rAft k o) (rAft k p) (tE k Φ W a) (tE k Φ W b) (tE k Φ W c) σ H Q := by
  obtain ⟨F, ι, τ, M, S, f⟩ := h
  unfold evE at f
  refine ⟨F, ι, τ, M, S, f.bind fun v M1 x ι1 H1 S1 s1 i1 f1 => ⟨F, ι1, τ, M1, S1, f1.bind fun u M2 y ι2 H2 S2 s2 i2 f2 => ?_⟩⟩
  cases e : opM o M2 [v, u] with
  | none => rw [e] at f2; exact f2.elim
  | some r =>
    obtain ⟨d, rfl⟩ := link_bool ho e
    rw [e] at f2
    have i1' := i1.go s2
    refine ⟨F, ι2, M2, v, u, _, S2.cs, i1', i2, e, ⟨fun _ z hz => ?_, (fun _ z => nomatch z), (fun _ z => nomatch z), (fun _ _ z => nomatch z), (fun _ _ z => nomatch z)⟩⟩
    cases hz
    cases d with
    | false => exact ⟨false, rfl, iteF (f2 (.bl false) ι2 H2 S2 .refl (.bl _))⟩
    | true =>
      refine ⟨true, rfl, iteT ⟨F, ι2, τ, M2, S2, f2.bind fun w M3 z ι3 H3 S3 s3 i3 f3 => ?_⟩⟩
      cases e3 : opM p M3 [u, w] with
      | none => rw [e3] at f3; exact f3.elim
      | some r => rw [e3] at f3; exact ⟨F, ι3, M3, u, w, r, S3.cs, i2.go s3, i3, e3, Fin.cn S3 f3⟩
theorem chain_bool {o p : Op} {a b c : C} {p' : CmpOp} (hp : link p = some p') {v : I} {M' : Mem} (e : evE Φ (.chain o p a b c) τ M = .ok v M') : ∃ b, v = .bl b := by
  unfold evE at e
  cases e1 : evE Φ a τ M with
  | no => rw [e1] at e; cases e
  | ex _ _ => rw [e1] at e; cases e
  | ok x M1 =>
    rw [e1] at e
    have e : ((evE Φ b τ M1).bind fun y M2 => match opM o M2 [x, y] with
      | some (.bl true) => (evE Φ c τ M2).bind fun z M3 => .of (opM p M3 [y, z]) M3
      | some (.bl false) => .ok (.bl false) M2
      | _ => .no) = .ok v M' := e
    cases e2 : evE Φ b τ M1 with
    | no => rw [e2] at e; cases e
    | ex _ _ => rw [e2] at e; cases e
    | ok y M2 =>
      rw [e2] at e
      dsimp only [R.bind] at e
      split at e
      · cases e3 : evE Φ c τ M2 with
        | no => rw [e3] at e; cases e
        | ex _ _ => rw [e3] at e; cases e
        | ok z M3 =>
          rw [e3] at e
          have e : R.of (opM p M3 [y, z]) M3 = .ok v M' := e
          cases e4 : opM p M3 [y, z] with
          | none => rw [e4] at e; cases e
          | some r => rw [e4] at e; cases e; exact link_bool hp e4
      · cases e; exact ⟨_, rfl⟩
      · cases e
end

theorem pt_ife {X : Cx} {c a b : Expr} {pos : Pos} {t u v : TT} (hc : PT X c t) (ha : PT X a u) (hb : PT X b v) : PT X (.IfExp c a b pos) (tIfT t u v) := by
  refine ⟨fun pins s σ H Q I h => ?_⟩
  refine isTrue_IfExp (thn (hc.run pins s σ H _ I h) fun d s1 ⟨H1, I1, q1⟩ => ?_)
  cases d with
  | true => exact ha.run pins s1 σ H1 Q I1 q1
  | false => exact hb.run pins s1 σ H1 Q I1 q1
theorem pw_of {X : Cx} {op : BoolOp} {es : List Expr} {pos : Pos} {t : TT} (h : PT X (.BoolOp op es pos) t) : PW X (.BoolOp op es pos) t := ⟨fun _ pins s σ H Q I q => h.run pins s σ H Q I q⟩
section
variable {Γ : Ctx} {Φ : Oracle} {k : Kx} {W : WX}
theorem XOk.blk {X : Cx} (O : XOk k Γ Φ W X) (s : Shared) (H : Hp) (scope : Scope) (env : PySem.Env) (fp : List Addr) : XOk k Γ Φ W0 (X.blk s H scope env fp) :=
  ⟨O.K, O.N, O.nd, O.calm, takes0, PassesOwn.never, O.hu, O.blt, O.glb, O.call⟩
theorem relS_eq {X : Cx} {sc scope : Scope} (hs : X.env.scope = sc) (C : Addr) (cl : List (Str × Addr)) : (compEnvC scope cl C X.env).scope = relS sc scope := by
  subst hs; rfl
mutual
theorem same_eq : ∀ (a b : I), I.same a b = true → a = b
  | .non, b, h => by cases b <;> first | rfl | cases h
  | .bl x, b, h => by cases b <;> first | (cases h; done) | (rw [of_decide_eq_true (show decide (x = _) = true from h)])
  | .int x, b, h => by cases b <;> first | (cases h; done) | (rw [of_decide_eq_true (show decide (x = _) = true from h)])
  | .str x, b, h => by cases b <;> first | (cases h; done) | (rw [of_decide_eq_true (show decide (x = _) = true from h)])
  | .scr x, b, h => by cases b <;> first | (cases h; done) | (rw [of_decide_eq_true (show decide (x = _) = true from h)])
  | .obj x, b, h => by cases b <;> first | (cases h; done) | (rw [of_decide_eq_true (show decide (x = _) = true from h)])
  | .tup x, b, h => by cases b <;> first | (cases h; done) | (rw [sames_eq x _ (show I.sames x _ = true from h)])
  | .wtp x, b, h => by cases b <;> first | (cases h; done) | (rw [sames_eq x _ (show I.sames x _ = true from h)])
  | .lst x, b, h => by cases b <;> first | (cases h; done) | (rw [sames_eq x _ (show I.sames x _ = true from h)])
  | .dic j x, b, h => by
    cases b <;> first | (cases h; done) | skip
    rename_i l y
    have h : (decide (j = l) && I.sames x y) = true := h
    rw [Bool.and_eq_true] at h
    rw [of_decide_eq_true h.1, sames_eq x y h.2]
  | .dit j x, b, h => by
    cases b <;> first | (cases h; done) | skip
    rename_i l y
    have h : (decide (j = l) && I.sames x y) = true := h
    rw [Bool.and_eq_true] at h
    rw [of_decide_eq_true h.1, sames_eq x y h.2]
theorem sames_eq : ∀ (a b : List I), I.sames a b = true → a = b
  | [], b, h => by cases b <;> first | rfl | cases h
  | x :: xs, b, h => by
    cases b with
    | nil => cases h
    | cons y ys =>
      have h : (I.same x y && I.sames xs ys) = true := h
      rw [Bool.and_eq_true] at h
      rw [same_eq x y h.1, sames_eq xs ys h.2]
end
theorem cnt_pe {X : Cx} {x : I} {c : Const} {j : Nat} {pos : Pos} (h : cnt x c = true) : PE X (.Constant c j pos) (tE k Φ W (.const x)) := by
  have one : ∀ {v : V}, (∀ F H ι, IsI k F ι H v x) → ∀ σ H Q, tE k Φ W (.const x) σ H Q → Q v H := fun hv σ H Q q => by
    obtain ⟨F, ι, τ, M, S, f⟩ := q
    exact f _ ι H S .refl (hv F H ι)
  unfold cnt at h
  split at h
  · exact PE.imp pe_non (one fun _ _ _ => .non)
  · rw [← of_decide_eq_true h]; exact PE.imp pe_bl (one fun _ _ _ => .bl _)
  · rw [← of_decide_eq_true h]; exact PE.imp pe_int (one fun _ _ _ => .int _)
  · rw [← of_decide_eq_true h]; exact PE.imp pe_str (one fun _ _ _ => .str _)
  · cases h
theorem var_pe {X : Cx} {i : Nat} {x : Str} {pos : Pos} (hN : X.N[i]? = some x) (hv : Vis X.env.scope x) (hp : plainN x = true) : PE X (.Name x pos) (tE k Φ W (.var i)) := by
  unfold plainN at hp
  simp only [Bool.and_eq_true, Bool.not_eq_true', decide_eq_false_iff_not] at hp
  refine PE.imp (pe_var hN hv hp.1.1 hp.1.2) fun σ H Q q => ?_
  obtain ⟨F, ι, τ, M, S, f⟩ := q
  unfold evE at f
  split at f
  · rename_i d e
    obtain ⟨w, e2, h⟩ := S.sl i _ e
    exact ⟨w, e2, f w ι H S .refl h⟩
  · exact f.elim
theorem call_pe {X : Cx} (O : XOk k Γ Φ W X) (hΦ : ∀ f x ps vs M, Γ.fns[f]? = some (x, ps) → Φ f vs M ≠ .no → vs.length = ps.length) {f : Nat} {x : Str} {ps : List Str} {p pos : Pos} {e : Expr} {es : List Expr} {as : Cs} (hf : Γ.fns[f]? = some (x, ps)) (hg : Gl X x) (hd : (x == ("__debug__" : Str)) = false) (P : PEs k X W Φ (e :: es) as) (hn : ∀ a ∈ e :: es, Nice a) :
    PE X (.Call (.Name x p) (e :: es) [] pos) (tE k Φ W (.call f as)) := by
  obtain ⟨a, fd, j, F, hr, hm, hk, hb, _⟩ := O.call f x ps hf
  exact PE.imp (pe_callS F hr hg hm hk hb (passAt O.tk) P.pa hd ((hn e List.mem_cons_self).starEach es X.env) (any_back fun e m => hn e (List.mem_cons_of_mem _ m))) fun σ H Q q => call_imp q fun vs M e => hΦ f x ps vs M hf e
theorem PK.imp {X : Cx} {kws : List Keyword} {t t' : TA} (h : PK X kws t) (i : ∀ σ H Q, t' σ H Q → t σ H Q) : PK X kws t' := ⟨fun pos pins s σ H Q I q => h.run pos pins s σ H Q I (i σ H Q q)⟩
theorem pk_of {X : Cx} : ∀ {kws : List Keyword} {cs : Cs}, PEs k X W Φ (kws.map (·.value)) cs → PK X kws (tA k Φ W cs)
  | [], _, h => by
    cases h
    exact PK.imp pk_nil fun σ H Q q => tA_nil q
  | ⟨nm, e, kp⟩ :: kws, _, h => by
    cases h with
    | cons h1 hs t => exact PK.imp (pk_cons h1 (pk_of t)) fun σ H Q q => tA_cons q
theorem kw_all {pos : Pos} {env : PySem.Env} : ∀ {kws : List Keyword} {ks : List Str}, kwNames kws = some ks → (backToKw pos (keywordEach kws env)).all (·.1.isSome) = true ∧ (backToKw pos (keywordEach kws env)).filterMap (·.1) = ks ∧ (backToKw pos (keywordEach kws env)).any (·.1.isNone) = false
  | [], ks, h => by cases h; exact ⟨rfl, rfl, rfl⟩
  | ⟨nm, e, kp⟩ :: kws, ks, h => by
    cases nm with
    | none => cases h
    | some n =>
      have h : (kwNames kws).map (n :: ·) = some ks := h
      cases e1 : kwNames kws with
      | none => rw [e1] at h; cases h
      | some r =>
        rw [e1] at h
        cases h
        obtain ⟨q1, q2, q3⟩ := kw_all (pos := pos) (env := env) e1
        exact ⟨q1, congrArg (n :: ·) q2, q3⟩
theorem run_fnkS {X : Cx} {CX : CXT} {j : Nat} {f : Addr} {fd : FuncData} {ps ks : List Str} {sp : Sp} {g : List Value → List Value → List Value} {gV : List V → List V → List V} {E : XK} {pins : List (Addr × Obj)} {σ : L2.St} {H : Hp} {s : Shared} {Q : VK} {us ws : List Value} {vs zs : List V} (F : FnOk X.prog X.w X.K X.mg X.base CX j f fd ps sp) (hr : Room j X.A) (hb : KBinds X.K fd ps ks g gV) (hx : PassesAt CX X σ E)
    (I : Inv X pins σ H s) (r : Vals vs us) (rz : Vals zs ws) (h : sp (gV vs zs) H Q E) : wpAny (model X.prog X.w) X.A (call (.ref f) us (ks.zip ws)) (EP X pins σ Q) X.xe s := by
  have r2 := hb.rel r rz
  have hl : (g us ws).length = ps.length := by rw [← r2.length]; exact F.len _ _ _ _ h
  refine wpAny_call (codeAny_mono (F.run X.A X.stack s H ⟨us, ks.zip ws⟩ (g us ws) (gV vs zs) Q E hr I.env0 (hb.to s us ws I.kIn hl) r2 h) fun r s' hq => ?_)
  cases r with
  | error e => exact hx pins H s e s' I hq
  | ok fl =>
    cases fl with
    | ret u => exact I.after hq
    | next => exact False.elim hq
    | brk => exact False.elim hq
    | cont => exact False.elim hq
theorem pe_callK0 {X : Cx} {CX : CXT} {f : Addr} {fd : FuncData} {ps ks : List Str} {sp : Sp} {g : List Value → List Value → List Value} {gV : List V → List V → List V} {j : Nat} {x : Str} {p pos : Pos} {kws : List Keyword} {tk : TA} {E : L2.St → XK} (F : FnOk X.prog X.w X.K X.mg X.base CX j f fd ps sp) (hr : Room j X.A) (hg : Gl X x) (hm : X.mg x = some (.ref f)) (hk : PySem.W.keepIn X.K (.ref f) = true) (hb : KBinds X.K fd ps ks g gV)
    (hx : ∀ σ, PassesAt CX X σ (E σ)) (hkw : PK X kws tk) (hn : kwNames kws = some ks) (hdb : (x == ("__debug__" : Str)) = false) : PE X (.Call (.Name x p) [] kws pos) (fun σ H Q => tk σ H fun zs H2 => sp (gV [] zs) H2 Q (E σ)) := by
  refine ⟨fun pins s σ H Q I h => ?_⟩
  obtain ⟨q1, q2, q3⟩ := kw_all (pos := pos) (env := X.env) hn
  refine wpAny_Call_Name_kw (ld_glob I hg hm ?_ hdb)
  refine PySem.W.callWith_KW0 (h₀ := X.base) I.ok.mod.kin hk q1 (thn (hkw.run pos pins s σ H _ I h) fun ws s2 ⟨zs, H2, I2, rz, q⟩ => ⟨I2.kIn, ?_⟩) (by rw [q3]; rfl)
  rw [q2]
  exact run_fnkS F hr hb (hx σ) I2 .nil rz q
theorem ckEs_nice {sc : Scope} : ∀ {cs : Cs} {es : List Expr}, ckEs Γ sc cs es = true → ∀ e ∈ es, Nice e
  | .nil, [], _, _, m => nomatch m
  | .nil, _ :: _, h, _, _ => by cases h
  | .cons _ _, [], h, _, _ => by cases h
  | .cons c cs, e :: es, h, a, m => by
    unfold ckEs at h
    rw [Bool.and_eq_true] at h
    rcases List.mem_cons.mp m with rfl | m
    · exact nice_of h.1
    · exact ckEs_nice h.2 a m
/-- how a plain expression is a test -/
theorem plain_test {c : C} {e : Expr} {X : Cx} (hK : k.K = X.K) (h : PE X e (tE k Φ W c)) (he : ∀ whole, isTrue e X.env whole = (do let v ← whole; standAt e.pos; holding [v] (truthy v))) : PT X e (tT k Φ W c) := by
  obtain ⟨K0, c1, c2⟩ := k
  obtain rfl : K0 = X.K := hK
  exact PT.imp (pt_truth h he) fun σ H Q q => tT_val q
theorem shape_plain {sc : Scope} {o : Op} {e : Expr} {es : List Expr} {env : PySem.Env} (h : shape sc o e = some es) (hc : o.cmp = false) (whole : Sem Value) : isTrue e env whole = (do let v ← whole; standAt e.pos; holding [v] (truthy v)) := by
  unfold shape at h
  split at h <;> first | rfl | (cases hc; done) | (cases h; done)
theorem opD_bool {o : Op} (hc : o.cmp = true) {us : List I} {v : I} (e : opD o us = some v) : ∃ b, v = .bl b := by
  have two : ∀ {a b : I} {p : Int → Int → Bool} {q : List Nat → List Nat → Option Bool}, cmpI p q a b = some v → ∃ b, v = .bl b := fun {a b p q} e => by
    unfold cmpI at e
    split at e
    · cases e; exact ⟨_, rfl⟩
    · obtain ⟨r, _, rfl⟩ := map_some e; exact ⟨_, rfl⟩
    · cases e
  have isn : ∀ {a w : I}, isN a = some w → ∃ b, w = .bl b := fun {a w} e => by
    unfold isN at e
    split at e <;> (cases e; exact ⟨_, rfl⟩)
  unfold opD at e
  split at e <;> first | (cases hc; done) | (cases e; done) | (exact lt_bool e) | (exact two e) | (exact isn e) | (obtain ⟨r, _, rfl⟩ := map_some e; exact ⟨_, rfl⟩) | skip
  obtain ⟨w, e1, e⟩ := Option.bind_eq_some_iff.mp e
  split at e
  · cases e; exact ⟨_, rfl⟩
  · cases e
theorem ev_bool {o : Op} {as : Cs} (hc : o.cmp = true) {τ : Env} {M M' : Mem} {v : I} (e : evE Φ (.op o as) τ M = .ok v M') : ∃ b, v = .bl b := by
  unfold evE at e
  cases e1 : evEs Φ as τ M with
  | no => rw [e1] at e; cases e
  | ex _ _ => rw [e1] at e; cases e
  | ok vs M1 =>
    rw [e1] at e
    have e : R.of (opM o M1 vs) M1 = .ok v M' := e
    cases e2 : opM o M1 vs with
    | none => rw [e2] at e; cases e
    | some w =>
      rw [e2] at e; cases e
      unfold opM at e2
      obtain ⟨us, _, e3⟩ := Option.bind_eq_some_iff.mp e2
      exact opD_bool hc e3
theorem cmp_pt {X : Cx} (O : XOk k Γ Φ W X) {sc : Scope} {o : Op} {e : Expr} {es : List Expr} {as : Cs} (h : shape sc o e = some es) (hc : o.cmp = true) (P : PEs k X W Φ es as) (ne : ∀ a ∈ es, Nice a) : PT X e (tT k Φ W (.op o as)) := by
  obtain ⟨K0, c1, c2⟩ := k
  obtain rfl : K0 = X.K := O.K
  have conv : ∀ σ H Q, tT ⟨X.K, c1, c2⟩ Φ W (.op o as) σ H Q → tE ⟨X.K, c1, c2⟩ Φ W (mkC false (.op o as)) σ H fun x H' => ∃ k, x = .bl k ∧ Q k H' := fun σ H Q q => tT_bool q fun τ M v M' e => ev_bool hc e
  unfold shape at h
  split at h <;> first | (cases hc; done) | (cases h; done) | skip
  · cases h; obtain ⟨ca, cb, rfl, h1, h2⟩ := P.inv2 rfl; exact PT.imp (pt_cmpR (op_eqD (by have := O.hu; omega)) h1 h2 (nomark _)) fun _ _ Q q => two_imp (fun _ _ _ => ru_eq) (conv _ _ _ q)
  · cases h; obtain ⟨ca, cb, rfl, h1, h2⟩ := P.inv2 rfl; exact PT.imp (pt_cmpR (op_neD (by have := O.hu; omega)) h1 h2 (nomark _)) fun _ _ Q q => two_imp (fun _ _ _ => ru_ne) (conv _ _ _ q)
  · cases h; obtain ⟨ca, cb, rfl, h1, h2⟩ := P.inv2 rfl; exact PT.imp (pt_cmpR (op_lt2 (by have := O.hu; omega)) h1 h2 (nomark _)) fun _ _ Q q => two_imp (fun _ _ _ => ru_lt) (conv _ _ _ q)
  · cases h; obtain ⟨ca, cb, rfl, h1, h2⟩ := P.inv2 rfl; exact PT.imp (pt_cmpR op_le h1 h2 (nomark _)) fun _ _ Q q => two_imp (fun _ _ _ => ru_cmp (op := .le) rfl fun _ _ _ e => e) (conv _ _ _ q)
  · cases h; obtain ⟨ca, cb, rfl, h1, h2⟩ := P.inv2 rfl; exact PT.imp (pt_cmpR op_gt h1 h2 (nomark _)) fun _ _ Q q => two_imp (fun _ _ _ => ru_cmp (op := .gt) rfl fun _ _ _ e => e) (conv _ _ _ q)
  · cases h; obtain ⟨ca, cb, rfl, h1, h2⟩ := P.inv2 rfl; exact PT.imp (pt_cmpR op_ge h1 h2 (nomark _)) fun _ _ Q q => two_imp (fun _ _ _ => ru_cmp (op := .ge) rfl fun _ _ _ e => e) (conv _ _ _ q)
  · cases h; obtain ⟨ca, rfl, h1⟩ := P.inv1 rfl; exact PT.imp (pt_cmp (pc_isN h1)) fun _ _ Q q => one_imp (fun _ _ z => ru_isN z) (conv _ _ _ q)
  · cases h; obtain ⟨ca, rfl, h1⟩ := P.inv1 rfl; exact PT.imp (pt_cmp (pc_notN h1)) fun _ _ Q q => one_imp (fun _ _ z => ru_notN z) (conv _ _ _ q)
  · obtain ⟨hc, h⟩ := if_some h
    cases h
    obtain ⟨ca, rfl, h1⟩ := P.inv1 rfl
    rw [of_decide_eq_true hc]
    exact (isB_pe (cl := false) (ng := false) h1).2
  · obtain ⟨hc, h⟩ := if_some h
    cases h
    obtain ⟨ca, rfl, h1⟩ := P.inv1 rfl
    rw [of_decide_eq_true hc]
    exact (isB_pe (cl := false) (ng := true) h1).2
  · cases h; obtain ⟨ca, cb, rfl, h1, h2⟩ := P.inv2 rfl; exact PT.imp (pt_cmpR (op_in4 O.hu) h1 h2 ((ne _ (by simp)).marks _)) fun _ _ Q q => two_imp (fun _ _ _ => ru_in) (conv _ _ _ q)
  · cases h; obtain ⟨ca, cb, rfl, h1, h2⟩ := P.inv2 rfl; exact PT.imp (pt_cmpR (op_notIn4 O.hu) h1 h2 ((ne _ (by simp)).marks _)) fun _ _ Q q => two_imp (fun _ _ _ => ru_notin) (conv _ _ _ q)
  · cases o <;> first | (cases hc; done) | (cases h; done)
  · cases o <;> first | (cases hc; done) | (cases h; done)
theorem nice_it {sc : Scope} {it : It} {tg e : Expr} (h : ckIt Γ sc it tg e = true) : Nice e := by
  cases it with
  | seq c => exact nice_of (show ckE Γ sc c e = true by unfold ckIt at h; exact h)
  | range as => cases e <;> first | (cases h; done) | exact ⟨(fun _ _ z => nomatch z), (fun _ _ _ z => nomatch z), (fun _ _ _ _ z => nomatch z)⟩
  | enum c => cases tg <;> first | (cases h; done) | (cases e <;> first | (cases h; done) | exact ⟨(fun _ _ z => nomatch z), (fun _ _ _ z => nomatch z), (fun _ _ _ _ z => nomatch z)⟩)
  | zip a b => cases tg <;> first | (cases h; done) | (cases e <;> first | (cases h; done) | exact ⟨(fun _ _ z => nomatch z), (fun _ _ _ z => nomatch z), (fun _ _ _ _ z => nomatch z)⟩)
theorem tTs_nil {σ : L2.St} {H : Hp} {Q : Bool → Hp → Prop} (h : tTs k Φ .nil σ H Q) : tYes σ H Q := by
  obtain ⟨F, ι, τ, M, S, f⟩ := h
  exact f ι H S .refl
theorem tTs_one {c : C} {σ : L2.St} {H : Hp} {Q : Bool → Hp → Prop} (h : tTs k Φ (.cons c .nil) σ H Q) : tT k Φ W0 c σ H Q := by
  obtain ⟨F, ι, τ, M, S, f⟩ := h
  refine ⟨F, ι, τ, M, S, ?_⟩
  unfold evT at f
  cases e : evE Φ c τ M with
  | no => rw [e] at f; exact f
  | ex _ _ => rw [e] at f; exact f.elim
  | ok v M1 =>
    rw [e] at f
    have f : FinTs k F ι H σ τ (match truth (sh M1 v) with
      | some true => evT Φ .nil τ M1
      | some false => .ok false M1
      | none => .no) Q := f
    cases et : truth (sh M1 v) with
    | none => rw [et] at f; exact f.elim
    | some b =>
      rw [et] at f
      refine ⟨b, et, fun ι1 H1 S1 s1 => ?_⟩
      cases b with
      | true => exact f ι1 H1 S1 s1
      | false => exact f ι1 H1 S1 s1
end
end Rs

/-! second layer, part l: every expression of the language is read in the text, the whole -/
namespace Rs
open PySem PySem.Spec PyProof.Rows L2
section
variable {Γ : Ctx} {Φ : Oracle} {k : Kx} {W : WX}
theorem pa_of1 {X : Cx} {e : Expr} {c : C} (h : PE X e (tE k Φ W c)) (n : Nice e) : PA X [e] (tA k Φ W (.cons c .nil)) := (PEs.cons h (fun r => n.starEach r X.env) .nil).pa
theorem meth_pe {X : Cx} {sc : Scope} (O : XOk k Γ Φ W X) {m : Mth} {o : C} {as : Cs} {eo : Expr} {es : List Expr} {ap cp : Pos} (hr : plainRecv eo = true) (hl : (ap.endLine == cp.line) = true) (hn : es.length = mthArgs m) (ho : PE X eo (tE k Φ W o)) (P : PEs k X W Φ es as) (ne : ∀ a ∈ es, Nice a) :
    PE X (.Call (.Attribute eo (Str.ofString (mthName m)) ap) es [] cp) (tE k Φ W (.meth m o as)) := by
  obtain ⟨K0, c1, c2⟩ := k
  obtain rfl : K0 = X.K := O.K
  have hu : X.A.units + 1 < cLine := by have := O.hu; omega
  have one : mthArgs m = 1 → ∃ e c, es = [e] ∧ as = .cons c .nil ∧ PE X e (tE ⟨X.K, c1, c2⟩ Φ W c) ∧ Nice e := fun h1 => by
    obtain ⟨e, rfl⟩ := List.length_eq_one_iff.mp (hn.trans h1)
    obtain ⟨c, rfl, hc⟩ := P.inv1 rfl
    exact ⟨e, c, rfl, rfl, hc, ne _ List.mem_cons_self⟩
  cases m with
  | join =>
    obtain ⟨e, c, rfl, rfl, hc, n⟩ := one rfl
    exact PE.imp (pe_join ho hc (n.starEach [] X.env) (recv_base hr _ _ _) hl) fun σ H Q q => join_imp q
  | split =>
    obtain ⟨e, c, rfl, rfl, hc, n⟩ := one rfl
    exact PE.imp (pe_split ho hc (n.starEach [] X.env) (recv_base hr _ _ _) hl) fun σ H Q q => split_imp q
  | get1 =>
    obtain ⟨e, c, rfl, rfl, hc, n⟩ := one rfl
    refine PE.imp (pe_dget1 hu ho hc ⟨recv_base hr _ _ _, ?_, hl, ?_⟩) fun σ H Q q => get1_imp q
    · rw [n.starEach]; rfl
    · rw [n.starEach]; rfl
  | get2 =>
    obtain ⟨e, f, rfl⟩ : ∃ e f, es = [e, f] := by
      match es, hn with
      | [e, f], _ => exact ⟨e, f, rfl⟩
    obtain ⟨c, d, rfl, hc, hd⟩ := P.inv2 rfl
    have n1 := ne e List.mem_cons_self
    have n2 := ne f (List.mem_cons_of_mem _ List.mem_cons_self)
    refine PE.imp (pe_dget2 hu ho hc hd ⟨recv_base hr _ _ _, ?_, hl, ?_⟩) fun σ H Q q => get2_imp q
    · rw [n1.starEach, n2.starEach]; rfl
    · rw [n1.starEach, n2.starEach]; rfl
  | index =>
    obtain ⟨e, c, rfl, rfl, hc, n⟩ := one rfl
    exact PE.imp (pe_bm PySem.F.plainAttrs_list PySem.F.slot_list_index PySem.F.type_list_index (mt_indexD O.hu) ho (pa_of1 hc n) (recv_base hr _ _ _) (by rw [n.starEach]; rfl) hl (n.starEach [] X.env) rfl) fun σ H Q q => index_imp q
theorem comp_pe {X : Cx} {sc scope : Scope} (O : XOk k Γ Φ W X) (hs : X.env.scope = sc) {cl : Bool} {own : List Nat} {elt : C} {g : Tg} {it : It} {ifs : Cs} {ee tg ie : Expr} {is : List Expr} {pos : Pos}
    (h1 : blkC Γ.N sc scope (ownP Γ.N own) = true) (h2 : ckT Γ.N false (relS sc scope) own g tg = true) (hi : PI X tg ie (tI k Φ W it)) (ni : Nice ie)
    (he : ∀ (s : Shared) (H : Hp) (C : Addr) (cl : List (Str × Addr)) (fp : List Addr), PE (X.blk s H scope (compEnvC scope cl C X.env) fp) ee (tE k Φ W0 elt))
    (ht : ∀ (s : Shared) (H : Hp) (C : Addr) (cl : List (Str × Addr)) (fp : List Addr), PTs (X.blk s H scope (compEnvC scope cl C X.env) fp) is (tTs k Φ ifs)) :
    PE X (.ListComp ee [⟨tg, ie, is, 0⟩] scope pos) (tE k Φ W (mkC cl (.comp own elt g it ifs))) ∧ ∀ {y : Str} {py spos : Pos} {i : Nat}, X.N[i]? = some y → X.env.scope.names.lookup y = some .local → (py.line == pos.line) = true → (scope.names.any fun (n, k) => n == y && (k == .local || k == .cell)) = false →
      PS X (.Assign [.Name y py] (.ListComp ee [⟨tg, ie, is, 0⟩] scope pos) spos) (tAsg (tE k Φ W (mkC cl (.comp own elt g it ifs))) (gName i)) := by
  obtain ⟨K0, c1, c2⟩ := k
  obtain rfl : K0 = X.K := O.K
  have ok : BlkOk X.N X.env.scope scope (ownP Γ.N own) := by
    rw [O.N, hs]; exact blkOk_by h1
  have ho : (ownP Γ.N own).map (·.2) = own := by
    unfold ownP
    rw [List.map_map]
    exact List.map_id _
  have hg : ∀ (s : Shared) (H : Hp) (C : Addr) (cl : List (Str × Addr)) (fp : List Addr), PG (X.blk s H scope (compEnvC scope cl C X.env) fp) tg (gTg X.K g) := fun s H C cl fp => by
    refine sndT (X := X.blk s H scope (compEnvC scope cl C X.env) fp) O.calm O.nd (cel := false) (sc := relS sc scope) (own := own) (fun x hx => .inl ?_) g tg ?_
    · show (compEnvC scope cl C X.env).scope.names.lookup x = _
      rw [relS_eq hs]
      rw [Bool.false_and, Bool.or_false] at hx
      exact of_decide_eq_true hx
    · show ckT X.N false _ own g tg = true
      rw [O.N]; exact h2
  refine ⟨PE.imp (pe_lc (pos := pos) O.calm O.nd hi ok hg ht he (ni.folded X.env)) fun σ H Q q => ?_, fun {y py spos i} hy hyl hln hsc => ?_⟩
  · rw [ho]
    exact comp_imp (fun j hj => ckT_has g tg h2 hj) q
  · refine ⟨fun pins s σ H D I q => ?_⟩
    have hk : X.env.blockKind = .function := by
      unfold PySem.Env.blockKind
      rw [I.ok.kind]; rfl
    have hsw : swapsWith (.ListComp ee [⟨tg, ie, is, 0⟩] scope pos) (some (.Name y py)) spos.line X.env = pure true := by
      have e2 : X.env.kindOf y = some .local := hyl
      have k3 : py.line = pos.line := by simpa using hln
      unfold swapsWith
      simp [hk, e2, k3, Expr.pos]
      have k5 : (scope.names.any fun x => x.fst == y && (x.snd == NameKind.local || x.snd == NameKind.cell)) = false := hsc
      rw [k5]; rfl
    refine (ps_setLc (pos := pos) (spos := spos) (py := py) O.calm O.nd hy hyl hsw hi ok hg ht he (ni.folded X.env)).run pins s σ H D I ?_
    rw [ho]
    exact comp_imp (fun j hj => ckT_has g tg h2 hj) q
variable (hΦ : ∀ f x ps vs M, Γ.fns[f]? = some (x, ps) → Φ f vs M ≠ .no → vs.length = ps.length)
include hΦ
mutual
theorem sndE : ∀ (c : C) (W : WX) (sc : Scope) (X : Cx) (e : Expr), XOk k Γ Φ W X → X.env.scope = sc → ckE Γ sc c e = true → PE X e (tE k Φ W c) ∧ PT X e (tT k Φ W c)
  | .const x, W, sc, X, e, O, hs, h => by
    cases e <;> first | (cases h; done) | skip
    rename_i c j pos
    have p := cnt_pe (k := k) (Φ := Φ) (W := W) (X := X) (j := j) (pos := pos) (show cnt x c = true from h)
    exact ⟨p, plain_test O.K p fun _ => rfl⟩
  | .glob x v, W, sc, X, e, O, hs, h => by
    cases e <;> first | (cases h; done) | skip
    rename_i y pos
    have h : (decide (x = y) && glB sc y && Γ.glb.any fun p => decide (p.1 = x) && I.same p.2 v) = true := h
    simp only [Bool.and_eq_true, decide_eq_true_eq, List.any_eq_true] at h
    obtain ⟨⟨rfl, g⟩, p, hp, rfl, hv⟩ := h
    obtain ⟨g, d, n⟩ := glB_of hs g
    obtain ⟨u, w, hm, r, hi⟩ := O.glb p hp
    rw [same_eq _ _ hv] at hi
    have q : PE X (.Name p.1 pos) (tE k Φ W (.glob p.1 v)) := PE.imp (pe_glob g hm r d) fun σ H Q q => by
      obtain ⟨F, ι, τ, M, S, f⟩ := q
      exact f w ι H S .refl (hi F ι H)
    exact ⟨q, plain_test O.K q fun _ => rfl⟩
  | .var i, W, sc, X, e, O, hs, h => by
    cases e <;> first | (cases h; done) | skip
    rename_i y pos
    have h : (decide (Γ.N[i]? = some y) && visB sc y && plainN y) = true := h
    simp only [Bool.and_eq_true, decide_eq_true_eq] at h
    have q := var_pe (k := k) (W := W) (Φ := Φ) (X := X) (pos := pos) (by rw [O.N]; exact h.1.1) (visB_of hs h.1.2) h.2
    exact ⟨q, plain_test O.K q fun _ => rfl⟩
  | .op o as, W, sc, X, e, O, hs, h => by
    unfold ckE at h
    split at h
    · rename_i es e1
      have P := sndEs as W sc X es O hs h
      have ne := ckEs_nice h
      have q := sndOp (cl := false) O hs (fun z => nomatch z) e1 P ne
      refine ⟨q, ?_⟩
      cases hc : o.cmp with
      | true => exact cmp_pt O e1 hc P ne
      | false => exact plain_test O.K q (shape_plain e1 hc)
    · cases h
  | .disp t as, W, sc, X, e, O, hs, h => by
    cases t with
    | true =>
      cases e <;> first | (cases h; done) | skip
      rename_i es j pos
      have P := sndEs as W sc X es O hs (show ckEs Γ sc as es = true from h)
      have q : PE X (.Tuple es j pos) (tE k Φ W (.disp true as)) := PE.imp (pe_tup P.pa) fun σ H Q q => disp_imp (cl := false) (fun z => nomatch z) q
      exact ⟨q, plain_test O.K q fun _ => rfl⟩
    | false =>
      cases e <;> first | (cases h; done) | skip
      rename_i es pos
      have P := sndEs as W sc X es O hs (show ckEs Γ sc as es = true from h)
      have q : PE X (.List es pos) (tE k Φ W (.disp false as)) := PE.imp (pe_lst P.pa) fun σ H Q q => disp_imp (cl := false) (fun z => nomatch z) q
      exact ⟨q, plain_test O.K q fun _ => rfl⟩
  | .dict t, W, sc, X, e, O, hs, h => by
    cases e <;> first | (cases h; done) | skip
    rename_i ks vs pos
    cases ks with
    | cons _ _ => cases vs <;> cases h
    | nil =>
      cases vs with
      | cons _ _ => cases h
      | nil =>
        have q : PE X (.Dict [] [] pos) (tE k Φ W (.dict t)) := by
          cases t with
          | true => exact PE.imp pe_dnewT fun σ H Q q => dict_imp (cl := false) q
          | false => exact PE.imp pe_dnewK fun σ H Q q => dict_imp (cl := false) q
        exact ⟨q, plain_test O.K q fun _ => rfl⟩
  | .cell (.op o as), W, sc, X, e, O, hs, h => by
    have h : (o.makes && ckE Γ sc (.op o as) e) = true := h
    rw [Bool.and_eq_true] at h
    obtain ⟨hm, h⟩ := h
    unfold ckE at h
    split at h
    · rename_i es e1
      have q := sndOp (cl := true) O hs (fun _ => hm) e1 (sndEs as W sc X es O hs h) (ckEs_nice h)
      exact ⟨q, plain_test O.K q (shape_plain e1 (by cases o <;> first | rfl | cases hm))⟩
    · cases h
  | .cell (.disp t as), W, sc, X, e, O, hs, h => by
    cases t with
    | true => cases h
    | false =>
      replace h : ckE Γ sc (.disp false as) e = true := by
        have h : (true && ckE Γ sc (.disp false as) e) = true := h
        rw [Bool.true_and] at h; exact h
      cases e <;> first | (cases h; done) | skip
      rename_i es pos
      have P := sndEs as W sc X es O hs (show ckEs Γ sc as es = true from h)
      have q : PE X (.List es pos) (tE k Φ W (.cell (.disp false as))) := PE.imp (pe_lst P.pa) fun σ H Q q => disp_imp (cl := true) (fun _ => rfl) q
      exact ⟨q, plain_test O.K q fun _ => rfl⟩
  | .cell (.dict t), W, sc, X, e, O, hs, h => by
    replace h : ckE Γ sc (.dict t) e = true := by
      have h : (true && ckE Γ sc (.dict t) e) = true := h
      rw [Bool.true_and] at h; exact h
    cases e <;> first | (cases h; done) | skip
    rename_i ks vs pos
    cases ks with
    | cons _ _ => cases vs <;> cases h
    | nil =>
      cases vs with
      | cons _ _ => cases h
      | nil =>
        have q : PE X (.Dict [] [] pos) (tE k Φ W (.cell (.dict t))) := by
          cases t with
          | true => exact PE.imp pe_dnewT fun σ H Q q => dict_imp (cl := true) q
          | false => exact PE.imp pe_dnewK fun σ H Q q => dict_imp (cl := true) q
        exact ⟨q, plain_test O.K q fun _ => rfl⟩
  | .cell (.comp own elt g it ifs), W, sc, X, e, O, hs, h => by
    replace h : ckE Γ sc (.comp own elt g it ifs) e = true := by
      have h : (true && ckE Γ sc (.comp own elt g it ifs) e) = true := h
      rw [Bool.true_and] at h; exact h
    cases e <;> first | (cases h; done) | skip
    rename_i ee gs scope pos
    cases gs with
    | nil => cases h
    | cons g1 t =>
      obtain ⟨tg, ie, is, asy⟩ := g1
      cases t with
      | cons _ _ => cases h
      | nil =>
        have h : (decide (asy = 0) && blkC Γ.N sc scope (ownP Γ.N own) && ckT Γ.N false (relS sc scope) own g tg && ckIt Γ sc it tg ie && ckE Γ (relS sc scope) elt ee && ckIfs Γ (relS sc scope) ifs is) = true := h
        simp only [Bool.and_eq_true, decide_eq_true_eq] at h
        obtain ⟨⟨⟨⟨⟨rfl, h1⟩, h2⟩, h3⟩, h4⟩, h5⟩ := h
        have q := (comp_pe (cl := true) (pos := pos) O hs h1 h2 (sndIt it W sc X tg ie O hs h3) (nice_it h3) (fun s H C cl fp => (sndE elt W0 (relS sc scope) _ ee (O.blk s H scope _ fp) (relS_eq hs C cl) h4).1) (fun s H C cl fp => sndIfs ifs (relS sc scope) _ is (O.blk s H scope _ fp) (relS_eq hs C cl) h5)).1
        exact ⟨q, plain_test O.K q fun _ => rfl⟩
  | .cell (.const _), W, sc, X, e, O, hs, h => by cases h
  | .cell (.glob _ _), W, sc, X, e, O, hs, h => by cases h
  | .cell (.var _), W, sc, X, e, O, hs, h => by cases h
  | .cell (.cell _), W, sc, X, e, O, hs, h => by cases h
  | .cell (.call _ _), W, sc, X, e, O, hs, h => by cases h
  | .cell (.callk _ _ _), W, sc, X, e, O, hs, h => by cases h
  | .cell (.and _ _), W, sc, X, e, O, hs, h => by cases h
  | .cell (.or _ _), W, sc, X, e, O, hs, h => by cases h
  | .cell (.not _), W, sc, X, e, O, hs, h => by cases h
  | .cell (.ife _ _ _), W, sc, X, e, O, hs, h => by cases h
  | .cell (.chain _ _ _ _ _), W, sc, X, e, O, hs, h => by cases h
  | .cell (.sl2 _ _ _), W, sc, X, e, O, hs, h => by cases h
  | .cell (.meth _ _ _), W, sc, X, e, O, hs, h => by cases h
  | .cell (.app _ _), W, sc, X, e, O, hs, h => by cases h
  | .cell (.pop _), W, sc, X, e, O, hs, h => by cases h
  | .cell (.ext _ _), W, sc, X, e, O, hs, h => by cases h
  | .call f as, W, sc, X, e, O, hs, h => by
    cases e <;> first | (cases h; done) | skip
    rename_i fn es kws pos
    cases fn <;> first | (cases h; done) | skip
    rename_i x p
    cases kws with
    | cons _ _ => cases h
    | nil =>
      have h : ((match (generalizing := false) Γ.fns[f]? with
        | some p => decide (p.1 = x)
        | none => false) && glB sc x && !es.isEmpty && ckEs Γ sc as es) = true := h
      rw [Bool.and_eq_true, Bool.and_eq_true, Bool.and_eq_true] at h
      obtain ⟨⟨⟨h1, h2⟩, hne⟩, h3⟩ := h
      cases es with
      | nil => cases hne
      | cons e0 es =>
        cases hf : Γ.fns[f]? with
        | none => rw [hf] at h1; cases h1
        | some pp =>
          rw [hf] at h1
          obtain ⟨y, ps⟩ := pp
          have h1 : decide (y = x) = true := h1
          have h1 := of_decide_eq_true h1
          subst h1
          obtain ⟨g, d, n⟩ := glB_of hs h2
          have q := call_pe O hΦ hf g d (sndEs as W sc X (e0 :: es) O hs h3) (ckEs_nice h3) (p := p) (pos := pos)
          exact ⟨q, plain_test O.K q fun _ => rfl⟩
  | .callk f ord as, W, sc, X, e, O, hs, h => by
    cases e <;> first | (cases h; done) | skip
    rename_i fn es kws pos
    cases fn <;> first | (cases h; done) | skip
    rename_i x p
    cases es with
    | cons _ _ => cases h
    | nil =>
      have h : ((match (generalizing := false) Γ.fns[f]? with
        | some p => decide (p.1 = x) && decide (ord.length = p.2.length)
        | none => false) && glB sc x && ckKs Γ sc as kws && (match (generalizing := false) kwNames kws with
        | some ks => Γ.kws.contains (f, ks, ord) && decide (ks.length = ord.length)
        | none => false) && decide ord.Nodup && (ord.all fun j => decide (j < ord.length)) && !kws.isEmpty) = true := h
      simp only [Bool.and_eq_true] at h
      obtain ⟨⟨⟨⟨⟨⟨h1, h2⟩, h3⟩, h4⟩, h5⟩, _⟩, _⟩ := h
      cases hf : Γ.fns[f]? with
      | none => rw [hf] at h1; cases h1
      | some pp =>
        cases hk : kwNames kws with
        | none => rw [hk] at h4; cases h4
        | some ks =>
          rw [hf] at h1
          rw [hk] at h4
          obtain ⟨y, ps⟩ := pp
          have h1 : (decide (y = x) && decide (ord.length = ps.length)) = true := h1
          have h4 : (Γ.kws.contains (f, ks, ord) && decide (ks.length = ord.length)) = true := h4
          rw [Bool.and_eq_true] at h1 h4
          have e1 := of_decide_eq_true h1.1
          subst e1
          obtain ⟨g, d, n⟩ := glB_of hs h2
          obtain ⟨a, fd, j, F, hr, hm, hkp, hb, hkb⟩ := O.call f y ps hf
          have hkb := hkb ks ord (List.contains_iff_mem.mp h4.1)
          have q : PE X (.Call (.Name y p) [] kws pos) (tE k Φ W (.callk f ord as)) := PE.imp (pe_callK0 (pos := pos) (p := p) F hr g hm hkp hkb (passAt O.tk) (pk_of (sndKs as W sc X kws O hs h3)) hk d) fun σ H Q q => callk_imp q fun vs M e => hΦ f y ps vs M hf e
          exact ⟨q, plain_test O.K q fun _ => rfl⟩
  | .and a b, W, sc, X, e, O, hs, h => by
    cases e <;> first | (cases h; done) | skip
    rename_i op es pos
    cases op <;> first | (cases h; done) | skip
    cases es with
    | nil => cases h
    | cons ea t =>
      cases t with
      | nil => cases h
      | cons eb r =>
        have h : (ckE Γ sc a ea && (match (generalizing := false) r with
          | [] => ckE Γ sc b eb
          | _ => ckE Γ sc b (.BoolOp .And (eb :: r) pos))) = true := h
        rw [Bool.and_eq_true] at h
        obtain ⟨p1, t1⟩ := sndE a W sc X ea O hs h.1
        have hK := O.K
        cases r with
        | nil =>
          obtain ⟨p2, t2⟩ := sndE b W sc X eb O hs h.2
          exact ⟨PE.imp (pe_andT p1 (pe_one p2)) fun σ H Q q => hK ▸ and_imp q, PT.imp (pw_and t1 (pw_and1 t2)).pt fun σ H Q q => tT_and q⟩
        | cons ec r =>
          obtain ⟨p2, t2⟩ := sndE b W sc X (.BoolOp .And (eb :: ec :: r) pos) O hs h.2
          exact ⟨PE.imp (pe_andT p1 p2) fun σ H Q q => hK ▸ and_imp q, PT.imp (pw_and t1 (pw_of t2)).pt fun σ H Q q => tT_and q⟩
  | .or a b, W, sc, X, e, O, hs, h => by
    cases e <;> first | (cases h; done) | skip
    rename_i op es pos
    cases op <;> first | (cases h; done) | skip
    cases es with
    | nil => cases h
    | cons ea t =>
      cases t with
      | nil => cases h
      | cons eb r =>
        have h : (ckE Γ sc a ea && (match (generalizing := false) r with
          | [] => ckE Γ sc b eb
          | _ => ckE Γ sc b (.BoolOp .Or (eb :: r) pos))) = true := h
        rw [Bool.and_eq_true] at h
        obtain ⟨p1, t1⟩ := sndE a W sc X ea O hs h.1
        have hK := O.K
        cases r with
        | nil =>
          obtain ⟨p2, t2⟩ := sndE b W sc X eb O hs h.2
          exact ⟨PE.imp (pe_orT p1 (pe_one p2)) fun σ H Q q => hK ▸ or_imp q, PT.imp (pw_or t1 (pw_or1 t2)).pt fun σ H Q q => tT_or q⟩
        | cons ec r =>
          obtain ⟨p2, t2⟩ := sndE b W sc X (.BoolOp .Or (eb :: ec :: r) pos) O hs h.2
          exact ⟨PE.imp (pe_orT p1 p2) fun σ H Q q => hK ▸ or_imp q, PT.imp (pw_or t1 (pw_of t2)).pt fun σ H Q q => tT_or q⟩
  | .not a, W, sc, X, e, O, hs, h => by
    cases e <;> first | (cases h; done) | skip
    rename_i op e pos
    cases op <;> first | (cases h; done) | skip
    obtain ⟨p1, t1⟩ := sndE a W sc X e O hs (show ckE Γ sc a e = true from h)
    have hK := O.K
    exact ⟨PE.imp (pe_notT p1) fun σ H Q q => hK ▸ not_imp q, PT.imp (pt_not t1) fun σ H Q q => tT_not q⟩
  | .ife t a b, W, sc, X, e, O, hs, h => by
    cases e <;> first | (cases h; done) | skip
    rename_i et ea eb pos
    have h : (ckE Γ sc t et && ckE Γ sc a ea && ckE Γ sc b eb) = true := h
    rw [Bool.and_eq_true, Bool.and_eq_true] at h
    obtain ⟨p1, t1⟩ := sndE t W sc X et O hs h.1.1
    obtain ⟨p2, t2⟩ := sndE a W sc X ea O hs h.1.2
    obtain ⟨p3, t3⟩ := sndE b W sc X eb O hs h.2
    exact ⟨PE.imp (pe_ifExp t1 p2 p3) fun σ H Q q => ife_imp q, PT.imp (pt_ife t1 t2 t3) fun σ H Q q => tT_ife q⟩
  | .chain o p a b c, W, sc, X, e, O, hs, h => by
    cases e <;> first | (cases h; done) | skip
    rename_i ea ops es pos
    match ops, es, h with
    | [o', p'], [eb, ec], h =>
      have h : (decide (link o = some o') && decide (link p = some p') && ckE Γ sc a ea && ckE Γ sc b eb && ckE Γ sc c ec) = true := h
      simp only [Bool.and_eq_true, decide_eq_true_eq] at h
      obtain ⟨⟨⟨⟨h1, h2⟩, h3⟩, h4⟩, h5⟩ := h
      have n := nice_of h5
      have hm : lastMarks [o', p'] [eb, ec] = false := by
        have hp : p' = .Lt ∨ p' = .LtE ∨ p' = .Eq := by
          unfold link at h2
          split at h2 <;> cases h2 <;> simp
        rcases hp with rfl | rfl | rfl <;> (cases ec <;> first | rfl | (exact absurd rfl (n.set _ _ _)))
      obtain ⟨p1, _⟩ := sndE a W sc X ea O hs h3
      obtain ⟨p2, _⟩ := sndE b W sc X eb O hs h4
      obtain ⟨p3, _⟩ := sndE c W sc X ec O hs h5
      exact ⟨PE.imp (pe_chain (link_rule O h1) (link_rule O h2) p1 p2 p3 hm) fun σ H Q q => chain_imp h1 q,
        PT.imp (pt_chain (link_rule O h1) (link_rule O h2) p1 p2 p3 hm) fun σ H Q q => chain_imp h1 (tT_bool q fun τ M v M' e => chain_bool h2 e)⟩
  | .sl2 a b c, W, sc, X, e, O, hs, h => by
    cases e <;> first | (cases h; done) | skip
    rename_i ea es pos
    cases es <;> first | (cases h; done) | skip
    rename_i lo hi st p2
    match lo, hi, st, h with
    | some eb, some ec, none, h =>
      have h : (ckE Γ sc a ea && ckE Γ sc b eb && ckE Γ sc c ec) = true := h
      rw [Bool.and_eq_true, Bool.and_eq_true] at h
      obtain ⟨p1, _⟩ := sndE a W sc X ea O hs h.1.1
      obtain ⟨p2', _⟩ := sndE b W sc X eb O hs h.1.2
      obtain ⟨p3, _⟩ := sndE c W sc X ec O hs h.2
      have hK := O.K
      have q : PE X (.Subscript ea (.Slice (some eb) (some ec) none p2) pos) (tE k Φ W (.sl2 a b c)) := PE.imp (pe_slice sl_3 p1 (po_some p2') (po_some p3)) fun σ H Q q => hK ▸ sl2_imp q
      exact ⟨q, plain_test O.K q fun _ => rfl⟩
  | .meth m o as, W, sc, X, e, O, hs, h => by
    cases e <;> first | (cases h; done) | skip
    rename_i fn es kws cp
    cases fn <;> first | (cases h; done) | skip
    rename_i eo name ap
    cases kws with
    | cons _ _ => cases h
    | nil =>
      have h : (decide (name = Str.ofString (mthName m)) && plainRecv eo && (ap.endLine == cp.line) && decide (es.length = mthArgs m) && ckE Γ sc o eo && ckEs Γ sc as es) = true := h
      rw [Bool.and_eq_true, Bool.and_eq_true, Bool.and_eq_true, Bool.and_eq_true, Bool.and_eq_true] at h
      obtain ⟨⟨⟨⟨⟨h1, h2⟩, h3⟩, h4⟩, h5⟩, h6⟩ := h
      rw [of_decide_eq_true h1]
      have q := meth_pe (sc := sc) (ap := ap) (cp := cp) O h2 h3 (of_decide_eq_true h4) (sndE o W sc X eo O hs h5).1 (sndEs as W sc X es O hs h6) (ckEs_nice h6)
      exact ⟨q, plain_test O.K q fun _ => rfl⟩
  | .app o a, W, sc, X, e, O, hs, h => by
    cases e <;> first | (cases h; done) | skip
    rename_i fn es kws cp
    cases fn <;> first | (cases h; done) | skip
    rename_i eo name ap
    match es, kws, h with
    | [e], [], h =>
      have h : (decide (name = ("append" : Str)) && plainRecv eo && (ap.endLine == cp.line) && ckE Γ sc o eo && ckE Γ sc a e) = true := h
      simp only [Bool.and_eq_true, decide_eq_true_eq] at h
      obtain ⟨⟨⟨⟨rfl, h2⟩, h3⟩, h4⟩, h5⟩ := h
      have n := nice_of h5
      have hK := O.K
      have P : PEs k X W Φ [e] (.cons a .nil) := .cons (sndE a W sc X e O hs h5).1 (fun r => n.starEach r X.env) .nil
      have q : PE X (.Call (.Attribute eo "append" ap) [e] [] cp) (tE k Φ W (.app o a)) := PE.imp (pe_bm PySem.F.plainAttrs_list PySem.F.slot_list_append PySem.F.type_list_append mt_append (sndE o W sc X eo O hs h4).1 P.pa (recv_base h2 _ _ _) (by rw [n.starEach]; rfl) (by simpa using h3) (n.starEach [] X.env) rfl) fun σ H Q q => hK ▸ app_imp q
      exact ⟨q, plain_test O.K q fun _ => rfl⟩
  | .ext o a, W, sc, X, e, O, hs, h => by
    cases e <;> first | (cases h; done) | skip
    rename_i fn es kws cp
    cases fn <;> first | (cases h; done) | skip
    rename_i eo name ap
    match es, kws, h with
    | [e], [], h =>
      have h : (decide (name = ("extend" : Str)) && plainRecv eo && (ap.endLine == cp.line) && ckE Γ sc o eo && ckE Γ sc a e) = true := h
      simp only [Bool.and_eq_true, decide_eq_true_eq] at h
      obtain ⟨⟨⟨⟨rfl, h2⟩, h3⟩, h4⟩, h5⟩ := h
      have n := nice_of h5
      have hK := O.K
      have P : PEs k X W Φ [e] (.cons a .nil) := .cons (sndE a W sc X e O hs h5).1 (fun r => n.starEach r X.env) .nil
      have q : PE X (.Call (.Attribute eo "extend" ap) [e] [] cp) (tE k Φ W (.ext o a)) := PE.imp (pe_bm PySem.F.plainAttrs_list PySem.F.slot_list_extend PySem.F.type_list_extend mt_extend (sndE o W sc X eo O hs h4).1 P.pa (recv_base h2 _ _ _) (by rw [n.starEach]; rfl) (by simpa using h3) (n.starEach [] X.env) rfl) fun σ H Q q => hK ▸ ext_imp q
      exact ⟨q, plain_test O.K q fun _ => rfl⟩
  | .pop o, W, sc, X, e, O, hs, h => by
    cases e <;> first | (cases h; done) | skip
    rename_i fn es kws cp
    cases fn <;> first | (cases h; done) | skip
    rename_i eo name ap
    match es, kws, h with
    | [], [], h =>
      have h : (decide (name = ("pop" : Str)) && plainRecv eo && (ap.endLine == cp.line) && ckE Γ sc o eo) = true := h
      simp only [Bool.and_eq_true, decide_eq_true_eq] at h
      obtain ⟨⟨⟨rfl, h2⟩, h3⟩, h4⟩ := h
      have hK := O.K
      have q : PE X (.Call (.Attribute eo "pop" ap) [] [] cp) (tE k Φ W (.pop o)) := PE.imp (pe_bm0 PySem.F.plainAttrs_list PySem.F.slot_list_pop PySem.F.type_list_pop mt_pop (sndE o W sc X eo O hs h4).1 (recv_base h2 _ _ _) (by simpa using h3)) fun σ H Q q => hK ▸ pop_imp q
      exact ⟨q, plain_test O.K q fun _ => rfl⟩
  | .comp own elt g it ifs, W, sc, X, e, O, hs, h => by
    cases e <;> first | (cases h; done) | skip
    rename_i ee gs scope pos
    cases gs with
    | nil => cases h
    | cons g1 t =>
      obtain ⟨tg, ie, is, asy⟩ := g1
      cases t with
      | cons _ _ => cases h
      | nil =>
        have h : (decide (asy = 0) && blkC Γ.N sc scope (ownP Γ.N own) && ckT Γ.N false (relS sc scope) own g tg && ckIt Γ sc it tg ie && ckE Γ (relS sc scope) elt ee && ckIfs Γ (relS sc scope) ifs is) = true := h
        simp only [Bool.and_eq_true, decide_eq_true_eq] at h
        obtain ⟨⟨⟨⟨⟨rfl, h1⟩, h2⟩, h3⟩, h4⟩, h5⟩ := h
        have q := (comp_pe (cl := false) (pos := pos) O hs h1 h2 (sndIt it W sc X tg ie O hs h3) (nice_it h3) (fun s H C cl fp => (sndE elt W0 (relS sc scope) _ ee (O.blk s H scope _ fp) (relS_eq hs C cl) h4).1) (fun s H C cl fp => sndIfs ifs (relS sc scope) _ is (O.blk s H scope _ fp) (relS_eq hs C cl) h5)).1
        exact ⟨q, plain_test O.K q fun _ => rfl⟩
theorem sndIfs : ∀ (ifs : Cs) (sc : Scope) (X : Cx) (is : List Expr), XOk k Γ Φ W0 X → X.env.scope = sc → ckIfs Γ sc ifs is = true → PTs X is (tTs k Φ ifs)
  | .nil, sc, X, is, O, hs, h => by
    cases is with
    | nil => exact ⟨fun pins s' σ H' Q I q => pts_nil.run pins s' σ H' Q I (tTs_nil q)⟩
    | cons _ _ => cases h
  | .cons c .nil, sc, X, is, O, hs, h => by
    match is, h with
    | [e], h =>
      have q := (sndE c W0 sc X e O hs h).2
      exact ⟨fun pins s' σ H' Q I w => (pts_one q).run pins s' σ H' Q I (tTs_one w)⟩
  | .cons c (.cons _ _), sc, X, is, O, hs, h => by cases is <;> cases h
theorem sndEs : ∀ (cs : Cs) (W : WX) (sc : Scope) (X : Cx) (es : List Expr), XOk k Γ Φ W X → X.env.scope = sc → ckEs Γ sc cs es = true → PEs k X W Φ es cs
  | .nil, W, sc, X, es, O, hs, h => by
    cases es with
    | nil => exact .nil
    | cons _ _ => cases h
  | .cons c cs, W, sc, X, es, O, hs, h => by
    cases es with
    | nil => cases h
    | cons e es =>
      unfold ckEs at h
      rw [Bool.and_eq_true] at h
      exact .cons (sndE c W sc X e O hs h.1).1 (fun r => (nice_of h.1).starEach r X.env) (sndEs cs W sc X es O hs h.2)
theorem sndKs : ∀ (cs : Cs) (W : WX) (sc : Scope) (X : Cx) (kws : List Keyword), XOk k Γ Φ W X → X.env.scope = sc → ckKs Γ sc cs kws = true → PEs k X W Φ (kws.map (·.value)) cs
  | .nil, W, sc, X, es, O, hs, h => by
    cases es with
    | nil => exact .nil
    | cons _ _ => cases h
  | .cons c cs, W, sc, X, es, O, hs, h => by
    cases es with
    | nil => cases h
    | cons e es =>
      unfold ckKs at h
      rw [Bool.and_eq_true] at h
      exact .cons (sndE c W sc X e.value O hs h.1).1 (fun r => (nice_of h.1).starEach r X.env) (sndKs cs W sc X es O hs h.2)
theorem sndIt : ∀ (it : It) (W : WX) (sc : Scope) (X : Cx) (tg e : Expr), XOk k Γ Φ W X → X.env.scope = sc → ckIt Γ sc it tg e = true → PI X tg e (tI k Φ W it)
  | .seq c, W, sc, X, tg, e, O, hs, h => by
    have h : ckE Γ sc c e = true := by unfold ckIt at h; exact h
    exact snd_seq O.K (sndE c W sc X e O hs h).1
  | .range as, W, sc, X, tg, e, O, hs, h => by
    cases e <;> first | (cases h; done) | skip
    rename_i fn es kws pos
    cases fn <;> first | (cases h; done) | skip
    rename_i x p
    cases kws with
    | cons _ _ => cases h
    | nil =>
      have h : (decide (x = ("range" : Str)) && glB sc x && ckEs Γ sc as es && (es.length == 1 || es.length == 2)) = true := h
      simp only [Bool.and_eq_true, decide_eq_true_eq, Bool.or_eq_true, beq_iff_eq] at h
      obtain ⟨⟨⟨rfl, g⟩, hes⟩, hl⟩ := h
      obtain ⟨g, d, n⟩ := glB_of hs g
      exact snd_range (sndEs as W sc X es O hs hes) (ckEs_nice hes) hl g (O.blt _ (by decide))
  | .enum c, W, sc, X, tg, e, O, hs, h => by
    cases tg <;> first | (cases h; done) | skip
    rename_i elts kk tpos
    cases e <;> first | (cases h; done) | skip
    rename_i fn es kws pos
    cases fn <;> first | (cases h; done) | skip
    rename_i x p
    match es, kws, h with
    | [e], [], h =>
      have h : (decide (x = ("enumerate" : Str)) && glB sc x && ckE Γ sc c e) = true := h
      simp only [Bool.and_eq_true, decide_eq_true_eq] at h
      obtain ⟨⟨rfl, g⟩, hc⟩ := h
      obtain ⟨g, d, n⟩ := glB_of hs g
      exact snd_enum O.K (sndE c W sc X e O hs hc).1 (nice_of hc) g (O.blt _ (by decide))
  | .zip a b, W, sc, X, tg, e, O, hs, h => by
    cases tg <;> first | (cases h; done) | skip
    rename_i elts kk tpos
    cases e <;> first | (cases h; done) | skip
    rename_i fn es kws pos
    cases fn <;> first | (cases h; done) | skip
    rename_i x p
    match es, kws, h with
    | [e, e2], [], h =>
      have h : (decide (x = ("zip" : Str)) && glB sc x && ckE Γ sc a e && ckE Γ sc b e2) = true := h
      simp only [Bool.and_eq_true, decide_eq_true_eq] at h
      obtain ⟨⟨⟨rfl, g⟩, h1⟩, h2⟩ := h
      obtain ⟨g, d, n⟩ := glB_of hs g
      exact snd_zip O.K (sndE a W sc X e O hs h1).1 (sndE b W sc X e2 O hs h2).1 (nice_of h1) (nice_of h2) g (O.blt _ (by decide))
end
end
end Rs

/-! second layer, part m: statements -/
namespace Rs
open PySem PySem.Spec PyProof.Rows L2
def FinS (k : Kx) (F : Addr → Prop) (ι : List Addr) (H : Hp) (W : WX) (D : Ends) (o : Option Out) : Prop := match o with
  | some (.nx τ' M') => ∀ (σ' : L2.St) (ι' : List Addr) (H' : Hp), SOk k F ι' H' σ' τ' M' → Stp k ι H ι' H' → D.nx σ' H'
  | some (.brk τ' M') => ∀ (σ' : L2.St) (ι' : List Addr) (H' : Hp), SOk k F ι' H' σ' τ' M' → Stp k ι H ι' H' → D.bk σ' H'
  | some (.cont τ' M') => ∀ (σ' : L2.St) (ι' : List Addr) (H' : Hp), SOk k F ι' H' σ' τ' M' → Stp k ι H ι' H' → D.ct σ' H'
  | some (.ret v M') => ∀ (x : V) (ι' : List Addr) (H' : Hp), CsOk k F ι' H' M' → Stp k ι H ι' H' → IsI k F ι' H' x v → D.rt x H'
  | some (.ex c τ' M') => ∀ (σ' : L2.St) (ι' : List Addr) (H' : Hp), SOk k F ι' H' σ' τ' M' → Stp k ι H ι' H' → W (.ref (k.xc c)) none σ' H'
  | none => False
def tS (k : Kx) (Φ : Oracle) (W : WX) (Wn : Nat) (s : S) : TS := fun D σ H => ∃ F ι τ M, SOk k F ι H σ τ M ∧ FinS k F ι H W D (evS Φ Wn s τ M)
def tSs (k : Kx) (Φ : Oracle) (W : WX) (Wn : Nat) (ss : Ss) : TS := fun D σ H => ∃ F ι τ M, SOk k F ι H σ τ M ∧ FinS k F ι H W D (evSs Φ Wn ss τ M)
theorem PS.imp {X : Cx} {st : Stmt} {t t' : TS} (h : PS X st t) (i : ∀ D σ H, t' D σ H → t D σ H) : PS X st t' := ⟨fun pins s σ H D I q => h.run pins s σ H D I (i D σ H q)⟩
theorem PSs.imp {X : Cx} {st : List Stmt} {t t' : TS} (h : PSs X st t) (i : ∀ D σ H, t' D σ H → t D σ H) : PSs X st t' := ⟨fun pins s σ H D I q => h.run pins s σ H D I (i D σ H q)⟩
section
variable {k : Kx} {F : Addr → Prop} {ι ι' : List Addr} {H H' : Hp} {W : WX} {D : Ends} {Φ : Oracle} {Wn : Nat} {σ : L2.St} {τ : Env} {M : Mem}
theorem FinS.back {o : Option Out} (st : Stp k ι H ι' H') (f : FinS k F ι H W D o) : FinS k F ι' H' W D o := by
  cases o with
  | none => exact f
  | some o =>
    cases o with
    | nx _ _ => exact fun a b c S s => f a b c S (st.trans s)
    | brk _ _ => exact fun a b c S s => f a b c S (st.trans s)
    | cont _ _ => exact fun a b c S s => f a b c S (st.trans s)
    | ret _ _ => exact fun a b c S s => f a b c S (st.trans s)
    | ex _ _ _ => exact fun a b c S s => f a b c S (st.trans s)
theorem FinS.out {r : R I} {g : I → Mem → Option Out} {Q : V → Hp → Prop} (f : FinS k F ι H W D (r.out τ g))
    (i : ∀ v M1 x ι1 H1, SOk k F ι1 H1 σ τ M1 → Stp k ι H ι1 H1 → IsI k F ι1 H1 x v → FinS k F ι1 H1 W D (g v M1) → Q x H1) : Fin k F ι H σ τ W r Q := by
  cases r with
  | ok v M1 => exact fun x ι1 H1 S s q => i v M1 x ι1 H1 S s q (FinS.back s f)
  | ex c M1 => exact fun ι1 H1 S s => f σ ι1 H1 S s
  | no => exact f
theorem FinS.outT {r : R I} {g : I → Mem → Option Out} {Q : Bool → Hp → Prop} (f : FinS k F ι H W D (r.out τ g))
    (i : ∀ v M1, r = .ok v M1 → ∃ b, truth (sh M1 v) = some b ∧ ∀ ι1 H1, SOk k F ι1 H1 σ τ M1 → Stp k ι H ι1 H1 → FinS k F ι1 H1 W D (g v M1) → Q b H1) : FinT k F ι H σ τ W r Q := by
  cases r with
  | ok v M1 =>
    obtain ⟨b, e, i⟩ := i v M1 rfl
    exact ⟨b, e, fun ι1 H1 S s => i ι1 H1 S s (FinS.back s f)⟩
  | ex c M1 => exact fun ι1 H1 S s => f σ ι1 H1 S s
  | no => exact f
theorem FinS.outI {r : R Src} {g : Src → Mem → Option Out} {Q : L2.It → Hp → Prop} (f : FinS k F ι H W D (r.out τ g))
    (i : ∀ s M1 J P ι1 H1, SOk k F ι1 H1 σ τ M1 → Stp k ι H ι1 H1 → Wk k J P s.nth → P F ι1 H1 → FinS k F ι1 H1 W D (g s M1) → Q J H1) : FinI k F ι H σ τ W r Q := by
  cases r with
  | ok v M1 => exact fun J P ι1 H1 S s w p => i v M1 J P ι1 H1 S s w p (FinS.back s f)
  | ex c M1 => exact fun ι1 H1 S s => f σ ι1 H1 S s
  | no => exact f
theorem asg_imp {g : Tg} {e : C} (h : tS k Φ W Wn (.asg g e) D σ H) : tAsg (tE k Φ W e) (gTg k.K g) D σ H := by
  obtain ⟨F, ι, τ, M, S, f⟩ := h
  unfold evS at f
  refine ⟨F, ι, τ, M, S, f.out fun v M1 x ι1 H1 S1 s1 i1 f1 => ?_⟩
  cases ea : asgT g v τ with
  | none => rw [ea] at f1; exact f1.elim
  | some τ2 => rw [ea] at f1; exact asgT_ok g S1 ea i1 fun σ' S' _ _ => f1 σ' ι1 H1 S' .refl
theorem ex_imp {c : C} (h : tS k Φ W Wn (.ex c) D σ H) : tDrop (tE k Φ W c) D σ H := by
  obtain ⟨F, ι, τ, M, S, f⟩ := h
  unfold evS at f
  exact ⟨F, ι, τ, M, S, f.out fun v M1 x ι1 H1 S1 s1 i1 f1 => f1 σ ι1 H1 S1 .refl⟩
theorem ret_imp {c : C} (h : tS k Φ W Wn (.ret c) D σ H) : tRet (tE k Φ W c) D σ H := by
  obtain ⟨F, ι, τ, M, S, f⟩ := h
  unfold evS at f
  exact ⟨F, ι, τ, M, S, f.out fun v M1 x ι1 H1 S1 s1 i1 f1 => f1 x ι1 H1 S1.cs .refl i1⟩
theorem aug_imp {i : Nat} {o : Op} {c : C} {g : Int → Int → Int} (hg : (o = .add ∧ g = fun x y => x + y) ∨ (o = .sub ∧ g = fun x y => x - y)) (h : tS k Φ W Wn (.aug i o c) D σ H) : tAug i (tE k Φ W c) (ipI g) D σ H := by
  obtain ⟨F, ι, τ, M, S, f⟩ := h
  unfold evS at f
  split at f
  · rename_i x e
    obtain ⟨w, e1, h1⟩ := S.sl i _ e
    cases h1
    have hi : i < τ.length := (List.getElem?_eq_some_iff.mp e).1
    refine ⟨.int x, e1, F, ι, τ, M, S, f.out fun v M1 y ι1 H1 S1 s1 i1 f1 => ?_⟩
    split at f1
    · cases i1
      rcases hg with ⟨rfl, rfl⟩ | ⟨rfl, rfl⟩
      · exact ⟨x, _, rfl, rfl, f1 _ ι1 H1 (S1.put hi (.int _)) .refl⟩
      · exact ⟨x, _, rfl, rfl, f1 _ ι1 H1 (S1.put hi (.int _)) .refl⟩
    · exact f1.elim
  · exact f.elim
/-! ### cells written -/
def rSet2 : TSet := fun o i v H Q => rSetL o i v H Q ∨ rSetD o i v H Q
theorem set_two {X : Cx} (hu : X.A.units + 1 < cLine) : PSet X rSet2 := by
  intro pins s σ H o i v ov iv u Q I ro ri rv h
  rcases h with h | h
  · exact set_list pins s σ H o i v ov iv u Q I ro ri rv h
  · exact set_dict hu pins s σ H o i v ov iv u Q I ro ri rv h
theorem keysV {κ : Type} [DecidableEq κ] : ∀ (kvs : List (κ × V)) (xs : List I) (j : κ) (v : V) (d : I), IsI k F ι H v d → IsIs k F ι H (kvs.map (·.2)) xs →
    (kvs.map fun kv => if kv.1 = j then (kv.1, v) else kv).map (·.1) = kvs.map (·.1) ∧ IsIs k F ι H ((kvs.map fun kv => if kv.1 = j then (kv.1, v) else kv).map (·.2)) (putV (kvs.map (·.1)) xs j d)
  | [], xs, j, v, d, hv, h => by
    cases h
    exact ⟨rfl, .nil⟩
  | (k0, v0) :: kvs, xs, j, v, d, hv, h => by
    cases h with
    | cons h t =>
      rename_i x xs
      have ih := keysV kvs xs j v d hv t
      by_cases hk : k0 = j
      · refine ⟨?_, ?_⟩
        · rw [List.map_cons, List.map_cons, List.map_cons, ih.1]
          simp [hk]
        · show IsIs k F ι H ((if k0 = j then (k0, v) else (k0, v0)).2 :: _) ((if k0 = j then d else x) :: _)
          rw [if_pos hk, if_pos hk]
          exact .cons hv ih.2
      · refine ⟨?_, ?_⟩
        · rw [List.map_cons, List.map_cons, List.map_cons, ih.1]
          simp [hk]
        · show IsIs k F ι H ((if k0 = j then (k0, v) else (k0, v0)).2 :: _) ((if k0 = j then d else x) :: _)
          rw [if_neg hk, if_neg hk]
          exact .cons h ih.2
theorem keysK {κ : Type} [DecidableEq κ] (kvs : List (κ × V)) (xs : List I) (j : κ) (v : V) (d : I) (hv : IsI k F ι H v d) (h : IsIs k F ι H (kvs.map (·.2)) xs) :
    (L2.putK kvs j v).map (·.1) = (Rs.putK (kvs.map (·.1)) xs j d).1 ∧ IsIs k F ι H ((L2.putK kvs j v).map (·.2)) (Rs.putK (kvs.map (·.1)) xs j d).2 := by
  unfold L2.putK Rs.putK
  rw [List.any_map]
  show (_ ∧ _)
  by_cases hk : (kvs.any fun kv => decide (kv.1 = j)) = true
  · rw [if_pos hk]
    have e : (kvs.any ((fun k => decide (k = j)) ∘ fun x => x.fst)) = true := hk
    rw [if_pos e]
    exact keysV kvs xs j v d hv h
  · rw [if_neg hk]
    have e : ¬ (kvs.any ((fun k => decide (k = j)) ∘ fun x => x.fst)) = true := hk
    rw [if_neg e]
    refine ⟨by rw [List.map_append]; rfl, ?_⟩
    rw [List.map_append]
    exact h.append (.cons hv .nil)
theorem seti_imp {o ix e : C} (h : tS k Φ W Wn (.seti o ix e) D σ H) : tAsg (tE k Φ W e) (gSub (tE k Φ W o) (tE k Φ W ix) rSet2) D σ H := by
  obtain ⟨F, ι, τ, M, S, f⟩ := h
  unfold evS at f
  refine ⟨F, ι, τ, M, S, f.out fun d M1 y ι1 H1 S1 s1 iy f1 => ⟨F, ι1, τ, M1, S1, f1.out fun v M2 x ι2 H2 S2 s2 ix' f2 => ⟨F, ι2, τ, M2, S2, f2.out fun kk M3 z ι3 H3 S3 s3 iz f3 => ?_⟩⟩⟩
  split at f3
  · rename_i n
    have ix3 := ix'.go s3
    have iy3 := (iy.go s2).go s3
    cases ix3 with
    | obj ea =>
      rename_i p
      split at f3
      · rename_i c em
        have hc := S3.cs.ce n c p em ea
        cases es : setC c kk d with
        | none => rw [es] at f3; exact f3.elim
        | some c' =>
          rw [es] at f3
          -- one write
          have fin : ∀ {o o' : HO}, H3 p = some o → Wr o → (∀ st : Stp k ι3 H3 ι3 (upd H3 p o'), CellOk k F ι3 (upd H3 p o') p c') → D.nx σ (upd H3 p o') := fun {o o'} hp ho hh => by
            have st : Stp k ι3 H3 ι3 (upd H3 p o') := .put hp ho (List.mem_iff_getElem?.mpr ⟨n, ea⟩)
            exact f3 σ ι3 _ (S3.next st (S3.cs.put em ea hp ho (hh st))) st
          cases c with
          | lst xs =>
            obtain ⟨vs, hp, hx⟩ := hc
            cases kk <;> first | (cases es; done) | skip
            cases iz
            obtain ⟨ys, ep, rfl⟩ := map_some (show (putAt xs _ d).map Cell.lst = some c' from es)
            obtain ⟨j, ej, rfl⟩ := map_some (show (ixN xs.length _).map (fun j => xs.set j d) = some ys from ep)
            exact .inl ⟨p, vs, _, j, rfl, rfl, hp, by rw [hx.length]; exact ej, fin hp trivial fun st => ⟨_, upd_same, (hx.set j iy3).go st⟩⟩
          | dic ks xs =>
            obtain ⟨kvs, hp, hk, hx⟩ := hc
            subst hk
            have es : (match keyI kk with
              | some k => if (kvs.map (·.1)).length < sizeLine then some (Cell.dic (Rs.putK (kvs.map (·.1)) xs k d).1 (Rs.putK (kvs.map (·.1)) xs k d).2) else none
              | none => none) = some c' := by
              cases kk <;> exact es
            split at es
            · rename_i j ej
              obtain ⟨hl, es⟩ := if_some es
              cases es
              rw [List.length_map] at hl
              obtain ⟨q1, q2⟩ := keysK kvs xs j y d iy3 hx
              have ez := keyI_of iz ej
              subst ez
              exact .inr ⟨p, _, rfl, .k hp hl, fin hp trivial fun st => ⟨_, upd_same, q1, q2.go st⟩⟩
            · cases es
          | dit ks xs =>
            obtain ⟨kvs, hp, hk, hx⟩ := hc
            subst hk
            cases kk <;> first | (cases es; done) | skip
            rename_i bs
            have es : (match keysI bs with
              | some k => if (kvs.map (·.1)).length < sizeLine then some (Cell.dit (Rs.putK (kvs.map (·.1)) xs k d).1 (Rs.putK (kvs.map (·.1)) xs k d).2) else none
              | none => none) = some c' := es
            split at es
            · rename_i j ej
              obtain ⟨hl, es⟩ := if_some es
              cases es
              rw [List.length_map] at hl
              obtain ⟨q1, q2⟩ := keysK kvs xs j y d iy3 hx
              cases iz with
              | tup hb tb =>
                rw [keysI_of tb ej] at hb
                exact .inr ⟨p, _, rfl, .t hp hb hl, fin hp trivial fun st => ⟨_, upd_same, q1, q2.go st⟩⟩
            · cases es
          | ins _ _ => cases es
      · exact f3.elim
  · exact f3.elim
/-! ### flow -/
theorem seq_imp {s : S} {ss : Ss} (h : tSs k Φ W Wn (.cons s ss) D σ H) : tSeq (tS k Φ W Wn s) (tSs k Φ W Wn ss) D σ H := by
  obtain ⟨F, ι, τ, M, S, f⟩ := h
  unfold evSs at f
  refine ⟨F, ι, τ, M, S, ?_⟩
  cases e : evS Φ Wn s τ M with
  | none => rw [e] at f; exact f
  | some o =>
    rw [e] at f
    cases o with
    | nx τ1 M1 => exact fun σ' ι' H' S' s' => ⟨F, ι', τ1, M1, S', FinS.back s' f⟩
    | brk _ _ => exact f
    | cont _ _ => exact f
    | ret _ _ => exact f
    | ex _ _ _ => exact f
theorem if_imp {t : C} {a b : Ss} (h : tS k Φ W Wn (.cond t a b) D σ H) : tIfS (tT k Φ W t) (tSs k Φ W Wn a) (tSs k Φ W Wn b) D σ H := by
  obtain ⟨F, ι, τ, M, S, f⟩ := h
  unfold evS at f
  refine ⟨F, ι, τ, M, S, f.outT fun v M1 er => ?_⟩
  rw [er] at f
  have f : FinS k F ι H W D (match truth (sh M1 v) with
    | some true => evSs Φ Wn a τ M1
    | some false => evSs Φ Wn b τ M1
    | none => none) := f
  cases e : truth (sh M1 v) with
  | none => rw [e] at f; exact f.elim
  | some c =>
    refine ⟨c, rfl, fun ι1 H1 S1 s1 f1 => ?_⟩
    cases c with
    | true => exact iteT ⟨F, ι1, τ, M1, S1, f1⟩
    | false => exact iteF ⟨F, ι1, τ, M1, S1, f1⟩
theorem loop_imp {t : C} {b : Ss} (h : tS k Φ W Wn (.loop t b) D σ H) : tWhile (tT k Φ W t) (tSs k Φ W Wn b) D σ H := by
  obtain ⟨F, ι, τ, M, S, f⟩ := h
  let Wm : Nat → L2.St → Hp → Prop := fun m σ H => ∃ F ι τ M, SOk k F ι H σ τ M ∧ FinS k F ι H W D (loopW (evE Φ t) (evSs Φ Wn b) m τ M)
  refine ⟨Wm, ⟨Wn, F, ι, τ, M, S, f⟩, fun m σ H hW => ?_⟩
  obtain ⟨F, ι, τ, M, S, f⟩ := hW
  cases m with
  | zero => exact f.elim
  | succ m =>
    unfold loopW at f
    refine ⟨F, ι, τ, M, S, f.outT fun v M1 er => ?_⟩
    rw [er] at f
    have f : FinS k F ι H W D (match truth (sh M1 v) with
      | some true => match evSs Φ Wn b τ M1 with
        | some (.nx τ2 M2) => loopW (evE Φ t) (evSs Φ Wn b) m τ2 M2
        | some (.cont τ2 M2) => loopW (evE Φ t) (evSs Φ Wn b) m τ2 M2
        | some (.brk τ2 M2) => some (.nx τ2 M2)
        | r => r
      | some false => some (.nx τ M1)
      | none => none) := f
    cases e : truth (sh M1 v) with
    | none => rw [e] at f; exact f.elim
    | some c =>
      refine ⟨c, rfl, fun ι1 H1 S1 s1 f1 => ?_⟩
      cases c with
      | false => exact iteF (f1 σ ι1 H1 S1 .refl)
      | true =>
        refine iteT ⟨fun σ' H' => Wm m σ' H', fun σ' H' hN => ⟨m, Nat.lt_succ_self _, hN⟩, F, ι1, τ, M1, S1, ?_⟩
        dsimp only at f1
        cases eb : evSs Φ Wn b τ M1 with
        | none => rw [eb] at f1; exact f1.elim
        | some o =>
          rw [eb] at f1
          cases o with
          | nx τ2 M2 => exact fun σ2 ι2 H2 S2 s2 => ⟨F, ι2, τ2, M2, S2, FinS.back s2 f1⟩
          | cont τ2 M2 => exact fun σ2 ι2 H2 S2 s2 => ⟨F, ι2, τ2, M2, S2, FinS.back s2 f1⟩
          | brk τ2 M2 => exact f1
          | ret _ _ => exact f1
          | ex _ _ _ => exact f1
theorem eachL_eq (g : Tg) (b : Env → Mem → Option Out) (xs : List I) : ∀ (n i : Nat) (τ : Env) (M : Mem), n = xs.length - i → i ≤ xs.length → eachL g b (xs.drop i) τ M = eachG (Src.vals xs).nth g b (n + 1) i τ M
  | 0, i, τ, M, h, hi => by
    have e : i = xs.length := by omega
    subst e
    rw [List.drop_length]
    have hn : (Src.vals xs).nth M xs.length = some none := by
      show some xs[xs.length]? = _
      rw [List.getElem?_eq_none (Nat.le_refl _)]
    unfold eachG
    rw [hn]; rfl
  | n + 1, i, τ, M, h, hi => by
    have hlt : i < xs.length := by omega
    have ih := eachL_eq g b xs n (i + 1)
    rw [List.drop_eq_getElem_cons hlt]
    have hn : (Src.vals xs).nth M i = some (some xs[i]) := by
      show some xs[i]? = _
      rw [List.getElem?_eq_getElem hlt]
    unfold eachL
    unfold eachG
    rw [hn]
    dsimp only
    cases asgT g xs[i] τ with
    | none => rfl
    | some τ1 =>
      dsimp only
      cases b τ1 M with
      | none => rfl
      | some o =>
        cases o with
        | nx τ2 M2 => exact ih _ _ (by omega) (by omega)
        | cont τ2 M2 => exact ih _ _ (by omega) (by omega)
        | brk _ _ => rfl
        | ret _ _ => rfl
        | ex _ _ _ => rfl
theorem each_imp {g : Tg} {it : It} {b : Ss} (h : tS k Φ W Wn (.each g it b) D σ H) : tFor (tI k Φ W it) (gTg k.K g) (tSs k Φ W Wn b) D σ H := by
  obtain ⟨F, ι, τ, M, S, f⟩ := h
  unfold evS at f
  refine ⟨F, ι, τ, M, S, f.outI fun src M1 J P ι1 H1 S1 s1 wk p f1 => ?_⟩
  have f1 : ∃ w, FinS k F ι1 H1 W D (eachG src.nth g (evSs Φ Wn b) w 0 τ M1) := by
    cases src with
    | vals xs =>
      have e := eachL_eq g (evSs Φ Wn b) xs xs.length 0 τ M1 rfl (Nat.zero_le _)
      rw [List.drop_zero] at e
      exact ⟨xs.length + 1, e ▸ f1⟩
    | cell n => exact ⟨Wn, f1⟩
  obtain ⟨w, f1⟩ := f1
  clear f s1
  let Wm : Nat → Nat → L2.St → Hp → Prop := fun i m σ H => ∃ F ι τ M, SOk k F ι H σ τ M ∧ P F ι H ∧ FinS k F ι H W D (eachG src.nth g (evSs Φ Wn b) m i τ M)
  refine ⟨Wm, ⟨w, F, ι1, τ, M1, S1, p, f1⟩, fun i m σ H hW => ?_⟩
  obtain ⟨F, ι, τ, M, S, p, f⟩ := hW
  cases m with
  | zero => exact f.elim
  | succ m =>
    unfold eachG at f
    split at f
    · rename_i en
      exact .inl ⟨wk.stop F i ι H M S.cs p en, f σ ι H S .refl⟩
    · rename_i v en
      refine .inr ⟨wk.go F i ι H M v S.cs p en, fun σ' H' => Wm (i + 1) m σ' H', fun σ' H' hN => ⟨m, Nat.lt_succ_self _, hN⟩, fun x H2 hy => ?_⟩
      obtain ⟨hH, iv⟩ := wk.yld F i v ι H M x H2 S.cs p en hy
      have st2 : Stp k ι H ι H2 ∧ SOk k F ι H2 σ τ M := by
        rcases hH with rfl | ⟨T, ts, hT, rfl⟩
        · exact ⟨.refl, S⟩
        · exact ⟨.new hT, S.next (.new hT) (S.cs.new hT)⟩
      obtain ⟨st2, S2⟩ := st2
      split at f
      · rename_i τ1 ea
        refine asgT_ok g S2 ea iv fun σ2 S3 _ _ => ⟨F, ι, τ1, M, S3, ?_⟩
        have f := FinS.back st2 f
        have p2 := wk.stay _ _ _ _ _ st2 p
        cases eb : evSs Φ Wn b τ1 M with
        | none => rw [eb] at f; exact f.elim
        | some o =>
          rw [eb] at f
          cases o with
          | nx τ2 M2 => exact fun σ2 ι2 H2 S2 s2 => ⟨F, ι2, τ2, M2, S2, wk.stay _ _ _ _ _ s2 p2, FinS.back s2 f⟩
          | cont τ2 M2 => exact fun σ2 ι2 H2 S2 s2 => ⟨F, ι2, τ2, M2, S2, wk.stay _ _ _ _ _ s2 p2, FinS.back s2 f⟩
          | brk τ2 M2 => exact f
          | ret _ _ => exact f
          | ex _ _ _ => exact f
      · exact f.elim
    · exact f.elim
theorem pair_imp {i j : Nat} {as : Cs} (h : tS k Φ W Wn (.asg (.tup (.cons (.nm i) (.cons (.nm j) .nil))) (.disp true as)) D σ H) : tPar i j (tA k Φ W as) D σ H := by
  obtain ⟨F, ι, τ, M, S, f⟩ := h
  unfold evS at f
  refine ⟨F, ι, τ, M, S, ?_⟩
  unfold evE at f
  cases e : evEs Φ as τ M with
  | no => rw [e] at f; exact f
  | ex c M1 => rw [e] at f; exact fun ι1 H1 S1 s1 => f σ ι1 H1 S1 s1
  | ok vs M1 =>
    rw [e] at f
    have f : FinS k F ι H W D ((R.of (dispD true vs) M1).out τ fun v M1 => (asgT (.tup (.cons (.nm i) (.cons (.nm j) .nil))) v τ).map fun τ2 => .nx τ2 M1) := f
    intro xs ι1 H1 S1 s1 i1
    cases ed : dispD true vs with
    | none => rw [ed] at f; exact f.elim
    | some v =>
      rw [ed] at f
      replace f : FinS k F ι H W D ((asgT (.tup (.cons (.nm i) (.cons (.nm j) .nil))) v τ).map fun τ2 => .nx τ2 M1) := f
      cases ea : asgT (.tup (.cons (.nm i) (.cons (.nm j) .nil))) v τ with
      | none => rw [ea] at f; exact f.elim
      | some τ2 =>
        rw [ea] at f
        replace f : ∀ (σ' : L2.St) (ι' : List Addr) (H' : Hp), SOk k F ι' H' σ' τ2 M1 → Stp k ι H ι' H' → D.nx σ' H' := f
        have hv : v = .tup vs := by
          unfold dispD at ed
          obtain ⟨_, ed⟩ := if_some ed
          cases ed; rfl
        subst hv
        have q := asgTs_ok (R := fun σ' H' => D.nx σ' H') (.cons (.nm i) (.cons (.nm j) .nil)) S1 ea i1 fun σ' S' _ _ => f σ' ι1 H1 S' s1
        obtain ⟨v, r, rfl, v2, r2, rfl, rfl, q⟩ := q
        exact ⟨v, v2, rfl, q⟩
end
end Rs

/-! second layer, part n: statements in the text -/
namespace Rs
open PySem PySem.Spec PyProof.Rows L2
def noComp : Expr → Bool
  | .ListComp .. => false
  | .SetComp .. => false
  | .DictComp .. => false
  | _ => true
theorem swaps_no {e : Expr} (h : noComp e = true) (t : Option Expr) (l : Nat) (env : PySem.Env) : swapsWith e t l env = pure false := by
  cases e <;> first | (cases h; done) | rfl
def noSwap : Expr → Expr → Bool
  | .Tuple _ _ _, .Tuple vs _ _ => vs.all (foldedForSure 8)
  | .List _ _, .Tuple vs _ _ => vs.all (foldedForSure 8)
  | _, _ => true
theorem noSwap_ok {tg e : Expr} {env : PySem.Env} (h : noSwap tg e = true) : swappedStores [tg] e env = pure none := by
  cases tg <;> cases e <;> first
    | rfl
    | (have h : List.all _ (foldedForSure 8) = true := h
       unfold swappedStores
       dsimp only
       rw [h]
       split
       · rfl
       · split
         · rfl
         · split
           · rfl
           · rfl)
def ckPair (Γ : Ctx) (sc : Scope) : Tg → C → Expr → Expr → Bool
  | .tup (.cons (.nm i) (.cons (.nm j) .nil)), .disp true as, .Tuple [.Name x px, .Name y py] _ _, .Tuple [a, b] _ _ =>
    decide (Γ.N[i]? = some x) && decide (Γ.N[j]? = some y) && !(i == j) && locB sc x && locB sc y && (py.line == px.line) && !([a, b].all (foldedForSure 8)) && !([a, b].all (constantsAlone 8)) && !([x, y].eraseDups.length != [x, y].length) && ckEs Γ sc as [a, b]
  | _, _, _, _ => false
def ckLc (Γ : Ctx) (sc : Scope) : Tg → C → Expr → Expr → Bool
  | .nm i, .comp own elt g it ifs, .Name y py, .ListComp ee [⟨tg, ie, is, asy⟩] scope lp =>
    decide (Γ.N[i]? = some y) && locB sc y && (py.line == lp.line) && !(scope.names.any fun (n, k) => n == y && (k == .local || k == .cell)) &&
    decide (asy = 0) && blkC Γ.N sc scope (ownP Γ.N own) && ckT Γ.N false (relS sc scope) own g tg && ckIt Γ sc it tg ie && ckE Γ (relS sc scope) elt ee && ckIfs Γ (relS sc scope) ifs is
  | .nm i, .cell (.comp own elt g it ifs), .Name y py, .ListComp ee [⟨tg, ie, is, asy⟩] scope lp =>
    decide (Γ.N[i]? = some y) && locB sc y && (py.line == lp.line) && !(scope.names.any fun (n, k) => n == y && (k == .local || k == .cell)) &&
    decide (asy = 0) && blkC Γ.N sc scope (ownP Γ.N own) && ckT Γ.N false (relS sc scope) own g tg && ckIt Γ sc it tg ie && ckE Γ (relS sc scope) elt ee && ckIfs Γ (relS sc scope) ifs is
  | _, _, _, _ => false
def allI (Γ : Ctx) : List Nat := List.range Γ.N.length
mutual
def ckS (Γ : Ctx) (sc : Scope) : S → Stmt → Bool
  | .asg g e, st => match st with
    | .Assign [tg] ex _ => (ckT Γ.N true sc (allI Γ) g tg && ckE Γ sc e ex && noComp ex && noSwap tg ex) || ckPair Γ sc g e tg ex || ckLc Γ sc g e tg ex
    | _ => false
  | .ex c, st => match st with
    | .Expr e _ => ckE Γ sc c e && noComp e
    | _ => false
  | .aug i o c, st => match st with
    | .AugAssign (.Name x _) op e _ => decide (Γ.N[i]? = some x) && (locB sc x || decide (sc.names.lookup x = some .cell)) && (match o, op with
      | .add, .Add => true
      | .sub, .Sub => true
      | _, _ => false) && ckE Γ sc c e
    | _ => false
  | .seti o ix e, st => match st with
    | .Assign [.Subscript eo ie _] ex _ => ckE Γ sc o eo && ckE Γ sc ix ie && ckE Γ sc e ex && noComp ex
    | _ => false
  | .cond t a b, st => match st with
    | .If c p q _ => ckE Γ sc t c && ckSs Γ sc a p && ckSs Γ sc b q
    | _ => false
  | .loop t b, st => match st with
    | .While c p [] _ => ckE Γ sc t c && ckSs Γ sc b p
    | _ => false
  | .each g it b, st => match st with
    | .For tg ie p [] _ => ckT Γ.N true sc (allI Γ) g tg && ckIt Γ sc it tg ie && ckSs Γ sc b p
    | _ => false
  | .ret e, st => match st with
    | .Return (some ex) _ => ckE Γ sc e ex
    | _ => false
  | .retN, st => match st with
    | .Return none _ => true
    | _ => false
  | .pass, st => match st with
    | .Pass _ => true
    | .Expr (.Constant (.str _) _ _) _ => true
    | _ => false
  | .brk, st => match st with
    | .Break _ => true
    | _ => false
  | .cont, st => match st with
    | .Continue _ => true
    | _ => false
  | .raise _, _ => false
  | .stuck, _ => true
def ckSs (Γ : Ctx) (sc : Scope) : Ss → List Stmt → Bool
  | .nil, [] => true
  | .cons s ss, st :: r => ckS Γ sc s st && ckSs Γ sc ss r
  | _, _ => false
end
section
variable {Γ : Ctx} {Φ : Oracle} {k : Kx} {W : WX} {Wn : Nat}
variable (hΦ : ∀ f x ps vs M, Γ.fns[f]? = some (x, ps) → Φ f vs M ≠ .no → vs.length = ps.length)
include hΦ
theorem sndG {X : Cx} {sc : Scope} {g : Tg} {tg : Expr} (O : XOk k Γ Φ W X) (hs : X.env.scope = sc) (hf : ∀ x, X.fn x = true) (h : ckT Γ.N true sc (allI Γ) g tg = true) : PG X tg (gTg X.K g) := by
  refine sndT O.calm O.nd (cel := true) (sc := sc) (own := allI Γ) (fun x hx => ?_) g tg (by rw [O.N]; exact h)
  rw [Bool.true_and, Bool.or_eq_true, decide_eq_true_eq] at hx
  rcases hx with hx | hx
  · exact .inl (by rw [hs]; exact of_decide_eq_true hx)
  · exact .inr ⟨by rw [hs]; exact hx, hf x⟩
theorem sndPair {X : Cx} {sc : Scope} {g : Tg} {e : C} {tg ex : Expr} {pos : Pos} (O : XOk k Γ Φ W X) (hs : X.env.scope = sc) (h : ckPair Γ sc g e tg ex = true) : PS X (.Assign [tg] ex pos) (tS k Φ W Wn (.asg g e)) := by
  unfold ckPair at h
  split at h
  · rename_i i j as x px y py kt pt a b k2 pt2
    simp only [Bool.and_eq_true, decide_eq_true_eq, Bool.not_eq_true'] at h
    obtain ⟨⟨⟨⟨⟨⟨⟨⟨⟨h1, h2⟩, h3⟩, h4⟩, h5⟩, h6⟩, h7⟩, h8⟩, h9⟩, h10⟩ := h
    have hx : X.env.scope.names.lookup x = some .local := by rw [hs]; exact of_decide_eq_true h4
    have hy : X.env.scope.names.lookup y = some .local := by rw [hs]; exact of_decide_eq_true h5
    refine ⟨fun pins s σ H D I q => ?_⟩
    have hk : X.env.blockKind = .function := by
      unfold PySem.Env.blockKind
      rw [I.ok.kind]; rfl
    have st : ∀ e ∈ [a, b], ∀ v p, e ≠ .Starred v p := fun e he => (ckEs_nice h10 e he).star
    have hw : swappedStores [.Tuple [.Name x px, .Name y py] kt pt] (.Tuple [a, b] k2 pt2) X.env = pure (some [x, y]) := by
      have h6 : py.line = px.line := by simpa using h6
      unfold swappedStores
      dsimp only
      split
      · rename_i z
        rw [hk] at z
        cases z
      · split
        · rename_i z
          obtain ⟨e, he, w⟩ := List.any_eq_true.mp z
          cases e <;> first | (cases w; done) | exact absurd rfl (st _ he _ _)
        · rw [h7, h8]
          have h9' : [x, y].eraseDups.length = 2 := by simpa using h9
          simp [PySem.Env.kindOf, hx, hy, Expr.pos, h6, h9']
    exact (ps_par (pos := pos) O.calm O.nd (by rw [O.N]; exact h1) (by rw [O.N]; exact h2) (by simpa using h3) hx hy (sndEs hΦ as W sc X [a, b] O hs h10).pa hw).run pins s σ H D I (pair_imp q)
  · cases h
theorem sndLc {X : Cx} {sc : Scope} {g : Tg} {e : C} {tg ex : Expr} {pos : Pos} (O : XOk k Γ Φ W X) (hs : X.env.scope = sc) (h : ckLc Γ sc g e tg ex = true) : PS X (.Assign [tg] ex pos) (tS k Φ W Wn (.asg g e)) := by
  unfold ckLc at h
  split at h
  · rename_i i own elt g it ifs y py ee tg ie is asy scope lp
    simp only [Bool.and_eq_true, decide_eq_true_eq, Bool.not_eq_true'] at h
    obtain ⟨⟨⟨⟨⟨⟨⟨⟨⟨k1, k2⟩, k3⟩, k4⟩, rfl⟩, h1⟩, h2⟩, h3⟩, h4⟩, h5⟩ := h
    exact PS.imp ((comp_pe (cl := false) O hs h1 h2 (sndIt hΦ it W sc X tg ie O hs h3) (nice_it h3) (fun s H C cl fp => (sndE hΦ elt W0 (relS sc scope) _ ee (O.blk s H scope _ fp) (relS_eq hs C cl) h4).1) (fun s H C cl fp => sndIfs hΦ ifs (relS sc scope) _ is (O.blk s H scope _ fp) (relS_eq hs C cl) h5)).2
      (by rw [O.N]; exact k1) (by rw [hs]; exact of_decide_eq_true k2) k3 k4) fun D σ H q => asg_imp q
  · rename_i i own elt g it ifs y py ee tg ie is asy scope lp
    simp only [Bool.and_eq_true, decide_eq_true_eq, Bool.not_eq_true'] at h
    obtain ⟨⟨⟨⟨⟨⟨⟨⟨⟨k1, k2⟩, k3⟩, k4⟩, rfl⟩, h1⟩, h2⟩, h3⟩, h4⟩, h5⟩ := h
    exact PS.imp ((comp_pe (cl := true) O hs h1 h2 (sndIt hΦ it W sc X tg ie O hs h3) (nice_it h3) (fun s H C cl fp => (sndE hΦ elt W0 (relS sc scope) _ ee (O.blk s H scope _ fp) (relS_eq hs C cl) h4).1) (fun s H C cl fp => sndIfs hΦ ifs (relS sc scope) _ is (O.blk s H scope _ fp) (relS_eq hs C cl) h5)).2
      (by rw [O.N]; exact k1) (by rw [hs]; exact of_decide_eq_true k2) k3 k4) fun D σ H q => asg_imp q
  · cases h
mutual
theorem sndS : ∀ (s : S) (sc : Scope) (X : Cx) (st : Stmt), XOk k Γ Φ W X → X.env.scope = sc → (∀ x, X.fn x = true) → ckS Γ sc s st = true → PS X st (tS k Φ W Wn s)
  | .asg g e, sc, X, st, O, hs, hf, h => by
    unfold ckS at h
    split at h <;> first | (cases h; done) | skip
    rename_i tg ex pos
    simp only [Bool.or_eq_true, Bool.and_eq_true] at h
    have hK := O.K
    rcases h with (⟨⟨⟨h1, h2⟩, h3⟩, h4⟩ | h) | h
    · refine PS.imp (ps_asg (sndE hΦ e W sc X ex O hs h2).1 (sndG hΦ O hs hf h1) (swaps_no h3 _ _ _) (noSwap_ok h4) ?_) fun D σ H q => hK ▸ asg_imp q
      exact assignEach_cons h1
    · exact sndPair hΦ O hs h
    · exact sndLc hΦ O hs h
  | .ex c, sc, X, st, O, hs, hf, h => by
    unfold ckS at h
    split at h <;> first | (cases h; done) | skip
    rw [Bool.and_eq_true] at h
    exact PS.imp (ps_expr (sndE hΦ c W sc X _ O hs h.1).1 (swaps_no h.2 _ _ _)) fun D σ H q => ex_imp q
  | .aug i o c, sc, X, st, O, hs, hf, h => by
    unfold ckS at h
    split at h <;> first | (cases h; done) | skip
    rename_i x p op e pos
    simp only [Bool.and_eq_true, Bool.or_eq_true, decide_eq_true_eq] at h
    obtain ⟨⟨⟨h1, h2⟩, h3⟩, h4⟩ := h
    have hx : L2.Loc X.env.scope x := by
      rcases h2 with k | k
      · exact .inl (by rw [hs]; exact of_decide_eq_true k)
      · exact .inr (by rw [hs]; exact k)
    have he := (sndE hΦ c W sc X e O hs h4).1
    split at h3
    · exact PS.imp (ps_aug O.nd (by rw [O.N]; exact h1) hx he ip_add (.inl (hf x))) fun D σ H q => aug_imp (.inl ⟨rfl, rfl⟩) q
    · exact PS.imp (ps_aug O.nd (by rw [O.N]; exact h1) hx he ip_sub (.inl (hf x))) fun D σ H q => aug_imp (.inr ⟨rfl, rfl⟩) q
    · cases h3
  | .seti o ix e, sc, X, st, O, hs, hf, h => by
    unfold ckS at h
    split at h <;> first | (cases h; done) | skip
    rename_i eo ie p2 ex pos
    simp only [Bool.and_eq_true] at h
    obtain ⟨⟨⟨h1, h2⟩, h3⟩, h4⟩ := h
    have n := nice_of h2
    exact PS.imp (ps_asg (sndE hΦ e W sc X ex O hs h3).1 (pg_sub (sndE hΦ o W sc X eo O hs h1).1 (sndE hΦ ix W sc X ie O hs h2).1 (set_two (by have := O.hu; omega)) (fun v => by cases ie <;> first | rfl | exact absurd rfl (n.slice _ _ _ _))) (swaps_no h4 (some (.Subscript eo ie p2)) pos.line X.env)) fun D σ H q => seti_imp q
  | .cond t a b, sc, X, st, O, hs, hf, h => by
    unfold ckS at h
    split at h <;> first | (cases h; done) | skip
    simp only [Bool.and_eq_true] at h
    exact PS.imp (ps_if (sndE hΦ t W sc X _ O hs h.1.1).2 (sndSs a sc X _ O hs hf h.1.2) (sndSs b sc X _ O hs hf h.2)) fun D σ H q => if_imp q
  | .loop t b, sc, X, st, O, hs, hf, h => by
    unfold ckS at h
    split at h <;> first | (cases h; done) | skip
    simp only [Bool.and_eq_true] at h
    exact PS.imp (ps_while O.po (sndE hΦ t W sc X _ O hs h.1).2 (sndSs b sc X _ O hs hf h.2)) fun D σ H q => loop_imp q
  | .each g it b, sc, X, st, O, hs, hf, h => by
    unfold ckS at h
    split at h <;> first | (cases h; done) | skip
    simp only [Bool.and_eq_true] at h
    obtain ⟨⟨h1, h2⟩, h3⟩ := h
    have hK := O.K
    exact PS.imp (ps_for O.po O.calm (sndIt hΦ it W sc X _ _ O hs h2) (sndG hΦ O hs hf h1) (sndSs b sc X _ O hs hf h3) ((nice_it h2).folded X.env)) fun D σ H q => hK ▸ each_imp q
  | .ret e, sc, X, st, O, hs, hf, h => by
    unfold ckS at h
    split at h <;> first | (cases h; done) | skip
    exact PS.imp (ps_ret (sndE hΦ e W sc X _ O hs h).1) fun D σ H q => ret_imp q
  | .retN, sc, X, st, O, hs, hf, h => by
    unfold ckS at h
    split at h <;> first | (cases h; done) | skip
    refine PS.imp ps_retN fun D σ H q => ?_
    obtain ⟨F, ι, τ, M, S, f⟩ := q
    exact f .non ι H S.cs .refl .non
  | .pass, sc, X, st, O, hs, hf, h => by
    have go : ∀ D σ H, tS k Φ W Wn .pass D σ H → D.nx σ H := fun D σ H q => by
      obtain ⟨F, ι, τ, M, S, f⟩ := q
      exact f σ ι H S .refl
    unfold ckS at h
    split at h <;> first | (cases h; done) | skip
    · exact PS.imp ps_pass go
    · exact PS.imp ps_doc go
  | .brk, sc, X, st, O, hs, hf, h => by
    unfold ckS at h
    split at h <;> first | (cases h; done) | skip
    refine PS.imp ps_break fun D σ H q => ?_
    obtain ⟨F, ι, τ, M, S, f⟩ := q
    exact f σ ι H S .refl
  | .cont, sc, X, st, O, hs, hf, h => by
    unfold ckS at h
    split at h <;> first | (cases h; done) | skip
    refine PS.imp ps_continue fun D σ H q => ?_
    obtain ⟨F, ι, τ, M, S, f⟩ := q
    exact f σ ι H S .refl
  | .raise c, sc, X, st, O, hs, hf, h => by cases h
  | .stuck, sc, X, st, O, hs, hf, h => ⟨fun pins s σ H D I q => by
    obtain ⟨F, ι, τ, M, S, f⟩ := q
    exact f.elim⟩
theorem sndSs : ∀ (ss : Ss) (sc : Scope) (X : Cx) (sts : List Stmt), XOk k Γ Φ W X → X.env.scope = sc → (∀ x, X.fn x = true) → ckSs Γ sc ss sts = true → PSs X sts (tSs k Φ W Wn ss)
  | .nil, sc, X, sts, O, hs, hf, h => by
    cases sts with
    | nil =>
      refine PSs.imp pss_nil fun D σ H q => ?_
      obtain ⟨F, ι, τ, M, S, f⟩ := q
      exact f σ ι H S .refl
    | cons _ _ => cases h
  | .cons s ss, sc, X, sts, O, hs, hf, h => by
    cases sts with
    | nil => cases h
    | cons st r =>
      have h : (ckS Γ sc s st && ckSs Γ sc ss r) = true := h
      rw [Bool.and_eq_true] at h
      exact PSs.imp (pss_cons (sndS s sc X st O hs hf h.1) (sndSs ss sc X r O hs hf h.2)) fun D σ H q => seq_imp q
end
end
end Rs

/-! second layer, part o: a def in cells of its own -/
namespace Rs
open PySem PySem.Spec PyProof.Rows L2
section
theorem mapM_get {α β : Type} {f : α → Option β} : ∀ {xs : List α} {ys : List β}, xs.mapM f = some ys → xs.length = ys.length ∧ ∀ (i : Nat) (x : α), xs[i]? = some x → ∃ y, ys[i]? = some y ∧ f x = some y
  | [], ys, h => by cases h; exact ⟨rfl, fun i x e => by simp at e⟩
  | x :: xs, ys, h => by
    rw [List.mapM_cons] at h
    cases e1 : f x with
    | none => rw [e1] at h; cases h
    | some y =>
      cases e2 : xs.mapM f with
      | none => rw [e1, e2] at h; cases h
      | some zs =>
        rw [e1, e2] at h
        cases h
        obtain ⟨l, g⟩ := mapM_get e2
        refine ⟨congrArg (· + 1) l, fun i w e => ?_⟩
        cases i with
        | zero => simp at e; subst e; exact ⟨y, rfl, e1⟩
        | succ i => exact g i w (by simpa using e)
theorem mapM_of {α β : Type} {f : α → Option β} : ∀ {xs : List α}, (∀ x ∈ xs, ∃ y, f x = some y) → ∃ ys, xs.mapM f = some ys
  | [], _ => ⟨[], rfl⟩
  | x :: xs, h => by
    obtain ⟨y, e1⟩ := h x List.mem_cons_self
    obtain ⟨ys, e2⟩ := mapM_of (xs := xs) fun z m => h z (List.mem_cons_of_mem _ m)
    exact ⟨y :: ys, by rw [List.mapM_cons, e1, e2]; rfl⟩
theorem mapM_id {f : I → Option I} : ∀ {xs : List I}, (∀ x ∈ xs, f x = some x) → xs.mapM f = some xs
  | [], _ => rfl
  | x :: xs, h => by
    rw [List.mapM_cons, h x List.mem_cons_self, mapM_id fun y m => h y (List.mem_cons_of_mem _ m)]; rfl
theorem flats_mem : ∀ {xs : List I}, I.flats xs = true → ∀ x ∈ xs, x.flat = true
  | x :: xs, h, y, m => by
    unfold I.flats at h
    rw [Bool.and_eq_true] at h
    rcases List.mem_cons.mp m with rfl | m
    · exact h.1
    · exact flats_mem h.2 y m
theorem frz_flat {M : Mem} : ∀ (n : Nat) {x : I}, x.flat = true → frz M n x = some x
  | 0, x, h => by
    unfold frz
    rw [if_pos h]
  | n + 1, x, h => by
    have ih := fun {x} => @frz_flat M n x
    cases x with
    | tup xs => show (xs.mapM (frz M n)).map I.tup = _; rw [mapM_id fun x m => ih (flats_mem (by unfold I.flat at h; exact h) x m)]; rfl
    | wtp xs => show (xs.mapM (frz M n)).map I.wtp = _; rw [mapM_id fun x m => ih (flats_mem (by unfold I.flat at h; exact h) x m)]; rfl
    | lst xs => show (xs.mapM (frz M n)).map I.lst = _; rw [mapM_id fun x m => ih (flats_mem (by unfold I.flat at h; exact h) x m)]; rfl
    | dic ks xs => show (xs.mapM (frz M n)).map (I.dic ks) = _; rw [mapM_id fun x m => ih (flats_mem (by unfold I.flat at h; exact h) x m)]; rfl
    | dit ks xs => show (xs.mapM (frz M n)).map (I.dit ks) = _; rw [mapM_id fun x m => ih (flats_mem (by unfold I.flat at h; exact h) x m)]; rfl
    | obj _ => cases h
    | _ => rfl
theorem mask_len : ∀ (ns : List Nat) (M : Mem), (mask ns M).length = M.length
  | [], _ => rfl
  | n :: ns, M => by
    show ((mask ns M).set n _).length = _
    rw [List.length_set, mask_len]
theorem mask_get : ∀ (ns : List Nat) (M : Mem) (n : Nat) (c : Cell), (mask ns M)[n]? = some c → (∀ i fs, c ≠ .ins i fs) → n ∉ ns ∧ M[n]? = some c
  | [], M, n, c, h, _ => ⟨by simp, h⟩
  | m :: ns, M, n, c, h, hc => by
    have h : ((mask ns M).set m (.ins 0 []))[n]? = some c := h
    by_cases e : m = n
    · subst e
      rw [List.getElem?_set_self'] at h
      cases e2 : (mask ns M)[m]? with
      | none => rw [e2] at h; cases h
      | some w => rw [e2] at h; cases h; exact absurd rfl (hc _ _)
    · rw [List.getElem?_set_ne e] at h
      obtain ⟨a, b⟩ := mask_get ns M n c h hc
      exact ⟨fun z => (List.mem_cons.mp z).elim (fun z => e z.symm) a, b⟩
theorem put_len : ∀ (ns : List Nat) (cs : List Cell) (M : Mem), (putCells ns cs M).length = M.length
  | [], _, _ => rfl
  | _ :: _, [], _ => rfl
  | n :: ns, c :: cs, M => by
    show (putCells ns cs (M.set n c)).length = _
    rw [put_len, List.length_set]
theorem put_get : ∀ (ns : List Nat) (cs : List Cell) (M : Mem) (n : Nat) (c : Cell), ns.Nodup → cs.length = ns.length → (putCells ns cs M)[n]? = some c → (n ∉ ns ∧ M[n]? = some c) ∨ ∃ j : Nat, ns[j]? = some n ∧ cs[j]? = some c
  | [], cs, M, n, c, _, _, h => .inl ⟨by simp, by cases cs <;> exact h⟩
  | m :: ns, [], M, n, c, _, l, h => by cases l
  | m :: ns, d :: cs, M, n, c, nd, l, h => by
    rw [List.nodup_cons] at nd
    rcases put_get ns cs (M.set m d) n c nd.2 (by simpa using l) h with ⟨h1, h2⟩ | ⟨j, h1, h2⟩
    · by_cases e : m = n
      · subst e
        rw [List.getElem?_set_self'] at h2
        cases e2 : M[m]? with
        | none => rw [e2] at h2; cases h2
        | some w => rw [e2] at h2; cases h2; exact .inr ⟨0, rfl, rfl⟩
      · rw [List.getElem?_set_ne e] at h2
        exact .inl ⟨fun z => (List.mem_cons.mp z).elim (fun z => e z.symm) h1, h2⟩
    · exact .inr ⟨j + 1, h1, h2⟩
end
section
variable {k : Kx} {F F' : Addr → Prop} {ι ι0 ι1 ι' : List Addr} {H H' : Hp} {M M1 : Mem}
theorem CellOk.toF {F' : Addr → Prop} {ι' : List Addr} (hF : ∀ a, H a ≠ none → Fr F ι a → Fr F' ι' a) (hS : ∀ a o xs, H a = some (.frz o (.lst xs)) → a ∉ ι → a ∉ ι') {a : Addr} {c : Cell} (h : CellOk k F ι H a c) (f : c.flat = true) : CellOk k F' ι' H a c := by
  cases c with
  | lst xs => obtain ⟨vs, h1, h2⟩ := h; exact ⟨vs, h1, h2.to hF hS f⟩
  | dic ks xs => obtain ⟨vs, h1, hk, h2⟩ := h; exact ⟨vs, h1, hk, h2.to hF hS f⟩
  | dit ks xs => obtain ⟨vs, h1, hk, h2⟩ := h; exact ⟨vs, h1, hk, h2.to hF hS f⟩
  | ins c fs => cases f
/-- the entry: cells handed over -/
structure Ent (k : Kx) (F : Addr → Prop) (ι : List Addr) (H : Hp) (M : Mem) (ns : List Nat) (cs : List Cell) (lent : Bool) (ι0 : List Addr) : Prop where
  at_ : ∀ (j n : Nat), ns[j]? = some n → ∃ a, ι0[j]? = some a ∧ ι[n]? = some a
  len : ι0.length = ns.length
  nd : ns.Nodup
  sub : ∀ a ∈ ι0, a ∈ ι
def FF (F : Addr → Prop) (ι : List Addr) (lent : Bool) : Addr → Prop := fun a => lent = false ∧ (F a ∨ a ∈ ι)
theorem ent_of (C : CsOk k F ι H M) {ns : List Nat} {cs : List Cell} {lent : Bool} (nd : ns.Nodup) (hm : ns.mapM (M[·]?) = some cs) : ∃ ι0, Ent k F ι H M ns cs lent ι0 := by
  obtain ⟨l, g⟩ := mapM_get hm
  obtain ⟨ι0, e⟩ := mapM_of (f := fun n => ι[n]?) (xs := ns) fun n hn => by
    obtain ⟨j, hj⟩ := List.mem_iff_getElem?.mp hn
    obtain ⟨c, _, h2⟩ := g j n hj
    obtain ⟨a, h3, _⟩ := C.at h2
    exact ⟨a, h3⟩
  obtain ⟨l2, g2⟩ := mapM_get e
  refine ⟨ι0, fun j n hj => ?_, l2.symm, nd, fun a ha => ?_⟩
  · obtain ⟨a, h1, h2⟩ := g2 j n hj
    exact ⟨a, h1, h2⟩
  · obtain ⟨j, hj⟩ := List.mem_iff_getElem?.mp ha
    have hjl : j < ns.length := by rw [l2]; exact (List.getElem?_eq_some_iff.mp hj).1
    obtain ⟨b, h1, h2⟩ := g2 j _ (List.getElem?_eq_getElem hjl)
    rw [hj] at h1
    cases h1
    exact List.mem_iff_getElem?.mpr ⟨_, h2⟩
theorem Ent.not {ns : List Nat} {cs : List Cell} {lent : Bool} (E : Ent k F ι H M ns cs lent ι0) (C : CsOk k F ι H M) {n : Nat} {a : Addr} (hn : n ∉ ns) (ha : ι[n]? = some a) : a ∉ ι0 := fun m => by
  obtain ⟨j, hj⟩ := List.mem_iff_getElem?.mp m
  have hjl : j < ns.length := by rw [← E.len]; exact (List.getElem?_eq_some_iff.mp hj).1
  obtain ⟨b, h1, h2⟩ := E.at_ j _ (List.getElem?_eq_getElem hjl)
  rw [hj] at h1
  cases h1
  exact hn (by rw [nodup_get C.nd ha h2]; exact List.getElem_mem _)
theorem Ent.nd0 {ns : List Nat} {cs : List Cell} {lent : Bool} (E : Ent k F ι H M ns cs lent ι0) (C : CsOk k F ι H M) : ι0.Nodup := by
  rw [List.nodup_iff_pairwise_ne, List.pairwise_iff_getElem]
  intro i j hi hj hij e
  obtain ⟨a, h1, h2⟩ := E.at_ i _ (List.getElem?_eq_getElem (by rw [← E.len]; exact hi))
  obtain ⟨b, h3, h4⟩ := E.at_ j _ (List.getElem?_eq_getElem (by rw [← E.len]; exact hj))
  rw [List.getElem?_eq_getElem hi] at h1
  rw [List.getElem?_eq_getElem hj] at h3
  cases h1; cases h3
  rw [e] at h2
  have e2 := nodup_get C.nd h2 h4
  have := nodup_get E.nd (List.getElem?_eq_getElem (by rw [← E.len]; exact hi)) (by rw [e2]; exact List.getElem?_eq_getElem (by rw [← E.len]; exact hj))
  omega
theorem Ent.fr {ns : List Nat} {cs : List Cell} {lent : Bool} (E : Ent k F ι H M ns cs lent ι0) : ∀ a, H a ≠ none → Fr F ι a → Fr (FF F ι lent) ι0 a := fun a _ r => ⟨fun z => r.1 (E.sub a z), fun z => z.2.elim r.2 r.1⟩
theorem Ent.cs {ns : List Nat} {cs : List Cell} {lent : Bool} (E : Ent k F ι H M ns cs lent ι0) (C : CsOk k F ι H M) (hm : ns.mapM (M[·]?) = some cs) (hf : cs.all Cell.flat = true) : CsOk k (FF F ι lent) ι0 H cs := by
  obtain ⟨l, g⟩ := mapM_get hm
  refine ⟨by rw [E.len, l], E.nd0 C, fun a z => z.2.elim (C.fd a) fun z => C.dom z, fun j c a h1 h2 => ?_⟩
  have hjl : j < ns.length := by rw [← E.len]; exact (List.getElem?_eq_some_iff.mp h2).1
  have ej := List.getElem?_eq_getElem hjl
  obtain ⟨d, h3, h4⟩ := g j _ ej
  obtain ⟨b, h5, h6⟩ := E.at_ j _ ej
  rw [h1] at h3; cases h3
  rw [h2] at h5; cases h5
  exact (C.ce _ _ _ h4 h6).toF E.fr (fun a o xs _ n z => n (E.sub a z)) (List.all_eq_true.mp hf c (List.mem_iff_getElem?.mpr ⟨j, h1⟩))
/-- arguments, handed over -/
theorem Ent.args {ns : List Nat} {cs : List Cell} {lent : Bool} (E : Ent k F ι H M ns cs lent ι0) (C : CsOk k F ι H M) {mt : List Nat} {args : List I} (hns : (mt.mapM fun i => (args[i]?).bind objI) = some ns)
    (hl : lent = false → ∀ i v, mt.contains i = false → args[i]? = some v → v.flat = true) :
    ∀ (i : Nat) (vs : List I) (xs : List V) (us : List I), (∀ j, vs[j]? = args[i + j]?) → inArgs mt (mask ns M) i vs = some us → IsIs k F ι H xs vs → IsIs k (FF F ι lent) ι0 H xs us
  | _, [], xs, us, _, e, h => by cases e; cases h; exact .nil
  | i, v :: vs, xs, us, ha, e, h => by
    cases h with
    | cons h t =>
      unfold inArgs at e
      obtain ⟨u, e1, e⟩ := Option.bind_eq_some_iff.mp e
      obtain ⟨us', e2, rfl⟩ := map_some e
      have hv : args[i]? = some v := (ha 0).symm
      refine .cons ?_ (Ent.args E C hns hl (i + 1) vs _ us' (fun j => by rw [show i + 1 + j = i + (j + 1) by omega, ← ha]; rfl) e2 t)
      by_cases hc : mt.contains i = true
      · rw [if_pos hc] at e1
        obtain ⟨j, ej, rfl⟩ := map_some e1
        have ej' : mt[j]? = some i := by
          obtain ⟨hj, h1, _⟩ := List.findIdx?_eq_some_iff_getElem.mp ej
          rw [List.getElem?_eq_getElem hj]
          exact congrArg some (by simpa using h1)
        obtain ⟨l, g⟩ := mapM_get hns
        obtain ⟨n, h1, h2⟩ := g j i ej'
        rw [hv] at h2
        have h2 : objI v = some n := h2
        cases v <;> cases h2
        obtain ⟨a, h3, h4⟩ := E.at_ j _ h1
        cases h with
        | obj h =>
          rw [h] at h4
          cases h4
          exact .obj h3
      · rw [if_neg hc] at e1
        cases hlent : lent with
        | false =>
          subst hlent
          have f := hl rfl i v (by simpa using hc) hv
          rw [frz_flat _ f] at e1
          cases e1
          exact h.to E.fr (fun a o xs _ n z => n (E.sub a z)) f
        | true =>
          subst hlent
          refine frz_ok (M := mask ns M) E.fr (fun a o xs _ n z => n (E.sub a z)) (fun n c a h1 h2 h3 => ?_) dpt v u _ e1 h
          obtain ⟨q1, q2⟩ := mask_get ns M n c h1 h2
          exact ⟨C.ce n c a q2 h3, E.not C q1 h3, fun z => nomatch z.1⟩
/-- behind the callee -/
theorem Ent.stp {ns : List Nat} {cs : List Cell} {lent : Bool} (E : Ent k F ι H M ns cs lent ι0) (s : Stp k ι0 H ι1 H') : Stp k ι H ι H' :=
  ⟨List.prefix_refl _, fun a o h n => s.kp a o h fun z => n (E.sub a z), s.tp, s.tt, s.ow, s.dm, fun a h => .inl h⟩
structure Back (k : Kx) (F : Addr → Prop) (ι : List Addr) (H' : Hp) (F' : Addr → Prop) (ι1 : List Addr) (M1 : Mem) (m : Nat) (lent : Bool) : Prop where
  /-- what is frozen is held by the caller -/
  ok : ∀ (x y : I) (v : V), frz (mask (List.range m) M1) dpt x = some y → (lent = true → y.solid = true) → IsI k F' ι1 H' v x → IsI k F ι H' v y
  oks : ∀ (xs ys : List I) (vs : List V), xs.mapM (frz (mask (List.range m) M1) dpt) = some ys → (lent = true → I.solids ys = true) → IsIs k F' ι1 H' vs xs → IsIs k F ι H' vs ys
theorem Ent.back {ns : List Nat} {cs : List Cell} {lent : Bool} (E : Ent k F ι H M ns cs lent ι0) (C : CsOk k F ι H M) (C1 : CsOk k (FF F ι lent) ι1 H' M1) (s : Stp k ι0 H ι1 H') : Back k F ι H' (FF F ι lent) ι1 M1 ns.length lent := by
  have one : ∀ (x y : I) (v : V), frz (mask (List.range ns.length) M1) dpt x = some y → (lent = true → y.solid = true) → IsI k (FF F ι lent) ι1 H' v x → IsI k F ι H' v y := fun x y v e hs h => by
    cases hlent : lent with
    | true =>
      subst hlent
      have q : IsI k (fun _ => False) [] H' v y := frz_ok (F' := fun _ => False) (ι' := []) (M := mask (List.range ns.length) M1) (fun _ _ _ => ⟨(fun z => nomatch z), fun z => z⟩) (fun _ _ _ _ _ => (fun z => nomatch z)) (fun n c a h1 h2 h3 => by
        obtain ⟨_, q2⟩ := mask_get _ M1 n c h1 h2
        exact ⟨C1.ce n c a q2 h3, (fun z => nomatch z), fun z => z⟩) dpt x y v e h
      exact q.solid (hs rfl)
    | false =>
      subst hlent
      refine frz_ok (M := mask (List.range ns.length) M1) (fun a ha r => ⟨fun z => r.2 ⟨rfl, .inr z⟩, fun z => r.2 ⟨rfl, .inl z⟩⟩) (fun a o xs h n z => ?_) (fun n c a h1 h2 h3 => ?_) dpt x y v e h
      · obtain ⟨u, h1, h2⟩ := C.wr z
        have h3 := s.kp a u h1 fun w => n (s.ip.subset w)
        rw [h] at h3
        cases h3
        exact h2
      · obtain ⟨q1, q2⟩ := mask_get _ M1 n c h1 h2
        have hn : ns.length ≤ n := by
          have := mt List.mem_range.mpr q1
          omega
        have a0 : a ∉ ι0 := fun m => by
          obtain ⟨j, hj⟩ := List.mem_iff_getElem?.mp m
          have hjl : j < ι0.length := (List.getElem?_eq_some_iff.mp hj).1
          have := nodup_get C1.nd (get_prefix s.ip hj) h3
          rw [E.len] at hjl
          omega
        have hnone : H a = none := by
          rcases s.nw a (List.mem_iff_getElem?.mpr ⟨n, h3⟩) with z | z
          · exact absurd z a0
          · exact z
        exact ⟨C1.ce n c a q2 h3, fun z => C.dom z hnone, fun z => C.fd a z hnone⟩
  refine ⟨one, ?_⟩
  intro xs
  induction xs with
  | nil => intro ys vs e _ h; cases e; cases h; exact .nil
  | cons x xs ih =>
    intro ys vs e hs h
    rw [List.mapM_cons] at e
    cases e1 : frz (mask (List.range ns.length) M1) dpt x with
    | none => rw [e1] at e; cases e
    | some y =>
      cases e2 : xs.mapM (frz (mask (List.range ns.length) M1) dpt) with
      | none => rw [e1, e2] at e; cases e
      | some zs =>
        rw [e1, e2] at e
        cases e
        cases h with
        | cons h t =>
          refine .cons (one x y _ e1 (fun z => ?_) h) (ih zs _ e2 (fun z => ?_) t)
          · have := hs z
            have q : (I.solid y && I.solids zs) = true := this
            rw [Bool.and_eq_true] at q
            exact q.1
          · have := hs z
            have q : (I.solid y && I.solids zs) = true := this
            rw [Bool.and_eq_true] at q
            exact q.2
theorem Ent.done {ns : List Nat} {cs cs' : List Cell} {lent : Bool} (E : Ent k F ι H M ns cs lent ι0) (C : CsOk k F ι H M) (C1 : CsOk k (FF F ι lent) ι1 H' M1) (s : Stp k ι0 H ι1 H')
    (hm : (M1.take ns.length).mapM (frzC (mask (List.range ns.length) M1)) = some cs') (hl : cs'.length = ns.length) (hs : lent = true → cs'.all Cell.solid = true) : CsOk k F ι H' (putCells ns cs' M) := by
  have st := E.stp s
  have B := E.back C C1 s
  obtain ⟨_, g⟩ := mapM_get hm
  refine ⟨by rw [put_len]; exact C.li, C.nd, fun a h z => C.fd a h (st.dm a z), fun n c a h1 h2 => ?_⟩
  rcases put_get ns cs' M n c E.nd hl h1 with ⟨hn, h1⟩ | ⟨j, hj, hc⟩
  · have ha := C.ce n c a h1 h2
    obtain ⟨o, ho, _⟩ := ha.wr
    exact ha.go st (by rw [ho]; exact s.kp a o ho (E.not C hn h2))
  · obtain ⟨b, h3, h4⟩ := E.at_ j n hj
    rw [h2] at h4
    cases h4
    have hj1 := get_prefix s.ip h3
    have hjl : j < ns.length := (List.getElem?_eq_some_iff.mp hj).1
    have hM : j < M1.length := by rw [← C1.li]; exact (List.getElem?_eq_some_iff.mp hj1).1
    have eM := List.getElem?_eq_getElem hM
    have et : (M1.take ns.length)[j]? = some M1[j] := by
      rw [List.getElem?_take_of_lt hjl]; exact eM
    obtain ⟨c2, q1, q2⟩ := g j _ et
    rw [hc] at q1
    cases q1
    have hcell := C1.ce j _ a eM hj1
    have sol : lent = true → c.solid = true := fun z => List.all_eq_true.mp (hs z) c (List.mem_iff_getElem?.mpr ⟨j, hc⟩)
    generalize M1[j] = c1 at q2 hcell
    cases c1 with
    | lst xs =>
      obtain ⟨ys, e, rfl⟩ := map_some (show (xs.mapM (frz (mask (List.range ns.length) M1) dpt)).map Cell.lst = some c from q2)
      obtain ⟨vs, p1, p2⟩ := hcell
      exact ⟨vs, p1, B.oks xs ys vs e sol p2⟩
    | dic ks xs =>
      obtain ⟨ys, e, rfl⟩ := map_some (show (xs.mapM (frz (mask (List.range ns.length) M1) dpt)).map (Cell.dic ks) = some c from q2)
      obtain ⟨vs, p1, pk, p2⟩ := hcell
      exact ⟨vs, p1, pk, B.oks xs ys _ e sol p2⟩
    | dit ks xs =>
      obtain ⟨ys, e, rfl⟩ := map_some (show (xs.mapM (frz (mask (List.range ns.length) M1) dpt)).map (Cell.dit ks) = some c from q2)
      obtain ⟨vs, p1, pk, p2⟩ := hcell
      exact ⟨vs, p1, pk, B.oks xs ys _ e sol p2⟩
    | ins _ _ => cases q2
theorem Ent.res {ns : List Nat} {cs : List Cell} {lent : Bool} (E : Ent k F ι H M ns cs lent ι0) (C : CsOk k F ι H M) (C1 : CsOk k (FF F ι lent) ι1 H' M1) (s : Stp k ι0 H ι1 H') {x : V} {v u : I} (e : outVal ns M1 v = some u) (hs : ¬ (lent = true ∧ u.solid = false ∧ (objI u).isNone = true))
    (h : IsI k (FF F ι lent) ι1 H' x v) : IsI k F ι H' x u := by
  have B := E.back C C1 s
  unfold outVal at e
  split at e
  · rename_i n en
    cases e
    obtain ⟨j, e1, e2⟩ := Option.bind_eq_some_iff.mp en
    cases v <;> cases e1
    cases h with
    | obj h =>
      obtain ⟨b, h3, h4⟩ := E.at_ _ n e2
      have := get_prefix s.ip h3
      rw [h] at this
      cases this
      exact .obj h4
  · refine B.ok v u x e (fun hl => ?_) h
    cases hsol : u.solid with
    | true => rfl
    | false =>
      exfalso
      refine hs ⟨hl, hsol, ?_⟩
      cases u with
      | obj n =>
        -- what is frozen holds no cell
        have q : IsI k (fun _ => False) [] H' x (.obj n) := frz_ok (F' := fun _ => False) (ι' := []) (M := mask (List.range ns.length) M1) (fun _ _ _ => ⟨(fun z => nomatch z), fun z => z⟩) (fun _ _ _ _ _ => (fun z => nomatch z)) (fun n c a h1 h2 h3 => by
          obtain ⟨_, q2⟩ := mask_get _ M1 n c h1 h2
          exact ⟨C1.ce n c a q2 h3, (fun z => nomatch z), fun z => z⟩) dpt v _ x e h
        cases q with
        | obj q => simp at q
      | _ => rfl
end
end Rs

/-! second layer, part p: a text's defs, a law -/
namespace Rs
open PySem PySem.Spec PyProof.Rows L2
/-- a def of the text and what it is in the language -/
structure DefT where
  x : Str
  ps : List Str
  N : List Str
  body : Ss
  st : Stmt
  full : Bool := false
  mt : List Nat := []
structure Txt1 where
  defs : List DefT
  glb : List (Str × I) := []
  kws : List (Nat × List Str × List Nat) := []
def Txt1.ctx (T : Txt1) (N : List Str) : Ctx := { N := N, fns := T.defs.map fun d => (d.x, d.ps), glb := T.glb, kws := T.kws }
def DefT.fn (d : DefT) : Fn := { np := d.ps.length, ns := d.N.length, body := d.body, full := d.full, mt := d.mt }
def Txt1.P (T : Txt1) (i : Nat) : Option Fn := (T.defs[i]?).map DefT.fn
def okScope (N P : List Str) (sc : Scope) : Bool := decide (sc.kind = .function) && decide (sc.isCoroutine = false) && decide (sc.isGenerator = false) && decide N.Nodup && decide (N.take P.length = P) &&
  (P.all fun x => decide (sc.names.lookup x = some .local) || decide (sc.names.lookup x = some .cell)) && (sc.names.all fun y => !decide (y.2 = .free))
def Txt1.okD (T : Txt1) (d : DefT) : Bool := ckSs (T.ctx d.N) (defScope d.st) d.body (defBody d.st) && okScope d.N d.ps (defScope d.st)
def Txt1.ok (T : Txt1) : Bool := T.defs.all fun d => T.okD d
theorem okScope_ok {N P : List Str} {sc : Scope} (h : okScope N P sc = true) : FnScope N P sc := by
  unfold okScope at h
  simp only [Bool.and_eq_true, decide_eq_true_eq, List.all_eq_true, Bool.or_eq_true, Bool.not_eq_true', decide_eq_false_iff_not] at h
  obtain ⟨⟨⟨⟨⟨⟨h1, h2⟩, h3⟩, h4⟩, h5⟩, h6⟩, h7⟩ := h
  exact ⟨h1, h2, h3, h4, h5, h6, h7⟩
/-- where its defs stand -/
structure At (K : PySem.W.Frag) (mg : Str → Option Value) (T : Txt1) (i : Nat) (d : DefT) (a : Addr) (fd : FuncData) : Prop where
  f : Fun K d.x d.x d.st a fd
  m : mg d.x = some (.ref a)
  b : Binds K fd d.ps []
  k : ∀ ks ord, (i, ks, ord) ∈ T.kws → KBinds K fd d.ps ks (gK ord) (gK ord)
def start (vs : List I) (n : Nat) : Env := vs.map some ++ List.replicate n none
theorem start_ok {k : Kx} {F : Addr → Prop} {ι : List Addr} {H : Hp} {M : Mem} {xs : List V} {vs : List I} {N : List Str} (C : CsOk k F ι H M) (h : IsIs k F ι H xs vs) : SOk k F ι H (L2.start N xs) (start vs (N.length - vs.length)) M := by
  refine ⟨?_, fun i x e => ?_, C⟩
  · unfold L2.start start
    rw [List.length_append, List.length_append, List.length_map, List.length_map, List.length_replicate, List.length_replicate, h.length]
  · unfold start at e
    by_cases hi : i < vs.length
    · rw [List.getElem?_append_left (by rw [List.length_map]; exact hi), List.getElem?_map, List.getElem?_eq_getElem hi] at e
      cases e
      obtain ⟨v, h1, h2⟩ := h.get (List.getElem?_eq_getElem hi)
      refine ⟨v, ?_, h2⟩
      unfold L2.start
      rw [List.getElem?_append_left (by rw [List.length_map, h.length]; exact hi), List.getElem?_map, h1]; rfl
    · rw [List.getElem?_append_right (by rw [List.length_map]; omega)] at e
      have := List.mem_replicate.mp (List.mem_iff_getElem?.mpr ⟨_, e⟩)
      cases this.2
section
variable {P : Program} {w : World} {K : PySem.W.Frag} {mg : Str → Option Value} {base : Heap} {T : Txt1} {Wn : Nat}
theorem inArgs_len {mt : List Nat} {M : Mem} : ∀ {i : Nat} {vs us : List I}, inArgs mt M i vs = some us → us.length = vs.length
  | _, [], us, e => by cases e; rfl
  | i, v :: vs, us, e => by
    unfold inArgs at e
    obtain ⟨u, e1, e⟩ := Option.bind_eq_some_iff.mp e
    obtain ⟨us', e2, rfl⟩ := map_some e
    exact congrArg (· + 1) (inArgs_len e2)
theorem call_len {j i : Nat} {d : DefT} {vs : List I} {M : Mem} (hd : T.defs[i]? = some d) (h : evCall T.P Wn j i vs M ≠ .no) : vs.length = d.ps.length := by
  cases j with
  | zero => exact absurd rfl h
  | succ j =>
    have e : T.P i = some d.fn := by
      unfold Txt1.P
      rw [hd]; rfl
    by_cases hl : vs.length = d.fn.np
    · exact hl
    · refine absurd ?_ h
      unfold evCall
      rw [e]
      exact if_neg hl
/-- what a def's body comes to -/
theorem body_fin {k : Kx} {F : Addr → Prop} {ι : List Addr} {H : Hp} {M : Mem} {xs : List V} {vs : List I} {Q : VK} {E : XK} {fn : Fn} {Φ : Oracle} {N : List Str} (hN : fn.ns = N.length) (C : CsOk k F ι H M) (hx : IsIs k F ι H xs vs)
    (f : FinC k F ι H (if vs.length = fn.np then
        if fn.full then
          match evSs Φ Wn fn.body (vs.map some ++ List.replicate (fn.ns - fn.np) none) M with
          | some (.nx _ M1) => .ok .non M1
          | some (.ret v M1) => .ok v M1
          | some (.ex c _ M1) => .ex c M1
          | _ => .no
        else match fn.mt.mapM fun i => (vs[i]?).bind objI with
          | some ns => match ns.mapM (M[·]?), inArgs fn.mt (mask ns M) 0 vs with
            | some cs, some us => if ns.Nodup ∧ cs.all Cell.flat = true then
                let lent := !(I.flats ((List.range vs.length).filterMap fun i => if fn.mt.contains i then none else vs[i]?))
                match evSs Φ Wn fn.body (us.map some ++ List.replicate (fn.ns - fn.np) none) cs with
                | some (.nx _ M1) => match outRes ns lent (some .non) M1 M with
                  | some (some v, M2) => .ok v M2
                  | _ => .no
                | some (.ret v M1) => match outRes ns lent (some v) M1 M with
                  | some (some v, M2) => .ok v M2
                  | _ => .no
                | some (.ex c _ M1) => match outRes ns lent none M1 M with
                  | some (_, M2) => .ex c M2
                  | none => .no
                | _ => .no
              else .no
            | _, _ => .no
          | none => .no
      else .no) Q E) : tSs k Φ (fun cls d _ H => E cls d H) Wn fn.body { nx := fun _ H' => Q .non H', rt := Q } (L2.start N xs) H := by
  split at f
  · rename_i hl
    split at f
    · -- in its caller's cells
      refine ⟨F, ι, _, M, start_ok (N := N) C hx, ?_⟩
      have es : start vs (N.length - vs.length) = vs.map some ++ List.replicate (fn.ns - fn.np) none := by
        unfold start
        rw [hN, hl]
      rw [es]
      cases e : evSs Φ Wn fn.body (vs.map some ++ List.replicate (fn.ns - fn.np) none) M with
      | none => rw [e] at f; exact f
      | some o =>
        rw [e] at f
        cases o with
        | nx τ1 M1 => exact fun σ' ι' H' S s => f .non ι' H' S.cs s .non
        | ret v M1 => exact fun x ι' H' C' s i => f x ι' H' C' s i
        | ex c τ1 M1 => exact fun σ' ι' H' S s => f ι' H' S.cs s
        | brk _ _ => exact f.elim
        | cont _ _ => exact f.elim
    · split at f
      · rename_i ns hns
        split at f
        · rename_i cs us hcs hus
          split at f
          · rename_i hc
            obtain ⟨nd, hflat⟩ := hc
            generalize hlent : (!(I.flats ((List.range vs.length).filterMap fun i => if fn.mt.contains i then none else vs[i]?))) = lent at f
            have f : FinC k F ι H (match evSs Φ Wn fn.body (us.map some ++ List.replicate (fn.ns - fn.np) none) cs with
              | some (.nx _ M1) => match outRes ns lent (some .non) M1 M with
                | some (some v, M2) => .ok v M2
                | _ => .no
              | some (.ret v M1) => match outRes ns lent (some v) M1 M with
                | some (some v, M2) => .ok v M2
                | _ => .no
              | some (.ex c _ M1) => match outRes ns lent none M1 M with
                | some (_, M2) => .ex c M2
                | none => .no
              | _ => .no) Q E := f
            obtain ⟨ι0, En⟩ := ent_of (lent := lent) C nd hcs
            have hargs : IsIs k (FF F ι lent) ι0 H xs us := by
              refine En.args C hns (fun hl i v hm hv => ?_) 0 vs xs us (fun j => by rw [Nat.zero_add]) hus hx
              subst hl
              have hfl : I.flats ((List.range vs.length).filterMap fun i => if fn.mt.contains i then none else vs[i]?) = true := by
                simpa using hlent
              refine flats_mem hfl v (List.mem_filterMap.mpr ⟨i, List.mem_range.mpr (List.getElem?_eq_some_iff.mp hv).1, ?_⟩)
              rw [hm]; exact hv
            have hul : us.length = vs.length := inArgs_len hus
            refine ⟨FF F ι lent, ι0, _, cs, start_ok (N := N) (En.cs C hcs hflat) hargs, ?_⟩
            have es : start us (N.length - us.length) = us.map some ++ List.replicate (fn.ns - fn.np) none := by
              unfold start
              rw [hN, hul, hl]
            rw [es]
            -- what is handed back
            have back : ∀ {r : Option I} {M1 : Mem} {res : Option I × Mem} {ι1 : List Addr} {H' : Hp}, outRes ns lent r M1 M = some res → CsOk k (FF F ι lent) ι1 H' M1 → Stp k ι0 H ι1 H' → CsOk k F ι H' res.2 ∧ Stp k ι H ι H' ∧
                ∀ v u x, r = some v → res.1 = some u → IsI k (FF F ι lent) ι1 H' x v → IsI k F ι H' x u := fun {r M1 res ι1 H'} e C1 s => by
              unfold outRes at e
              split at e
              · rename_i cs' hm
                split at e
                · rename_i hh
                  cases r with
                  | none =>
                    cases e
                    exact ⟨En.done C C1 s hm hh.1 hh.2, En.stp s, (fun _ _ _ z => nomatch z)⟩
                  | some v =>
                    dsimp only at e
                    split at e
                    · rename_i u hu
                      split at e
                      · cases e
                      · rename_i hsol
                        cases e
                        refine ⟨En.done C C1 s hm hh.1 hh.2, En.stp s, fun v' u' x e1 e2 i => ?_⟩
                        cases e1; cases e2
                        exact En.res C C1 s hu hsol i
                    · cases e
                · cases e
              · cases e
            cases e : evSs Φ Wn fn.body (us.map some ++ List.replicate (fn.ns - fn.np) none) cs with
            | none => rw [e] at f; exact f
            | some o =>
              rw [e] at f
              cases o with
              | nx τ1 M1 =>
                dsimp only at f
                split at f
                · rename_i v M2 eo
                  refine fun σ' ι' H' S s => ?_
                  obtain ⟨b1, b2, b3⟩ := back eo S.cs s
                  exact f .non ι H' b1 b2 (b3 _ _ .non rfl rfl .non)
                · exact f.elim
              | ret v0 M1 =>
                dsimp only at f
                split at f
                · rename_i v M2 eo
                  refine fun x ι' H' C' s i => ?_
                  obtain ⟨b1, b2, b3⟩ := back eo C' s
                  exact f x ι H' b1 b2 (b3 _ _ x rfl rfl i)
                · exact f.elim
              | ex c τ1 M1 =>
                dsimp only at f
                split at f
                · rename_i r M2 eo
                  refine fun σ' ι' H' S s => ?_
                  obtain ⟨b1, b2, _⟩ := back eo S.cs s
                  exact f ι H' b1 b2
                · exact f.elim
              | brk _ _ => exact f.elim
              | cont _ _ => exact f.elim
          · exact f.elim
        · exact f.elim
      · exact f.elim
  · exact f.elim
theorem defs_ok {k : Kx} (hk : k.K = K) (hT : T.ok = true) (has : ∀ i d, T.defs[i]? = some d → ∃ a fd, At K mg T i d a fd) (hblt : ∀ x ∈ bltsOf, mg x = none) (hglb : ∀ p ∈ T.glb, ∃ u w, mg p.1 = some u ∧ RelV w u ∧ ∀ F ι H, IsI k F ι H w p.2) :
    ∀ (j i : Nat) (d : DefT), T.defs[i]? = some d → ∃ a fd, At K mg T i d a fd ∧ FnOk P w K mg base (L2.CX P w) j a fd d.ps (spF k (evCall T.P Wn j) d.ps.length i)
  | 0, i, d, hd => by
    obtain ⟨a, fd, A⟩ := has i d hd
    have no : ∀ vs H Q E, ¬ spF k (evCall T.P Wn 0) d.ps.length i vs H Q E := fun vs H Q E h => by
      obtain ⟨_, F, ι, M, vs, _, _, f⟩ := h
      exact f
    exact ⟨a, fd, A, fun vs H Q E h => absurd h (no vs H Q E), fun A outer s H args us vs Q E _ _ _ _ h => absurd h (no vs H Q E)⟩
  | j + 1, i, d, hd => by
    obtain ⟨a, fd, A⟩ := has i d hd
    refine ⟨a, fd, A, ?_⟩
    have hT0 := hT
    unfold Txt1.ok at hT
    have okd := List.all_eq_true.mp hT d (List.mem_iff_getElem?.mpr ⟨i, hd⟩)
    unfold Txt1.okD at okd
    rw [Bool.and_eq_true] at okd
    refine A.f.okX (okScope_ok okd.2) (fun vs H Q E h => h.1) fun cdv Ar outer s H xs Q E hr h => ?_
    obtain ⟨hl, F, ι, M, vs, C, hx, f⟩ := h
    refine ⟨tSs k (evCall T.P Wn j) (fun cls d _ H => E cls d H) Wn d.body, ?_, ?_⟩
    · refine sndSs (Γ := T.ctx d.N) (k := k) (Φ := evCall T.P Wn j) (Wn := Wn) (fun f x ps vs M hf h => ?_) d.body (defScope d.st) _ (defBody d.st) ?_ rfl (fun _ => rfl) okd.1
      · have hf : (T.defs.map fun d => (d.x, d.ps))[f]? = some (x, ps) := hf
        rw [List.getElem?_map] at hf
        cases e : T.defs[f]? with
        | none => rw [e] at hf; cases hf
        | some d2 =>
          rw [e] at hf
          cases hf
          exact call_len e h
      · refine ⟨hk, rfl, (okScope_ok okd.2).nd, rfl, takes_of rfl rfl rfl rfl, passes_of (X := cxOf (L2.CX P w) P w K mg base d.N d.x (defScope d.st) a cdv Ar outer s H E) rfl, ?_, hblt, hglb, fun f x ps hf => ?_⟩
        · have := hr.un
          show (Ar.deeper _).units + 65 < cLine
          omega
        · have hf : (T.defs.map fun d => (d.x, d.ps))[f]? = some (x, ps) := hf
          rw [List.getElem?_map] at hf
          cases e : T.defs[f]? with
          | none => rw [e] at hf; cases hf
          | some d2 =>
            rw [e] at hf
            cases hf
            obtain ⟨a2, fd2, A2, F2⟩ := defs_ok hk hT0 has hblt hglb j f d2 e
            exact ⟨a2, fd2, j, F2, hr, A2.m, A2.f.kp, A2.b, A2.k⟩
    · have e : T.P i = some d.fn := by
        unfold Txt1.P
        rw [hd]; rfl
      refine body_fin (fn := d.fn) (N := d.N) rfl C hx ?_
      unfold evCall at f
      rw [e] at f
      exact f
def spL (K : PySem.W.Frag) : Sp := fun xs H Q _ => ∃ (a : Addr) (ns : List Int), xs = [.ref a] ∧ Scr K [] H a (ns.map V.int) ∧ ns.length ≤ 63 ∧ ∀ H', Q (.bl true) H'
theorem spL_at {H : Hp} {a : Addr} {ns : List Int} (hl : ns.length ≤ 63) (ho : Only H) (hS : SqL K H a (ns.map V.int)) : spL K [.ref a] H (fun v _ => v = .bl true) fun _ _ _ => False := by
  refine ⟨a, ns, rfl, ?_, hl, fun _ => rfl⟩
  rcases hS with (h | ⟨o, h⟩) | h
  · rcases ho a with z | ⟨o, xs, z⟩
    · rw [z] at h; cases h
    · rw [z] at h; cases h
  · exact .inl ⟨o, h, (fun z => nomatch z)⟩
  · exact .inr h
theorem law_ok {k : Kx} (hk : k.K = K) {CX : CXT} {j i : Nat} {d : DefT} {x : Str} {a : Addr} {fd : FuncData} (hd : d.ps = [x]) (F : FnOk P w K mg base CX j a fd d.ps (spF k (evCall T.P Wn j) d.ps.length i)) (hl : ∀ ns : List Int, ns.length ≤ 63 → ∃ M, evCall T.P Wn j i [.scr ns] [] = .ok (.bl true) M) :
    FnOk P w K mg base CX j a fd [x] (spL K) := by
  rw [hd] at F
  refine F.imp fun xs H Q E h => ?_
  obtain ⟨a, ns, rfl, hS, hn, q⟩ := h
  obtain ⟨M, ev⟩ := hl ns hn
  have C : CsOk k (fun _ => False) [] H [] := ⟨rfl, List.nodup_nil, fun _ z => z.elim, fun n c a e => by simp at e⟩
  refine ⟨rfl, fun _ => False, [], [], [.scr ns], C, .cons (.scr (by rw [hk]; exact hS)) .nil, ?_⟩
  rw [ev]
  intro y ι' H' _ _ hy
  cases hy
  exact q H'
theorem cx_none {H : Hp} {s : Shared} {e : Value} {s' : Shared} (h : L2.CX P w [] H s (fun _ _ _ => False) e s') : False := by
  obtain ⟨_, _, _, _, _, _, _, _, _, _, _, _, z⟩ := h
  exact z
end
theorem vals_at {vs : List V} {us : List Value} (h : Vals vs us) (j : Nat) : (vs[j]? = none ∧ us[j]? = none) ∨ ∃ v u, vs[j]? = some v ∧ us[j]? = some u ∧ RelV v u := by
  by_cases hj : j < vs.length
  · obtain ⟨u, h1, h2⟩ := h.get (List.getElem?_eq_getElem hj)
    exact .inr ⟨_, u, List.getElem?_eq_getElem hj, h1, h2⟩
  · have := h.length
    exact .inl ⟨List.getElem?_eq_none (by omega), List.getElem?_eq_none (by omega)⟩
theorem pick_vals {zs : List V} {ws : List Value} (h : Vals zs ws) : ∀ ord : List Nat, Vals (pick ord zs) (pick ord ws)
  | [] => .nil
  | j :: ord => by
    have ih := pick_vals h ord
    unfold pick at ih ⊢
    rcases vals_at h j with ⟨e1, e2⟩ | ⟨v, u, e1, e2, r⟩
    · rw [List.filterMap_cons, List.filterMap_cons, e1, e2]; exact ih
    · rw [List.filterMap_cons, List.filterMap_cons, e1, e2]; exact .cons r ih
theorem gK_vals {ord : List Nat} {vs : List V} {us : List Value} {zs : List V} {ws : List Value} (h1 : Vals vs us) (h2 : Vals zs ws) : Vals (gK ord vs zs) (gK ord us ws) := by
  cases h1 with
  | nil => exact pick_vals h2 ord
  | cons _ _ => exact .nil
theorem fd_one {K : PySem.W.Frag} {x y : Str} {st st' : Stmt} {f : Addr} {fd fd' : FuncData} (a : Fun K x y st f fd) (b : Fun K x y st' f fd') : fd = fd' := by
  obtain ⟨oc, od, kV, doc, pm, an, cdv, ct, osl, _, e1, _⟩ := a.ex
  obtain ⟨oc', od', kV', doc', pm', an', cdv', ct', osl', _, e2, _⟩ := b.ex
  rw [e1] at e2
  cases e2
  rfl
/-- the law at its place -/
theorem law_at {l : PySem.W.OpenLaw} {w : World} {K : PySem.W.Frag} {mg : Str → Option Value} {T : Txt1} {Wn j i : Nat} {d : DefT} {x : Str} {fa : Addr} {fd : FuncData} (k : Kx) (hk : k.K = K) (hT : T.ok = true) (has : ∀ i d, T.defs[i]? = some d → ∃ a fd, At K mg T i d a fd) (hblt : ∀ x ∈ bltsOf, mg x = none)
    (hglb : ∀ p ∈ T.glb, ∃ u w, mg p.1 = some u ∧ RelV w u ∧ ∀ F ι H, IsI k F ι H w p.2) (hd : T.defs[i]? = some d) (hp : d.ps = [x]) (hfa : mg d.x = some (.ref fa)) (F : Fun K d.x d.x d.st fa fd)
    (hl : ∀ ns : List Int, ns.length ≤ 63 → ∃ M, evCall T.P Wn j i [.scr ns] [] = .ok (.bl true) M) (base : Heap) : FnOk l.prog w K mg base (L2.CX l.prog w) j fa fd [x] (spL K) := by
  obtain ⟨a, fd', A, G⟩ := defs_ok (P := l.prog) (w := w) (base := base) (Wn := Wn) hk hT has hblt hglb j i d hd
  have e := hfa.symm.trans A.m
  cases e
  have e2 := fd_one F A.f
  subst e2
  exact law_ok hk hp G hl
end Rs

/-! second layer, part q: plain facts -/
namespace Rs
open PySem PySem.Spec PyProof.Rows L2
theorem flats_of : ∀ {xs : List I}, (∀ x ∈ xs, x.flat = true) → I.flats xs = true
  | [], _ => rfl
  | x :: xs, h => by
    show (x.flat && I.flats xs) = true
    rw [h x List.mem_cons_self, flats_of fun y hy => h y (List.mem_cons_of_mem _ hy)]; rfl
theorem frzs_flat {M : Mem} {n : Nat} {xs : List I} (h : I.flats xs = true) : xs.mapM (frz M n) = some xs := mapM_id fun x hx => frz_flat n (flats_mem h x hx)
theorem frz_lst {M : Mem} {i : Nat} {xs : List I} (e : M[i]? = some (.lst xs)) (h : I.flats xs = true) : frz M dpt (.obj i) = some (.lst xs) := by
  show (match M[i]? with
    | some (.lst xs) => (xs.mapM (frz M 11)).map I.lst
    | some (.dic ks xs) => (xs.mapM (frz M 11)).map (.dic ks)
    | some (.dit ks xs) => (xs.mapM (frz M 11)).map (.dit ks)
    | _ => none) = _
  rw [e]
  dsimp only
  rw [frzs_flat h]; rfl
theorem frzC_lst {M : Mem} {xs : List I} (h : I.flats xs = true) : frzC M (.lst xs) = some (.lst xs) := by
  show (xs.mapM (frz M dpt)).map Cell.lst = _
  rw [frzs_flat h]; rfl
theorem in_flat {M : Mem} : ∀ {vs : List I} {i : Nat}, I.flats vs = true → inArgs [] M i vs = some vs
  | [], _, _ => rfl
  | v :: vs, i, h => by
    have h1 : v.flat = true ∧ I.flats vs = true := by
      have : (v.flat && I.flats vs) = true := h
      simpa using this
    show ((if ([] : List Nat).contains i then _ else frz M dpt v).bind fun u => (inArgs [] M (i + 1) vs).map (u :: ·)) = _
    rw [if_neg (by simp), frz_flat _ h1.1, in_flat h1.2]; rfl
theorem in_flat0 {M : Mem} : ∀ {vs : List I} {i : Nat}, 1 ≤ i → I.flats vs = true → inArgs [0] M i vs = some vs
  | [], _, _, _ => rfl
  | v :: vs, i, hi, h => by
    have h1 : v.flat = true ∧ I.flats vs = true := by
      have : (v.flat && I.flats vs) = true := h
      simpa using this
    show ((if ([0] : List Nat).contains i then _ else frz M dpt v).bind fun u => (inArgs [0] M (i + 1) vs).map (u :: ·)) = _
    rw [if_neg (by simp; omega), frz_flat _ h1.1, in_flat0 (by omega) h1.2]; rfl
section
variable {P : Nat → Option Fn} {W k f : Nat} {fn : Fn} {args : List I} {M : Mem}
/-- what a frame without cells hands back -/
def back0 : Option Out → Mem → R I
  | some (.nx _ _), M => .ok .non M
  | some (.ret v M1), M => match frz M1 dpt v with
    | some u => .ok u M
    | none => .no
  | some (.ex c _ _), M => .ex c M
  | _, _ => .no
theorem call0 (h : P f = some fn) (hl : args.length = fn.np) (hf : fn.full = false) (hm : fn.mt = []) (ha : I.flats args = true) :
    evCall P W (k + 1) f args M = back0 (evSs (evCall P W k) W fn.body (args.map some ++ List.replicate (fn.ns - fn.np) none) []) M := by
  unfold evCall
  rw [h]
  dsimp only
  rw [if_pos hl, hf, hm]
  have e1 : inArgs [] (mask [] M) 0 args = some args := in_flat ha
  have e2 : (I.flats ((List.range args.length).filterMap fun i => if ([] : List Nat).contains i then none else args[i]?)) = true := by
    refine flats_of fun x hx => ?_
    obtain ⟨i, _, hi⟩ := List.mem_filterMap.mp hx
    rw [if_neg (by simp)] at hi
    exact flats_mem ha x (List.mem_of_getElem? hi)
  simp only [List.mapM_nil, pure, e1, e2]
  rw [if_neg (by simp), if_pos ⟨List.nodup_nil, rfl⟩]
  generalize evSs (evCall P W k) W fn.body (args.map some ++ List.replicate (fn.ns - fn.np) none) [] = r
  cases r with
  | none => rfl
  | some o =>
    cases o with
    | nx τ M1 =>
      simp [back0, outRes, outVal, objI, frzC, putCells, frz, dpt, pure]
    | ret v M1 =>
      have eo : outVal [] M1 v = frz M1 dpt v := by
        unfold outVal
        cases e : objI v <;> rfl
      simp only [back0, outRes, List.length_nil, List.take_zero, List.mapM_nil, pure, eo, putCells]
      cases e : frz M1 dpt v with
      | none => simp
      | some u => simp
    | ex c τ M1 => simp [back0, outRes, putCells, pure]
    | brk τ M1 => rfl
    | cont τ M1 => rfl
theorem callF (h : P f = some fn) (hl : args.length = fn.np) (hf : fn.full = true) :
    evCall P W (k + 1) f args M = match evSs (evCall P W k) W fn.body (args.map some ++ List.replicate (fn.ns - fn.np) none) M with
          | some (.nx _ M1) => .ok .non M1
          | some (.ret v M1) => .ok v M1
          | some (.ex c _ M1) => .ex c M1
          | _ => .no := by
  unfold evCall
  rw [h]
  dsimp only
  rw [if_pos hl, hf]; rfl
/-- one cell is handed over, first -/
theorem call1 {p : Nat} {c c' : Cell} {v u : I} {M1 : Mem} (h : P f = some fn) (hl : args.length + 1 = fn.np) (hf : fn.full = false) (hm : fn.mt = [0]) (hp : M[p]? = some c) (hc : c.flat = true) (ha : I.flats args = true)
    (hb : evSs (evCall P W k) W fn.body (some (.obj 0) :: args.map some ++ List.replicate (fn.ns - fn.np) none) [c] = some (.ret v M1)) (h1 : M1[0]? = some c') (hc' : ∀ M, frzC M c' = some c') (hu : outVal [p] M1 v = some u) :
    evCall P W (k + 1) f (.obj p :: args) M = .ok u (M.set p c') := by
  unfold evCall
  rw [h]
  dsimp only
  rw [if_pos (show (I.obj p :: args).length = fn.np from hl), hf, hm]
  have e1 : inArgs [0] (mask [p] M) 0 (.obj p :: args) = some (.obj 0 :: args) := by
    show ((if ([0] : List Nat).contains 0 then (([0] : List Nat).idxOf? 0).map I.obj else _).bind fun u => (inArgs [0] (mask [p] M) 1 args).map (u :: ·)) = _
    rw [if_pos (by simp), in_flat0 (Nat.le_refl _) ha]; rfl
  have e2 : (I.flats ((List.range (I.obj p :: args).length).filterMap fun i => if ([0] : List Nat).contains i then none else (I.obj p :: args)[i]?)) = true := by
    refine flats_of fun x hx => ?_
    obtain ⟨i, _, hi⟩ := List.mem_filterMap.mp hx
    split at hi
    · cases hi
    · rename_i hn
      cases i with
      | zero => exact absurd (by simp) hn
      | succ i => exact flats_mem ha x (List.mem_of_getElem? hi)
  have e3 : (([0] : List Nat).mapM fun i => ((I.obj p :: args)[i]?).bind objI) = some [p] := rfl
  have e4 : ([p].mapM (M[·]?)) = some [c] := by
    simp [hp]
  rw [if_neg (by simp)]
  simp only [e1, e2, e3, e4]
  have hb' : evSs (evCall P W k) W fn.body (List.map some (I.obj 0 :: args) ++ List.replicate (fn.ns - fn.np) none) [c] = some (.ret v M1) := hb
  rw [if_pos ⟨by simp, by simp [hc]⟩, hb']
  have et : M1.take 1 = [c'] := by
    cases M1 with
    | nil => cases h1
    | cons a r =>
      cases h1
      rfl
  have eo : outRes [p] false (some v) M1 M = some (some u, M.set p c') := by
    unfold outRes
    simp only [List.length_singleton, et]
    have : ([c'].mapM (frzC (mask (List.range 1) M1))) = some [c'] := by simp [hc']
    rw [this]
    simp [hu, putCells]
  simp only [Bool.not_true, eo]
end
section
variable {Φ : Oracle} {W : Nat} {g : Tg}
theorem each_go {b : Env → Mem → Option Out} {Inv : Nat → Env → Mem → Prop} : ∀ (vs : List I) (j : Nat) (τ : Env) (M : Mem), Inv j τ M →
    (∀ (i : Nat) (τ : Env) (M : Mem) (v : I), vs[i]? = some v → Inv (j + i) τ M → ∃ τ1 τ2 M2, asgT g v τ = some τ1 ∧ b τ1 M = some (.nx τ2 M2) ∧ Inv (j + i + 1) τ2 M2) → ∃ τ' M', eachL g b vs τ M = some (.nx τ' M') ∧ Inv (j + vs.length) τ' M'
  | [], j, τ, M, h, _ => ⟨τ, M, rfl, h⟩
  | v :: vs, j, τ, M, h, step => by
    obtain ⟨τ1, τ2, M2, e1, e2, h2⟩ := step 0 τ M v rfl h
    obtain ⟨τ', M', e3, h3⟩ := each_go vs (j + 1) τ2 M2 h2 fun i τ M v e hi => by
      obtain ⟨τ1, τ2, M2, q1, q2, q3⟩ := step (i + 1) τ M v (by simpa using e) (by rw [← Nat.add_assoc, Nat.add_right_comm]; exact hi)
      exact ⟨τ1, τ2, M2, q1, q2, by rw [show j + 1 + i + 1 = j + (i + 1) + 1 by omega]; exact q3⟩
    refine ⟨τ', M', ?_, by rw [show j + (v :: vs).length = j + 1 + vs.length by simp; omega]; exact h3⟩
    unfold eachL
    rw [e1]
    dsimp only
    rw [e2]
    exact e3
/-- a loop whose state follows the items -/
theorem each_fold {α : Type} {b : Env → Mem → Option Out} {f : α → I} {Inv : List α → Env → Mem → Prop} : ∀ (xs pre : List α) (τ : Env) (M : Mem), Inv pre τ M →
    (∀ (x : α) (pre : List α) (τ : Env) (M : Mem), x ∈ xs → Inv pre τ M → ∃ τ1 τ2 M2, asgT g (f x) τ = some τ1 ∧ b τ1 M = some (.nx τ2 M2) ∧ Inv (pre ++ [x]) τ2 M2) → ∃ τ' M', eachL g b (xs.map f) τ M = some (.nx τ' M') ∧ Inv (pre ++ xs) τ' M'
  | [], pre, τ, M, h, _ => ⟨τ, M, rfl, by rw [List.append_nil]; exact h⟩
  | x :: xs, pre, τ, M, h, step => by
    obtain ⟨τ1, τ2, M2, e1, e2, h2⟩ := step x pre τ M List.mem_cons_self h
    obtain ⟨τ', M', e3, h3⟩ := each_fold xs (pre ++ [x]) τ2 M2 h2 fun y pre τ M hy hi => step y pre τ M (List.mem_cons_of_mem _ hy) hi
    refine ⟨τ', M', ?_, by rw [List.append_assoc] at h3; exact h3⟩
    show eachL g b (f x :: xs.map f) τ M = _
    unfold eachL
    rw [e1]
    dsimp only
    rw [e2]
    exact e3
end
theorem intsI_ints : ∀ ns : List Int, intsI (ns.map I.int) = some ns
  | [] => rfl
  | n :: ns => by
    show (intsI (ns.map I.int)).map (n :: ·) = _
    rw [intsI_ints ns]; rfl
theorem strsI_strs : ∀ ns : List Str, strsI (ns.map I.str) = some ns
  | [] => rfl
  | n :: ns => by
    show (strsI (ns.map I.str)).map (n :: ·) = _
    rw [strsI_strs ns]; rfl
theorem flats_ints (ns : List Int) : I.flats (ns.map I.int) = true := flats_of fun x hx => by
  obtain ⟨n, _, rfl⟩ := List.mem_map.mp hx
  rfl
theorem flats_strs (ns : List Str) : I.flats (ns.map I.str) = true := flats_of fun x hx => by
  obtain ⟨n, _, rfl⟩ := List.mem_map.mp hx
  rfl
/-- data that may be compared, n deep at most -/
structure Fit (n : Nat) (x : I) : Prop where
  p : x.pure = true
  c : x.py.canLay0 = true
  d : x.py.depth ≤ n
theorem Fit.mono {n k : Nat} {x : I} (h : Fit n x) (hk : n ≤ k) : Fit k x := ⟨h.p, h.c, Nat.le_trans h.d hk⟩
theorem fit_non {n : Nat} : Fit n .non := ⟨rfl, rfl, Nat.zero_le _⟩
theorem fit_bl {n : Nat} (b : Bool) : Fit n (.bl b) := ⟨rfl, rfl, Nat.zero_le _⟩
theorem fit_int {n : Nat} (i : Int) : Fit n (.int i) := ⟨rfl, rfl, Nat.zero_le _⟩
theorem fit_str {n : Nat} {s : Str} (h : PyData.canLay0 (.str s) = true) : Fit n (.str s) := ⟨rfl, h, Nat.zero_le _⟩
theorem fits {n : Nat} : ∀ {xs : List I}, (∀ x ∈ xs, Fit n x) → I.pures xs = true ∧ PyData.canLayAll0 (I.pys xs) = true ∧ PyData.depthAll (I.pys xs) ≤ n
  | [], _ => ⟨rfl, rfl, Nat.zero_le _⟩
  | x :: xs, h => by
    obtain ⟨h1, h2, h3⟩ := fits fun y hy => h y (List.mem_cons_of_mem _ hy)
    have hx := h x List.mem_cons_self
    refine ⟨?_, ?_, ?_⟩
    · show (I.pure x && I.pures xs) = true
      rw [hx.p, h1]; rfl
    · show (PyData.canLay0 x.py && PyData.canLayAll0 (I.pys xs)) = true
      rw [hx.c, h2]; rfl
    · show max (PyData.depth x.py) (PyData.depthAll (I.pys xs)) ≤ n
      exact Nat.max_le.mpr ⟨hx.d, h3⟩
theorem fit_tup {n : Nat} {xs : List I} (h : ∀ x ∈ xs, Fit n x) : Fit (n + 1) (.tup xs) := by
  obtain ⟨h1, h2, h3⟩ := fits h
  exact ⟨h1, h2, Nat.succ_le_succ h3⟩
theorem fit_lst {n : Nat} {xs : List I} (h : ∀ x ∈ xs, Fit n x) : Fit (n + 1) (.lst xs) := by
  obtain ⟨h1, h2, h3⟩ := fits h
  exact ⟨h1, h2, Nat.succ_le_succ h3⟩
theorem Fit.fit {x : I} (h : Fit 64 x) : x.fit = true := by
  show (x.pure && (PyData.canLay0 x.py && decide (PyData.depth x.py ≤ 64))) = true
  rw [h.p, h.c, decide_eq_true h.d]; rfl
theorem eqD_self {d : I} (h : Fit 64 d) : eqD d d = some true := by
  unfold eqD
  rw [h.fit]
  exact congrArg some (PySem.SeqAt.eqv_refl d.py h.c)
theorem fit_strs {l : List Str} (h : ∀ s ∈ l, PyData.canLay0 (.str s) = true) : Fit 64 (.lst (l.map .str)) := Fit.mono (fit_lst (n := 0) fun x hx => by
  obtain ⟨s, hs, rfl⟩ := List.mem_map.mp hx
  exact fit_str (h s hs)) (by decide)
end Rs

/-! second layer, part r: runs by what is to hold behind them -/
namespace Rs
open PySem PySem.Spec PyProof.Rows L2
/-- it ends, with Q, or raises, with E -/
inductive Pe {α : Type} (r : R α) (Q : α → Mem → Prop) (E : Nat → Mem → Prop) : Prop
  | ok (a : α) (M : Mem) (e : r = .ok a M) (h : Q a M)
  | ex (c : Nat) (M : Mem) (e : r = .ex c M) (h : E c M)
inductive Ps (o : Option Out) (Q : Out → Prop) : Prop
  | so (r : Out) (e : o = some r) (h : Q r)
def Po {α : Type} (o : Option α) (Q : α → Prop) : Prop := ∃ z, o = some z ∧ Q z
/-- a thing as a truth -/
def Tr (M : Mem) (v : I) (Q : Bool → Prop) : Prop := ∃ c, truth (sh M v) = some c ∧ Q c
/-- a number, a truth -/
def In (v : I) (Q : Int → Prop) : Prop := ∃ i, v = .int i ∧ Q i
def Bl (v : I) (Q : Bool → Prop) : Prop := ∃ b, v = .bl b ∧ Q b
theorem in_mk {i : Int} {Q : Int → Prop} (h : Q i) : In (.int i) Q := ⟨i, rfl, h⟩
theorem bl_mk {i : Bool} {Q : Bool → Prop} (h : Q i) : Bl (.bl i) Q := ⟨i, rfl, h⟩
/-- a new cell -/
def Ce (v : I) (M : Mem) (Q : I → Mem → Prop) : Prop := ∃ cc, toCell v = some cc ∧ Q (.obj M.length) (M ++ [cc])
theorem ce_lst {xs : List I} {M : Mem} {Q : I → Mem → Prop} (h : Q (.obj M.length) (M ++ [.lst xs])) : Ce (.lst xs) M Q := ⟨_, rfl, h⟩
theorem ce_dic {ks : List Key} {xs : List I} {M : Mem} {Q : I → Mem → Prop} (h : Q (.obj M.length) (M ++ [.dic ks xs])) : Ce (.dic ks xs) M Q := ⟨_, rfl, h⟩
theorem ce_dit {ks : List (List Key)} {xs : List I} {M : Mem} {Q : I → Mem → Prop} (h : Q (.obj M.length) (M ++ [.dit ks xs])) : Ce (.dit ks xs) M Q := ⟨_, rfl, h⟩
/-- few things -/
def Fw (vs : List I) (A : Prop) : Prop := vs.length ≤ 1000 ∧ A
theorem fw_mk {vs : List I} {A : Prop} (hl : vs.length ≤ 1000) (h : A) : Fw vs A := ⟨hl, h⟩
/-- a cell with a list -/
def Ob (v : I) (M : Mem) (Q : Nat → List I → Prop) : Prop := ∃ n xs, v = .obj n ∧ M[n]? = some (.lst xs) ∧ Q n xs
theorem ob_mk {n : Nat} {M : Mem} {xs : List I} {Q : Nat → List I → Prop} (e : M[n]? = some (.lst xs)) (h : Q n xs) : Ob (.obj n) M Q := ⟨n, xs, rfl, e, h⟩
def Ap (n : Nat) (d : I) (M : Mem) (Q : I → Mem → Prop) : Prop := ∃ xs, M[n]? = some (.lst xs) ∧ xs.length < sizeLine ∧ Q .non (M.set n (.lst (xs ++ [d])))
theorem ap_mk {n : Nat} {d : I} {M : Mem} {xs : List I} {Q : I → Mem → Prop} (e : M[n]? = some (.lst xs)) (hl : xs.length < 16777216) (h : Q .non (M.set n (.lst (xs ++ [d])))) : Ap n d M Q := ⟨xs, e, hl, h⟩
def Ex (n : Nat) (d : I) (M : Mem) (Q : I → Mem → Prop) : Prop := ∃ xs ys, M[n]? = some (.lst xs) ∧ sh M d = .lst ys ∧ xs.length + ys.length ≤ sizeLine ∧ Q .non (M.set n (.lst (xs ++ ys)))
theorem ex_mk {n : Nat} {d : I} {M : Mem} {xs ys : List I} {Q : I → Mem → Prop} (e : M[n]? = some (.lst xs)) (ed : sh M d = .lst ys) (hl : xs.length + ys.length ≤ 16777216) (h : Q .non (M.set n (.lst (xs ++ ys)))) : Ex n d M Q := ⟨xs, ys, e, ed, hl, h⟩
/-- things walked -/
def Vs (s : Src) (Q : List I → Prop) : Prop := ∃ xs, s = .vals xs ∧ Q xs
theorem vs_mk {xs : List I} {Q : List I → Prop} (h : Q xs) : Vs (.vals xs) Q := ⟨xs, rfl, h⟩
def Rc (m : Mth) (v : I) (A : Prop) : Prop := recv m v = true ∧ A
theorem rc_mk {m : Mth} {v : I} {A : Prop} (e : recv m v = true) (h : A) : Rc m v A := ⟨e, h⟩
/-- an item stored -/
def Se (v k d : I) (M : Mem) (Q : Mem → Prop) : Prop := ∃ n c c', v = .obj n ∧ M[n]? = some c ∧ setC c k d = some c' ∧ Q (M.set n c')
theorem se_mk {n : Nat} {k d : I} {M : Mem} {c c' : Cell} {Q : Mem → Prop} (e : M[n]? = some c) (e2 : setC c k d = some c') (h : Q (M.set n c')) : Se (.obj n) k d M Q := ⟨n, c, c', rfl, e, e2, h⟩
/-- arguments by their names -/
def Kw (ord : List Nat) (vs : List I) (A : List I → Prop) : Prop := ∃ us, (ord.mapM fun j => vs[j]?) = some us ∧ us.length = vs.length ∧ A us
theorem kw_mk {ord : List Nat} {vs us : List I} {A : List I → Prop} (e : (ord.mapM fun j => vs[j]?) = some us) (l : us.length = vs.length) (h : A us) : Kw ord vs A := ⟨us, e, l, h⟩
/-- a branch -/
def If (c : Bool) (A B : Prop) : Prop := (c = true → A) ∧ (c = false → B)
theorem pe_ok {α : Type} {a : α} {M : Mem} {Q : α → Mem → Prop} {E : Nat → Mem → Prop} (h : Q a M) : Pe (.ok a M) Q E := .ok a M rfl h
theorem pe_exx {α : Type} {c : Nat} {M : Mem} {Q : α → Mem → Prop} {E : Nat → Mem → Prop} (h : E c M) : Pe (.ex c M) Q E := .ex c M rfl h
theorem ps_so {r : Out} {Q : Out → Prop} (h : Q r) : Ps (some r) Q := .so r rfl h
theorem pe_un {α : Type} {a : α} {M : Mem} {Q : α → Mem → Prop} {E : Nat → Mem → Prop} (h : Pe (.ok a M) Q E) : Q a M := by
  cases h with
  | ok _ _ e h => cases e; exact h
  | ex _ _ e h => cases e
theorem pe_unx {α : Type} {c : Nat} {M : Mem} {Q : α → Mem → Prop} {E : Nat → Mem → Prop} (h : Pe (.ex c M) Q E) : E c M := by
  cases h with
  | ok _ _ e h => cases e
  | ex _ _ e h => cases e; exact h
theorem pe_no {α : Type} {Q : α → Mem → Prop} {E : Nat → Mem → Prop} (h : Pe .no Q E) : False := by
  cases h with
  | ok _ _ e h => cases e
  | ex _ _ e h => cases e
theorem ps_un {r : Out} {Q : Out → Prop} (h : Ps (some r) Q) : Q r := by
  cases h with
  | so _ e h => cases e; exact h
theorem ps_no {Q : Out → Prop} (h : Ps none Q) : False := by
  cases h with
  | so _ e h => cases e
theorem pe_bind {α β : Type} {r : R α} {f : α → Mem → R β} {Q : β → Mem → Prop} {E : Nat → Mem → Prop} (h : Pe r (fun a M => Pe (f a M) Q E) E) : Pe (r.bind f) Q E := by
  cases r with
  | ok a M => exact pe_un h
  | ex c M => exact pe_exx (pe_unx h)
  | no => exact (pe_no h).elim
theorem pe_of {α : Type} {o : Option α} {M : Mem} {Q : α → Mem → Prop} {E : Nat → Mem → Prop} (h : Po o fun z => Q z M) : Pe (.of o M) Q E := by
  obtain ⟨z, rfl, h⟩ := h
  exact pe_ok h
theorem pe_mono {α : Type} {r : R α} {Q Q' : α → Mem → Prop} {E E' : Nat → Mem → Prop} (h : Pe r Q E) (hq : ∀ a M, Q a M → Q' a M) (he : ∀ c M, E c M → E' c M) : Pe r Q' E' := by
  cases h with
  | ok a M e h => exact .ok a M e (hq _ _ h)
  | ex c M e h => exact .ex c M e (he _ _ h)
theorem pe_eq {α : Type} {r r' : R α} {Q : α → Mem → Prop} {E : Nat → Mem → Prop} (e : r = r') (h : Pe r' Q E) : Pe r Q E := e ▸ h
theorem pe_get {α : Type} {r : R α} {Q : α → Mem → Prop} (h : Pe r Q fun _ _ => False) : ∃ a M, r = .ok a M ∧ Q a M := by
  cases h with
  | ok a M e h => exact ⟨a, M, e, h⟩
  | ex c M e h => exact h.elim
theorem pe_put {α : Type} {r : R α} {a : α} {M : Mem} {Q : α → Mem → Prop} {E : Nat → Mem → Prop} (e : r = .ok a M) (h : Q a M) : Pe r Q E := .ok a M e h
theorem ps_mono {o : Option Out} {Q Q' : Out → Prop} (h : Ps o Q) (hq : ∀ r, Q r → Q' r) : Ps o Q' := by
  cases h with
  | so r e h => exact .so r e (hq _ h)
theorem ps_eq {o o' : Option Out} {Q : Out → Prop} (e : o = o') (h : Ps o' Q) : Ps o Q := e ▸ h
theorem ps_put {o : Option Out} {r : Out} {Q : Out → Prop} (e : o = some r) (h : Q r) : Ps o Q := .so r e h
theorem ps_get {o : Option Out} {Q : Out → Prop} (h : Ps o Q) : ∃ r, o = some r ∧ Q r := by
  cases h with
  | so r e h => exact ⟨r, e, h⟩
theorem ps_out {α : Type} {r : R α} {τ : Rs.Env} {f : α → Mem → Option Out} {Q : Out → Prop} (h : Pe r (fun a M => Ps (f a M) Q) (fun c M => Q (.ex c τ M))) : Ps (r.out τ f) Q := by
  cases r with
  | ok a M => exact pe_un h
  | ex c M => exact ps_so (pe_unx h)
  | no => exact (pe_no h).elim

section
variable {Φ : Oracle} {W : Nat} {τ : Rs.Env} {M : Mem} {Q : I → Mem → Prop} {E : Nat → Mem → Prop}
/-! ### expressions -/
theorem pe_const {x : I} (h : Q x M) : Pe (evE Φ (.const x) τ M) Q E := by
  rw [evE]; first | exact h | exact pe_ok h | exact ps_so h
theorem pe_glob {x : Str} {v : I} (h : Q v M) : Pe (evE Φ (.glob x v) τ M) Q E := by
  rw [evE]; first | exact h | exact pe_ok h | exact ps_so h
theorem pe_var {i : Nat} {x : I} (e : τ[i]? = some (some x)) (h : Q x M) : Pe (evE Φ (.var i) τ M) Q E := by
  rw [evE, e]; first | exact h | exact pe_ok h | exact ps_so h
theorem pe_nil {Q : List I → Mem → Prop} (h : Q [] M) : Pe (evEs Φ .nil τ M) Q E := by
  rw [evEs]; first | exact h | exact pe_ok h | exact ps_so h
theorem pe_cons {c : C} {cs : Cs} {Q : List I → Mem → Prop} (h : Pe (evE Φ c τ M) (fun v M1 => Pe (evEs Φ cs τ M1) (fun vs M2 => Q (v :: vs) M2) E) E) : Pe (evEs Φ (.cons c cs) τ M) Q E := by
  rw [evEs]
  refine pe_bind (pe_mono h (fun v M1 h => pe_bind (pe_mono h (fun vs M2 h => pe_ok h) fun _ _ h => h)) fun _ _ h => h)
theorem pe_op {o : Op} {as : Cs} (h : Pe (evEs Φ as τ M) (fun vs M1 => Po (opM o M1 vs) fun z => Q z M1) E) : Pe (evE Φ (.op o as) τ M) Q E := by
  rw [evE]
  exact pe_bind (pe_mono h (fun v M1 h => pe_of h) fun _ _ h => h)
theorem pe_tup {as : Cs} (h : Pe (evEs Φ as τ M) (fun vs M1 => Fw vs (Q (.tup vs) M1)) E) : Pe (evE Φ (.disp true as) τ M) Q E := by
  rw [evE]
  refine pe_bind (pe_mono h (fun v M1 h => pe_of ⟨_, by unfold dispD; rw [if_pos h.1]; rfl, h.2⟩) fun _ _ h => h)
theorem pe_lst {as : Cs} (h : Pe (evEs Φ as τ M) (fun vs M1 => Fw vs (Q (.lst vs) M1)) E) : Pe (evE Φ (.disp false as) τ M) Q E := by
  rw [evE]
  refine pe_bind (pe_mono h (fun v M1 h => pe_of ⟨_, by unfold dispD; rw [if_pos h.1]; rfl, h.2⟩) fun _ _ h => h)
theorem pe_cell {c : C} (h : Pe (evE Φ c τ M) (fun v M1 => Ce v M1 Q) E) : Pe (evE Φ (.cell c) τ M) Q E := by
  rw [evE]
  refine pe_bind (pe_mono h (fun v M1 h => ?_) fun _ _ h => h)
  obtain ⟨cc, e, h⟩ := h
  rw [e]; first | exact h | exact pe_ok h | exact ps_so h
theorem pe_dic (h : Q (.dic [] []) M) : Pe (evE Φ (.dict false) τ M) Q E := by
  rw [evE]; first | exact h | exact pe_ok h | exact ps_so h
theorem pe_dit (h : Q (.dit [] []) M) : Pe (evE Φ (.dict true) τ M) Q E := by
  rw [evE]; first | exact h | exact pe_ok h | exact ps_so h
theorem pe_call {f : Nat} {as : Cs} (h : Pe (evEs Φ as τ M) (fun vs M1 => Pe (Φ f vs M1) Q E) E) : Pe (evE Φ (.call f as) τ M) Q E := by
  rw [evE]
  exact pe_bind h
theorem pe_callk {f : Nat} {ord : List Nat} {as : Cs} (h : Pe (evEs Φ as τ M) (fun vs M1 => Kw ord vs fun us => Pe (Φ f us M1) Q E) E) : Pe (evE Φ (.callk f ord as) τ M) Q E := by
  rw [evE]
  refine pe_bind (pe_mono h (fun v M1 h => ?_) fun _ _ h => h)
  obtain ⟨us, e, l, h⟩ := h
  rw [e]
  dsimp only
  rw [if_pos l]; first | exact h | exact pe_ok h | exact ps_so h
theorem pe_and {a b : C} (h : Pe (evE Φ a τ M) (fun v M1 => Tr M1 v fun c => If c (Pe (evE Φ b τ M1) Q E) (Q v M1)) E) : Pe (evE Φ (.and a b) τ M) Q E := by
  rw [evE]
  refine pe_bind (pe_mono h (fun v M1 h => ?_) fun _ _ h => h)
  obtain ⟨c, e, h1, h2⟩ := h
  rw [e]
  cases c
  · first | exact h2 rfl | exact pe_ok (h2 rfl) | exact ps_so (h2 rfl)
  · first | exact h1 rfl | exact pe_ok (h1 rfl) | exact ps_so (h1 rfl)
theorem pe_or {a b : C} (h : Pe (evE Φ a τ M) (fun v M1 => Tr M1 v fun c => If c (Q v M1) (Pe (evE Φ b τ M1) Q E)) E) : Pe (evE Φ (.or a b) τ M) Q E := by
  rw [evE]
  refine pe_bind (pe_mono h (fun v M1 h => ?_) fun _ _ h => h)
  obtain ⟨c, e, h1, h2⟩ := h
  rw [e]
  cases c
  · first | exact h2 rfl | exact pe_ok (h2 rfl) | exact ps_so (h2 rfl)
  · first | exact h1 rfl | exact pe_ok (h1 rfl) | exact ps_so (h1 rfl)
theorem pe_not {a : C} (h : Pe (evE Φ a τ M) (fun v M1 => Tr M1 v fun c => Q (.bl !c) M1) E) : Pe (evE Φ (.not a) τ M) Q E := by
  rw [evE]
  refine pe_bind (pe_mono h (fun v M1 h => ?_) fun _ _ h => h)
  obtain ⟨c, e, h1⟩ := h
  exact pe_of ⟨_, by rw [e]; rfl, h1⟩
theorem pe_ife {t a b : C} (h : Pe (evE Φ t τ M) (fun v M1 => Tr M1 v fun c => If c (Pe (evE Φ a τ M1) Q E) (Pe (evE Φ b τ M1) Q E)) E) : Pe (evE Φ (.ife t a b) τ M) Q E := by
  rw [evE]
  refine pe_bind (pe_mono h (fun v M1 h => ?_) fun _ _ h => h)
  obtain ⟨c, e, h1, h2⟩ := h
  rw [e]
  cases c
  · first | exact h2 rfl | exact pe_ok (h2 rfl) | exact ps_so (h2 rfl)
  · first | exact h1 rfl | exact pe_ok (h1 rfl) | exact ps_so (h1 rfl)
theorem pe_chain {o p : Op} {a b c : C} (h : Pe (evE Φ a τ M) (fun x M1 => Pe (evE Φ b τ M1) (fun y M2 => Po (opM o M2 [x, y]) fun u => Bl u fun t => If t (Pe (evE Φ c τ M2) (fun z M3 => Po (opM p M3 [y, z]) fun w => Q w M3) E) (Q (.bl false) M2)) E) E) : Pe (evE Φ (.chain o p a b c) τ M) Q E := by
  rw [evE]
  refine pe_bind (pe_mono h (fun x M1 h => pe_bind (pe_mono h (fun y M2 h => ?_) fun _ _ h => h)) fun _ _ h => h)
  obtain ⟨u, e, t, rfl, h1, h2⟩ := h
  rw [e]
  cases t
  · first | exact h2 rfl | exact pe_ok (h2 rfl) | exact ps_so (h2 rfl)
  · exact pe_bind (pe_mono (h1 rfl) (fun z M3 h => pe_of h) fun _ _ h => h)
theorem pe_sl2 {a b c : C} (h : Pe (evE Φ a τ M) (fun x M1 => Pe (evE Φ b τ M1) (fun y M2 => In y fun lo => Pe (evE Φ c τ M2) (fun z M3 => In z fun hi => Po (sliceD (sh M3 x) (some lo) (some hi)) fun w => Q w M3) E) E) E) : Pe (evE Φ (.sl2 a b c) τ M) Q E := by
  rw [evE]
  refine pe_bind (pe_mono h (fun x M1 h => pe_bind (pe_mono h (fun y M2 h => ?_) fun _ _ h => h)) fun _ _ h => h)
  obtain ⟨lo, rfl, h⟩ := h
  refine pe_bind (pe_mono h (fun z M3 h => ?_) fun _ _ h => h)
  obtain ⟨hi, rfl, h⟩ := h
  exact pe_of h
theorem pe_meth {m : Mth} {o : C} {as : Cs} (h : Pe (evE Φ o τ M) (fun v M1 => Rc m (sh M1 v) (Pe (evEs Φ as τ M1) (fun vs M2 => Po (mthD M2 m v vs) fun z => Q z M2) E)) E) : Pe (evE Φ (.meth m o as) τ M) Q E := by
  rw [evE]
  refine pe_bind (pe_mono h (fun v M1 h => ?_) fun _ _ h => h)
  rw [if_pos h.1]
  exact pe_bind (pe_mono h.2 (fun vs M2 h => pe_of h) fun _ _ h => h)
theorem pe_app {o a : C} (h : Pe (evE Φ o τ M) (fun v M1 => Ob v M1 fun n _ => Pe (evE Φ a τ M1) (fun d M2 => Ap n d M2 Q) E) E) : Pe (evE Φ (.app o a) τ M) Q E := by
  rw [evE]
  refine pe_bind (pe_mono h (fun v M1 h => ?_) fun _ _ h => h)
  obtain ⟨n, xs, rfl, e, h⟩ := h
  dsimp only
  rw [e]
  refine pe_bind (pe_mono h (fun d M2 h => ?_) fun _ _ h => h)
  obtain ⟨ys, e2, hl, h⟩ := h
  rw [e2]
  dsimp only
  rw [if_pos hl]; first | exact h | exact pe_ok h | exact ps_so h
theorem pe_pop {o : C} (h : Pe (evE Φ o τ M) (fun v M1 => ∃ n, v = .obj n ∧ ∃ xs d, M1[n]? = some (.lst (xs ++ [d])) ∧ Q d (M1.set n (.lst xs))) E) : Pe (evE Φ (.pop o) τ M) Q E := by
  rw [evE]
  refine pe_bind (pe_mono h (fun v M1 h => ?_) fun _ _ h => h)
  obtain ⟨n, rfl, xs, d, e, h⟩ := h
  dsimp only
  rw [e]
  have e1 : (xs ++ [d]).getLast? = some d := by simp
  have e2 : (xs ++ [d]).dropLast = xs := by simp
  dsimp only
  rw [e1, e2]; first | exact h | exact pe_ok h | exact ps_so h
theorem pe_ext {o a : C} (h : Pe (evE Φ o τ M) (fun v M1 => Ob v M1 fun n _ => Pe (evE Φ a τ M1) (fun d M2 => Ex n d M2 Q) E) E) : Pe (evE Φ (.ext o a) τ M) Q E := by
  rw [evE]
  refine pe_bind (pe_mono h (fun v M1 h => ?_) fun _ _ h => h)
  obtain ⟨n, xs, rfl, e, h⟩ := h
  dsimp only
  rw [e]
  refine pe_bind (pe_mono h (fun d M2 h => ?_) fun _ _ h => h)
  obtain ⟨xs, ys, e2, e3, hl, h⟩ := h
  rw [e2]
  dsimp only
  rw [e3]
  dsimp only
  rw [if_pos hl]; first | exact h | exact pe_ok h | exact ps_so h
/-- what a loop walks -/
def Pi (r : R Src) (Q : Src → Mem → Prop) (E : Nat → Mem → Prop) : Prop := Pe r Q E
theorem pi_seq {c : C} {Q : Src → Mem → Prop} (h : Pe (evE Φ c τ M) (fun v M1 => Po (seqItems M1 v) fun s => Q s M1) E) : Pi (evIt Φ (.seq c) τ M) Q E := by
  unfold Pi
  rw [evIt]
  exact pe_bind (pe_mono h (fun v M1 h => pe_of h) fun _ _ h => h)
theorem pi_range {as : Cs} {Q : Src → Mem → Prop} (h : Pe (evEs Φ as τ M) (fun vs M1 => Po (rangeItems vs) fun s => Q (.vals s) M1) E) : Pi (evIt Φ (.range as) τ M) Q E := by
  unfold Pi
  rw [evIt]
  refine pe_bind (pe_mono h (fun v M1 h => pe_of ?_) fun _ _ h => h)
  obtain ⟨z, e, h⟩ := h
  exact ⟨_, by rw [e]; rfl, h⟩
theorem pi_enum {c : C} {Q : Src → Mem → Prop} (h : Pe (evE Φ c τ M) (fun v M1 => Po (listItems v) fun s => Q (.vals (enumI 0 s)) M1) E) : Pi (evIt Φ (.enum c) τ M) Q E := by
  unfold Pi
  rw [evIt]
  refine pe_bind (pe_mono h (fun v M1 h => pe_of ?_) fun _ _ h => h)
  obtain ⟨z, e, h⟩ := h
  exact ⟨_, by rw [e]; rfl, h⟩
theorem pi_zip {a b : C} {Q : Src → Mem → Prop} (h : Pe (evE Φ a τ M) (fun v M1 => Pe (evE Φ b τ M1) (fun u M2 => ∃ xs ys, listItems v = some xs ∧ listItems u = some ys ∧ sameKind v u = true ∧ Q (.vals (zipI xs ys)) M2) E) E) : Pi (evIt Φ (.zip a b) τ M) Q E := by
  unfold Pi
  rw [evIt]
  refine pe_bind (pe_mono h (fun v M1 h => pe_bind (pe_mono h (fun u M2 h => ?_) fun _ _ h => h)) fun _ _ h => h)
  obtain ⟨xs, ys, e1, e2, e3, h⟩ := h
  rw [e1, e2]
  dsimp only
  rw [if_pos e3]; first | exact h | exact pe_ok h | exact ps_so h
/-- tests of a comprehension -/
theorem pt_nil {Q : Bool → Mem → Prop} (h : Q true M) : Pe (evT Φ .nil τ M) Q E := by
  rw [evT]; first | exact h | exact pe_ok h | exact ps_so h
theorem pt_cons {c : C} {cs : Cs} {Q : Bool → Mem → Prop} (h : Pe (evE Φ c τ M) (fun v M1 => Tr M1 v fun b => If b (Pe (evT Φ cs τ M1) Q E) (Q false M1)) E) : Pe (evT Φ (.cons c cs) τ M) Q E := by
  rw [evT]
  refine pe_bind (pe_mono h (fun v M1 h => ?_) fun _ _ h => h)
  obtain ⟨c, e, h1, h2⟩ := h
  rw [e]
  cases c
  · first | exact h2 rfl | exact pe_ok (h2 rfl) | exact ps_so (h2 rfl)
  · first | exact h1 rfl | exact pe_ok (h1 rfl) | exact ps_so (h1 rfl)
/-- one item of a comprehension: it raises nothing -/
def Pc (r : R (Option I)) (Q : Option I → Mem → Prop) : Prop := Pe r Q fun _ _ => False
theorem pc_item {own : List Nat} {elt : C} {g : Tg} {ifs : Cs} {v : I} {Q : Option I → Mem → Prop} {τ2 : Rs.Env} (e : asgT g v (wipeE own τ) = some τ2)
    (h : Pe (evT Φ ifs τ2 M) (fun b M3 => If b (Pe (evE Φ elt τ2 M3) (fun d M4 => Q (some d) M4) fun _ _ => False) (Q none M3)) fun _ _ => False) : Pc (compP Φ own elt g ifs τ v M) Q := by
  unfold Pc compP
  rw [e]
  dsimp only
  cases h with
  | ex c M3 e1 h => exact h.elim
  | ok b M3 e1 h =>
    rw [e1]
    obtain ⟨h1, h2⟩ := h
    cases b with
    | false => exact pe_ok (h2 rfl)
    | true =>
      dsimp only
      cases h1 rfl with
      | ex c M4 e2 h => exact h.elim
      | ok d M4 e2 h =>
        rw [e2]; exact pe_ok h
theorem pe_comp {own : List Nat} {elt : C} {g : Tg} {it : It} {ifs : Cs} (h : Pi (evIt Φ it τ M) (fun src M1 => Vs src fun xs => Pe (compL (compP Φ own elt g ifs τ) xs [] M1) (fun r M2 => Q (.lst r) M2) E) E) : Pe (evE Φ (.comp own elt g it ifs) τ M) Q E := by
  rw [evE]
  refine pe_bind (pe_mono h (fun src M1 h => ?_) fun _ _ h => h)
  obtain ⟨xs, rfl, h⟩ := h
  exact pe_bind (pe_mono h (fun r M2 h => pe_ok h) fun _ _ h => h)
/-- items one by one, what is put behind each -/
theorem compL_inv {Q : List I → Mem → Prop} {g : I → Mem → R (Option I)} {Inv : Nat → List I → Mem → Prop} : ∀ (xs : List I) (j : Nat) (acc : List I) (M : Mem), Inv j acc M → acc.length + xs.length ≤ sizeLine →
    (∀ i x acc M, xs[i]? = some x → Inv (j + i) acc M → Pc (g x M) fun o M2 => match o with
      | some d => Inv (j + i + 1) (acc ++ [d]) M2
      | none => Inv (j + i + 1) acc M2) → (∀ acc M, Inv (j + xs.length) acc M → Q acc M) → Pe (compL g xs acc M) Q E
  | [], j, acc, M, h, _, _, hq => pe_ok (hq acc M h)
  | x :: xs, j, acc, M, h, hl, step, hq => by
    have h1 := step 0 x acc M rfl h
    rw [List.length_cons] at hl
    unfold compL
    obtain ⟨o, M2, e, h1⟩ := pe_get h1
    rw [e]
    cases o with
    | none => exact compL_inv xs (j + 1) acc M2 h1 (by omega) (fun i y acc M ey hi => by
        have := step (i + 1) y acc M (by simpa using ey) (by rw [← Nat.add_assoc, Nat.add_right_comm]; exact hi)
        rw [show j + (i + 1) + 1 = j + 1 + i + 1 by omega] at this; exact this) fun acc M hi => hq acc M (by rw [List.length_cons, show j + (xs.length + 1) = j + 1 + xs.length by omega]; exact hi)
    | some d =>
      dsimp only
      rw [if_pos (by omega)]
      exact compL_inv xs (j + 1) (acc ++ [d]) M2 h1 (by rw [List.length_append, List.length_singleton]; omega) (fun i y acc M ey hi => by
        have := step (i + 1) y acc M (by simpa using ey) (by rw [← Nat.add_assoc, Nat.add_right_comm]; exact hi)
        rw [show j + (i + 1) + 1 = j + 1 + i + 1 by omega] at this; exact this) fun acc M hi => hq acc M (by rw [List.length_cons, show j + (xs.length + 1) = j + 1 + xs.length by omega]; exact hi)
/-- .. of things x, each put as f' x -/
theorem compL_all {α : Type} {Q : List I → Mem → Prop} {g : I → Mem → R (Option I)} {f f' : α → I} {ys : List α} (hl : ys.length ≤ 16777216) (h : ∀ y ∈ ys, Pc (g (f y) M) fun o M1 => o = some (f' y) ∧ M1 = M) (hq : Q (ys.map f') M) : Pe (compL g (ys.map f) [] M) Q E := by
  have go : ∀ (ys : List α) (acc : List I), acc.length + ys.length ≤ sizeLine → (∀ y ∈ ys, g (f y) M = .ok (some (f' y)) M) → compL g (ys.map f) acc M = .ok (acc ++ ys.map f') M := by
    intro ys
    induction ys with
    | nil => intro acc _ _; simp [compL]
    | cons y ys ih =>
      intro acc hl h
      rw [List.length_cons] at hl
      show compL g (f y :: ys.map f) acc M = _
      unfold compL
      rw [h y List.mem_cons_self]
      dsimp only
      rw [if_pos (by omega), ih (acc ++ [f' y]) (by rw [List.length_append, List.length_singleton]; omega) fun z hz => h z (List.mem_cons_of_mem _ hz), List.append_assoc]; rfl
  rw [go ys [] (by simpa [show sizeLine = 16777216 by decide +kernel] using hl) fun y hy => ?_]
  · exact pe_ok hq
  · obtain ⟨o, M1, e, rfl, rfl⟩ := pe_get (h y hy)
    exact e
end

/-! ### statements -/
def Ss.app : Ss → Ss → Ss
  | .nil, b => b
  | .cons s a, b => .cons s (a.app b)
theorem evSs_app {Φ : Oracle} {W : Nat} : ∀ (a b : Ss) (τ : Rs.Env) (M : Mem), evSs Φ W (a.app b) τ M = match evSs Φ W a τ M with
    | some (.nx τ1 M1) => evSs Φ W b τ1 M1
    | r => r
  | .nil, b, τ, M => rfl
  | .cons s a, b, τ, M => by
    show evSs Φ W (.cons s (a.app b)) τ M = _
    rw [evSs, evSs]
    cases e : evS Φ W s τ M with
    | none => rfl
    | some o =>
      cases o with
      | nx τ1 M1 => exact evSs_app a b τ1 M1
      | _ => rfl
section
variable {Φ : Oracle} {W : Nat} {τ : Rs.Env} {M : Mem} {Q : Out → Prop} {ss : Ss}
/-- behind one statement: the others, or out -/
def Beh (Φ : Oracle) (W : Nat) (ss : Ss) (Q : Out → Prop) : Out → Prop
  | .nx τ M => Ps (evSs Φ W ss τ M) Q
  | r => Q r
theorem ps_cons {s : S} (h : Ps (evS Φ W s τ M) (Beh Φ W ss Q)) : Ps (evSs Φ W (.cons s ss) τ M) Q := by
  rw [evSs]
  obtain ⟨o, e, h⟩ := h
  rw [e]
  cases o <;> first | exact h | exact ps_so h
theorem ps_nil (h : Q (.nx τ M)) : Ps (evSs Φ W .nil τ M) Q := by
  rw [evSs]; first | exact h | exact pe_ok h | exact ps_so h
theorem ps_asg {g : Tg} {e : C} (h : Pe (evE Φ e τ M) (fun v M1 => Po (asgT g v τ) fun τ2 => Ps (evSs Φ W ss τ2 M1) Q) fun c M1 => Q (.ex c τ M1)) : Ps (evSs Φ W (.cons (.asg g e) ss) τ M) Q := by
  refine ps_cons ?_
  rw [evS]
  refine ps_out (pe_mono h (fun v M1 h => ?_) fun _ _ h => h)
  obtain ⟨τ2, e, h⟩ := h
  rw [e]; exact ps_so h
theorem ps_ex {c : C} (h : Pe (evE Φ c τ M) (fun _ M1 => Ps (evSs Φ W ss τ M1) Q) fun c M1 => Q (.ex c τ M1)) : Ps (evSs Φ W (.cons (.ex c) ss) τ M) Q := by
  refine ps_cons ?_
  rw [evS]
  exact ps_out (pe_mono h (fun v M1 h => ps_so h) fun _ _ h => h)
theorem ps_aug_add {i : Nat} {c : C} {x : Int} (e : τ[i]? = some (some (.int x))) (h : Pe (evE Φ c τ M) (fun v M1 => In v fun y => Ps (evSs Φ W ss (τ.set i (some (.int (x + y)))) M1) Q) fun c M1 => Q (.ex c τ M1)) : Ps (evSs Φ W (.cons (.aug i .add c) ss) τ M) Q := by
  refine ps_cons ?_
  rw [evS, e]
  refine ps_out (pe_mono h (fun v M1 h => ?_) fun _ _ h => h)
  obtain ⟨y, rfl, h⟩ := h
  first | exact h | exact pe_ok h | exact ps_so h
theorem ps_aug_sub {i : Nat} {c : C} {x : Int} (e : τ[i]? = some (some (.int x))) (h : Pe (evE Φ c τ M) (fun v M1 => In v fun y => Ps (evSs Φ W ss (τ.set i (some (.int (x - y)))) M1) Q) fun c M1 => Q (.ex c τ M1)) : Ps (evSs Φ W (.cons (.aug i .sub c) ss) τ M) Q := by
  refine ps_cons ?_
  rw [evS, e]
  refine ps_out (pe_mono h (fun v M1 h => ?_) fun _ _ h => h)
  obtain ⟨y, rfl, h⟩ := h
  first | exact h | exact pe_ok h | exact ps_so h
theorem ps_seti {o ix e : C} (h : Pe (evE Φ e τ M) (fun d M1 => Pe (evE Φ o τ M1) (fun v M2 => Pe (evE Φ ix τ M2) (fun k M3 => Se v k d M3 fun M4 => Ps (evSs Φ W ss τ M4) Q) fun c M1 => Q (.ex c τ M1)) fun c M1 => Q (.ex c τ M1)) fun c M1 => Q (.ex c τ M1)) : Ps (evSs Φ W (.cons (.seti o ix e) ss) τ M) Q := by
  refine ps_cons ?_
  rw [evS]
  refine ps_out (pe_mono h (fun d M1 h => ps_out (pe_mono h (fun v M2 h => ps_out (pe_mono h (fun k M3 h => ?_) fun _ _ h => h)) fun _ _ h => h)) fun _ _ h => h)
  obtain ⟨n, c, c', rfl, e1, e2, h⟩ := h
  dsimp only
  rw [e1]
  dsimp only
  rw [e2]; first | exact h | exact pe_ok h | exact ps_so h
theorem ps_cond {t : C} {a b : Ss} (h : Pe (evE Φ t τ M) (fun v M1 => Tr M1 v fun c => If c (Ps (evSs Φ W (a.app ss) τ M1) Q) (Ps (evSs Φ W (b.app ss) τ M1) Q)) fun c M1 => Q (.ex c τ M1)) : Ps (evSs Φ W (.cons (.cond t a b) ss) τ M) Q := by
  refine ps_cons ?_
  rw [evS]
  refine ps_out (pe_mono h (fun v M1 h => ?_) fun _ _ h => h)
  obtain ⟨c, e, h1, h2⟩ := h
  rw [e]
  have go : ∀ x : Ss, Ps (evSs Φ W (x.app ss) τ M1) Q → Ps (evSs Φ W x τ M1) (Beh Φ W ss Q) := fun x h => by
    rw [evSs_app] at h
    cases e : evSs Φ W x τ M1 with
    | none => rw [e] at h; exact (ps_no h).elim
    | some o =>
      rw [e] at h
      cases o with
      | nx τ2 M2 => exact ps_so h
      | _ => exact ps_so (ps_un (Q := Q) h)
  cases c
  · exact go b (h2 rfl)
  · exact go a (h1 rfl)
theorem ps_ret {e : C} (h : Pe (evE Φ e τ M) (fun v M1 => Q (.ret v M1)) fun c M1 => Q (.ex c τ M1)) : Ps (evSs Φ W (.cons (.ret e) ss) τ M) Q := by
  refine ps_cons ?_
  rw [evS]
  exact ps_out (pe_mono h (fun v M1 h => ps_so h) fun _ _ h => h)
theorem ps_retN (h : Q (.ret .non M)) : Ps (evSs Φ W (.cons .retN ss) τ M) Q := by
  refine ps_cons ?_
  rw [evS]; first | exact h | exact pe_ok h | exact ps_so h
theorem ps_pass (h : Ps (evSs Φ W ss τ M) Q) : Ps (evSs Φ W (.cons .pass ss) τ M) Q := by
  refine ps_cons ?_
  rw [evS]; first | exact h | exact pe_ok h | exact ps_so h
theorem ps_brk (h : Q (.brk τ M)) : Ps (evSs Φ W (.cons .brk ss) τ M) Q := by
  refine ps_cons ?_
  rw [evS]; first | exact h | exact pe_ok h | exact ps_so h
theorem ps_cont (h : Q (.cont τ M)) : Ps (evSs Φ W (.cons .cont ss) τ M) Q := by
  refine ps_cons ?_
  rw [evS]; first | exact h | exact pe_ok h | exact ps_so h
theorem ps_raise {c : Nat} (h : Q (.ex c τ M)) : Ps (evSs Φ W (.cons (.raise c) ss) τ M) Q := by
  refine ps_cons ?_
  rw [evS]; first | exact h | exact pe_ok h | exact ps_so h
/-- a loop over things that stay -/
theorem ps_each {g : Tg} {it : It} {b : Ss} (h : Pi (evIt Φ it τ M) (fun src M1 => Vs src fun xs => Ps (eachL g (evSs Φ W b) xs τ M1) (Beh Φ W ss Q)) fun c M1 => Q (.ex c τ M1)) : Ps (evSs Φ W (.cons (.each g it b) ss) τ M) Q := by
  refine ps_cons ?_
  rw [evS]
  refine ps_out (pe_mono h (fun v M1 h => ?_) fun _ _ h => h)
  obtain ⟨xs, rfl, h⟩ := h
  first | exact h | exact pe_ok h | exact ps_so h
theorem ps_eachC {g : Tg} {it : It} {b : Ss} (h : Pi (evIt Φ it τ M) (fun src M1 => ∃ n, src = .cell n ∧ Ps (eachG (cellItem · n) g (evSs Φ W b) W 0 τ M1) (Beh Φ W ss Q)) fun c M1 => Q (.ex c τ M1)) : Ps (evSs Φ W (.cons (.each g it b) ss) τ M) Q := by
  refine ps_cons ?_
  rw [evS]
  refine ps_out (pe_mono h (fun v M1 h => ?_) fun _ _ h => h)
  obtain ⟨xs, rfl, h⟩ := h
  first | exact h | exact pe_ok h | exact ps_so h
theorem ps_loop {t : C} {b : Ss} (h : Ps (loopW (evE Φ t) (evSs Φ W b) W τ M) (Beh Φ W ss Q)) : Ps (evSs Φ W (.cons (.loop t b) ss) τ M) Q := by
  refine ps_cons ?_
  rw [evS]; first | exact h | exact pe_ok h | exact ps_so h
/-- what a loop's body may come to -/
def Rnd (N : Rs.Env → Mem → Prop) (B Q : Out → Prop) : Out → Prop
  | .nx τ M => N τ M
  | .cont τ M => N τ M
  | .brk τ M => B (.nx τ M)
  | r => Q r
end
section
variable {Q : Out → Prop} {g : Tg} {b : Rs.Env → Mem → Option Out}
theorem each_nil {τ : Rs.Env} {M : Mem} (h : Q (.nx τ M)) : Ps (eachL g b [] τ M) Q := ps_so h
theorem each_cons {x : I} {xs : List I} {τ τ1 : Rs.Env} {M : Mem} (e : asgT g x τ = some τ1) (h : Ps (b τ1 M) (Rnd (fun τ M => Ps (eachL g b xs τ M) Q) Q Q)) : Ps (eachL g b (x :: xs) τ M) Q := by
  unfold eachL
  rw [e]
  dsimp only
  obtain ⟨o, e1, h⟩ := h
  rw [e1]
  cases o with
  | nx τ M => exact h
  | cont τ M => exact h
  | _ => exact ps_so h
theorem each_inv {Inv : Nat → Rs.Env → Mem → Prop} : ∀ (xs : List I) (j : Nat) (τ : Rs.Env) (M : Mem), Inv j τ M →
    (∀ i x τ M, xs[i]? = some x → Inv (j + i) τ M → ∃ τ1, asgT g x τ = some τ1 ∧ Ps (b τ1 M) (Rnd (Inv (j + i + 1)) Q Q)) → (∀ τ M, Inv (j + xs.length) τ M → Q (.nx τ M)) → Ps (eachL g b xs τ M) Q
  | [], j, τ, M, h, _, hq => ps_so (hq τ M h)
  | x :: xs, j, τ, M, h, step, hq => by
    obtain ⟨τ1, e, h1⟩ := step 0 x τ M rfl h
    refine each_cons e (ps_mono h1 fun r hr => ?_)
    have go : ∀ τ M, Inv (j + 0 + 1) τ M → Ps (eachL g b xs τ M) Q := fun τ M h => each_inv xs (j + 1) τ M h (fun i y τ M ey hi => by
      have := step (i + 1) y τ M (by simpa using ey) (by rw [← Nat.add_assoc, Nat.add_right_comm]; exact hi)
      rw [show j + (i + 1) + 1 = j + 1 + i + 1 by omega] at this; exact this) fun τ M hi => hq τ M (by rw [List.length_cons, show j + (xs.length + 1) = j + 1 + xs.length by omega]; exact hi)
    cases r with
    | nx τ M => exact go τ M hr
    | cont τ M => exact go τ M hr
    | _ => exact hr
/-- .. over things f x, a state that follows them -/
theorem each_map {α : Type} {f : α → I} {Inv : List α → Rs.Env → Mem → Prop} : ∀ (xs pre : List α) (τ : Rs.Env) (M : Mem), Inv pre τ M →
    (∀ x pre' τ M, x ∈ xs → (∃ s, pre ++ xs = pre' ++ x :: s) → Inv pre' τ M → ∃ τ1, asgT g (f x) τ = some τ1 ∧ Ps (b τ1 M) (Rnd (Inv (pre' ++ [x])) Q Q)) → (∀ τ M, Inv (pre ++ xs) τ M → Q (.nx τ M)) → Ps (eachL g b (xs.map f) τ M) Q
  | [], pre, τ, M, h, _, hq => ps_so (hq τ M (by rw [List.append_nil]; exact h))
  | x :: xs, pre, τ, M, h, step, hq => by
    obtain ⟨τ1, e, h1⟩ := step x pre τ M List.mem_cons_self ⟨xs, rfl⟩ h
    refine each_cons e (ps_mono h1 fun r hr => ?_)
    have go : ∀ τ M, Inv (pre ++ [x]) τ M → Ps (eachL g b (xs.map f) τ M) Q := fun τ M h => each_map xs (pre ++ [x]) τ M h (fun y pre' τ M hy hs hi => step y pre' τ M (List.mem_cons_of_mem _ hy) (by rw [List.append_assoc] at hs; exact hs) hi) fun τ M hi => hq τ M (by rw [List.append_assoc] at hi; exact hi)
    cases r with
    | nx τ M => exact go τ M hr
    | cont τ M => exact go τ M hr
    | _ => exact hr
theorem loop_inv {t : Rs.Env → Mem → R I} {Inv : Rs.Env → Mem → Prop} (μ : Rs.Env → Mem → Nat) : ∀ (n : Nat) (τ : Rs.Env) (M : Mem), Inv τ M → μ τ M < n →
    (∀ τ M, Inv τ M → Pe (t τ M) (fun v M1 => Tr M1 v fun c => If c (Ps (b τ M1) (Rnd (fun τ2 M2 => Inv τ2 M2 ∧ μ τ2 M2 < μ τ M) Q Q)) (Q (.nx τ M1))) fun c M1 => Q (.ex c τ M1)) → Ps (loopW t b n τ M) Q
  | 0, _, _, _, h, _ => absurd h (Nat.not_lt_zero _)
  | n + 1, τ, M, h, hn, step => by
    unfold loopW
    refine ps_out (pe_mono (step τ M h) (fun v M1 hv => ?_) fun _ _ h => h)
    obtain ⟨c, e, h1, h2⟩ := hv
    rw [e]
    cases c with
    | false => exact ps_so (h2 rfl)
    | true =>
      dsimp only
      obtain ⟨o, eb, h1⟩ := h1 rfl
      rw [eb]
      cases o with
      | nx τ2 M2 => exact loop_inv μ n τ2 M2 h1.1 (by have := h1.2; omega) step
      | cont τ2 M2 => exact loop_inv μ n τ2 M2 h1.1 (by have := h1.2; omega) step
      | _ => exact ps_so h1
end
/-! ### defs -/
section
variable {P : Nat → Option Fn} {W k f : Nat} {fn : Fn} {args : List I} {M : Mem} {Q : I → Mem → Prop} {E : Nat → Mem → Prop}
/-- out of a frame without cells -/
def FrO (M : Mem) (Q : I → Mem → Prop) (E : Nat → Mem → Prop) : Out → Prop
  | .nx _ _ => Q .non M
  | .ret v M1 => ∃ u, frz M1 dpt v = some u ∧ Q u M
  | .ex c _ _ => E c M
  | _ => False
theorem fr_ret {v : I} {M1 : Mem} (hv : v.flat = true) (h : Q v M) : FrO M Q E (.ret v M1) := ⟨v, frz_flat _ hv, h⟩
theorem fr_lst {n : Nat} {M1 : Mem} {xs : List I} (e : M1[n]? = some (.lst xs)) (hf : I.flats xs = true) (h : Q (.lst xs) M) : FrO M Q E (.ret (.obj n) M1) := ⟨_, frz_lst e hf, h⟩
theorem pe_call0 (h : P f = some fn) (hl : args.length = fn.np) (hf : fn.full = false) (hm : fn.mt = []) (ha : I.flats args = true)
    (hb : Ps (evSs (evCall P W k) W fn.body (args.map some ++ List.replicate (fn.ns - fn.np) none) []) (FrO M Q E)) : Pe (evCall P W (k + 1) f args M) Q E := by
  rw [call0 h hl hf hm ha]
  obtain ⟨o, e, hb⟩ := hb
  rw [e]
  cases o with
  | nx τ M1 => exact pe_ok hb
  | ret v M1 =>
    obtain ⟨u, e, h⟩ := hb
    show Pe (match frz M1 dpt v with
      | some u => R.ok u M
      | none => .no) Q E
    rw [e]; exact pe_ok h
  | ex c τ M1 => exact pe_exx hb
  | brk τ M1 => exact hb.elim
  | cont τ M1 => exact hb.elim
/-- out of a frame that runs in its caller's cells -/
def Ff (Q : I → Mem → Prop) (E : Nat → Mem → Prop) : Out → Prop
  | .nx _ M1 => Q .non M1
  | .ret v M1 => Q v M1
  | .ex c _ M1 => E c M1
  | _ => False
theorem pe_callF (h : P f = some fn) (hl : args.length = fn.np) (hf : fn.full = true)
    (hb : Ps (evSs (evCall P W k) W fn.body (args.map some ++ List.replicate (fn.ns - fn.np) none) M) (Ff Q E)) : Pe (evCall P W (k + 1) f args M) Q E := by
  rw [callF h hl hf]
  obtain ⟨o, e, hb⟩ := hb
  rw [e]
  cases o with
  | nx τ M1 => exact pe_ok hb
  | ret v M1 => exact pe_ok hb
  | ex c τ M1 => exact pe_exx hb
  | brk τ M1 => exact hb.elim
  | cont τ M1 => exact hb.elim
/-- out of a frame that was handed one cell, which stands at p -/
def Fr1 (p : Nat) (M : Mem) (Q : I → Mem → Prop) (E : Nat → Mem → Prop) : Out → Prop
  | .nx _ M1 => ∃ c', M1[0]? = some c' ∧ c'.flat = true ∧ Q .non (M.set p c')
  | .ret v M1 => ∃ c' u, M1[0]? = some c' ∧ c'.flat = true ∧ outVal [p] M1 v = some u ∧ Q u (M.set p c')
  | .ex c _ M1 => ∃ c', M1[0]? = some c' ∧ c'.flat = true ∧ E c (M.set p c')
  | _ => False
theorem frzC_flat {M : Mem} {c : Cell} (h : c.flat = true) : frzC M c = some c := by
  have go : ∀ xs : List I, I.flats xs = true → xs.mapM (frz M dpt) = some xs := fun xs hx => frzs_flat hx
  cases c with
  | lst xs =>
    show (xs.mapM (frz M dpt)).map Cell.lst = _
    rw [go xs h]; rfl
  | dic ks xs =>
    show (xs.mapM (frz M dpt)).map (Cell.dic ks) = _
    rw [go xs h]; rfl
  | dit ks xs =>
    show (xs.mapM (frz M dpt)).map (Cell.dit ks) = _
    rw [go xs h]; rfl
  | ins _ _ => cases h
theorem fr1_ret {p : Nat} {v : I} {M1 : Mem} {c' : Cell} (e : M1[0]? = some c') (hc : c'.flat = true) (hv : v.flat = true) (h : Q v (M.set p c')) : Fr1 p M Q E (.ret v M1) := by
  refine ⟨c', v, e, hc, ?_, h⟩
  unfold outVal
  have : objI v = none := by
    cases v <;> first | rfl | cases hv
  rw [this]
  exact frz_flat _ hv
theorem fr1_self {p : Nat} {M1 : Mem} {c' : Cell} (e : M1[0]? = some c') (hc : c'.flat = true) (h : Q (.obj p) (M.set p c')) : Fr1 p M Q E (.ret (.obj 0) M1) := ⟨c', .obj p, e, hc, rfl, h⟩
theorem fr1_lst {p n : Nat} {M1 : Mem} {c' : Cell} {xs : List I} (e : M1[0]? = some c') (hc : c'.flat = true) (en : M1[n + 1]? = some (.lst xs)) (hx : I.flats xs = true) (h : Q (.lst xs) (M.set p c')) : Fr1 p M Q E (.ret (.obj (n + 1)) M1) := by
  refine ⟨c', .lst xs, e, hc, ?_, h⟩
  show frz (mask (List.range 1) M1) dpt (.obj (n + 1)) = _
  have : (mask (List.range 1) M1)[n + 1]? = some (.lst xs) := by
    show (M1.set 0 (.ins 0 []))[n + 1]? = _
    rw [List.getElem?_set_ne (by omega)]; exact en
  exact frz_lst this hx
theorem pe_call1 {p : Nat} {c : Cell} (h : P f = some fn) (hl : args.length + 1 = fn.np) (hf : fn.full = false) (hm : fn.mt = [0]) (hp : M[p]? = some c) (hc : c.flat = true) (ha : I.flats args = true)
    (hb : Ps (evSs (evCall P W k) W fn.body (some (.obj 0) :: args.map some ++ List.replicate (fn.ns - fn.np) none) [c]) (Fr1 p M Q E)) : Pe (evCall P W (k + 1) f (.obj p :: args) M) Q E := by
  unfold evCall
  rw [h]
  dsimp only
  rw [if_pos (show (I.obj p :: args).length = fn.np from hl), hf, hm]
  have e1 : inArgs [0] (mask [p] M) 0 (.obj p :: args) = some (.obj 0 :: args) := by
    show ((if ([0] : List Nat).contains 0 then (([0] : List Nat).idxOf? 0).map I.obj else _).bind fun u => (inArgs [0] (mask [p] M) 1 args).map (u :: ·)) = _
    rw [if_pos (by simp), in_flat0 (Nat.le_refl _) ha]; rfl
  have e2 : (I.flats ((List.range (I.obj p :: args).length).filterMap fun i => if ([0] : List Nat).contains i then none else (I.obj p :: args)[i]?)) = true := by
    refine flats_of fun x hx => ?_
    obtain ⟨i, _, hi⟩ := List.mem_filterMap.mp hx
    split at hi
    · cases hi
    · rename_i hn
      cases i with
      | zero => exact absurd (by simp) hn
      | succ i => exact flats_mem ha x (List.mem_of_getElem? hi)
  have e3 : (([0] : List Nat).mapM fun i => ((I.obj p :: args)[i]?).bind objI) = some [p] := rfl
  have e4 : ([p].mapM (M[·]?)) = some [c] := by
    simp [hp]
  rw [if_neg (by simp)]
  simp only [e1, e2, e3, e4]
  rw [if_pos ⟨by simp, by simp [hc]⟩]
  have hb' : Ps (evSs (evCall P W k) W fn.body (List.map some (I.obj 0 :: args) ++ List.replicate (fn.ns - fn.np) none) [c]) (Fr1 p M Q E) := hb
  have tk : ∀ {M1 : Mem} {c' : Cell}, M1[0]? = some c' → M1.take 1 = [c'] := fun {M1 c'} h1 => by
    cases M1 with
    | nil => cases h1
    | cons a r =>
      cases h1
      rfl
  have ou : ∀ {v u : I} {M1 : Mem} {c' : Cell}, M1[0]? = some c' → c'.flat = true → outVal [p] M1 v = some u → outRes [p] false (some v) M1 M = some (some u, M.set p c') := fun {v u M1 c'} h1 hc' hu => by
    unfold outRes
    simp only [List.length_singleton, tk h1]
    have : ([c'].mapM (frzC (mask (List.range 1) M1))) = some [c'] := by simp [frzC_flat hc']
    rw [this]
    simp [hu, putCells]
  obtain ⟨o, e, hb'⟩ := hb'
  rw [e]
  cases o with
  | nx τ M1 =>
    obtain ⟨c', h1, hc', h⟩ := hb'
    have : outVal [p] M1 .non = some .non := rfl
    simp only [Bool.not_true, ou h1 hc' this]
    exact pe_ok h
  | ret v M1 =>
    obtain ⟨c', u, h1, hc', hu, h⟩ := hb'
    simp only [Bool.not_true, ou h1 hc' hu]
    exact pe_ok h
  | ex c τ M1 =>
    obtain ⟨c', h1, hc', h⟩ := hb'
    have : outRes [p] false none M1 M = some (none, M.set p c') := by
      unfold outRes
      simp only [List.length_singleton, tk h1]
      have : ([c'].mapM (frzC (mask (List.range 1) M1))) = some [c'] := by simp [frzC_flat hc']
      rw [this]
      simp [putCells]
    simp only [Bool.not_true, this]
    exact pe_exx h
  | brk τ M1 => exact hb'.elim
  | cont τ M1 => exact hb'.elim
end
end Rs

/-! second layer, part s: operations by what is to hold behind them -/
namespace Rs
open PySem PySem.Spec PyProof.Rows L2
theorem sl24' : sizeLine = 16777216 := by decide +kernel
section
variable {Q : I → Prop} {M : Mem}
theorem po_eq {α : Type} {o : Option α} {x : α} {Q : α → Prop} (e : o = some x) (h : Q x) : Po o Q := ⟨x, e, h⟩
/-! ints -/
theorem po_add {a b : Int} (h : Q (.int (a + b))) : Po (opM .add M [.int a, .int b]) Q := ⟨_, rfl, h⟩
theorem po_sub {a b : Int} (h : Q (.int (a - b))) : Po (opM .sub M [.int a, .int b]) Q := ⟨_, rfl, h⟩
theorem logN {a : Int} (h : a.natAbs < 2 ^ 200) : a.natAbs.log2 < 200 := by
  by_cases h1 : a.natAbs = 0
  · rw [h1]; decide
  · rw [Nat.log2_lt h1]; exact h
theorem po_mul {a b : Int} (ha : -(2 ^ 190) < a ∧ a < 2 ^ 190) (hb : -(2 ^ 190) < b ∧ b < 2 ^ 190) (h : Q (.int (a * b))) : Po (opM .mul M [.int a, .int b]) Q := by
  have h1 := logN (a := a) (by omega)
  have h2 := logN (a := b) (by omega)
  refine ⟨_, ?_, h⟩
  show mulD (.int a) (.int b) = _
  show (if a.natAbs.log2 + b.natAbs.log2 < 1000000 then some (I.int (a * b)) else none) = _
  rw [if_pos (by omega)]
theorem po_fdiv {a b : Int} (h0 : 0 < b) (h1 : b < 2 ^ 190) (h : Q (.int (a / b))) : Po (opM .fdiv M [.int a, .int b]) Q := by
  have h2 := logN (a := b) (by omega)
  refine ⟨_, ?_, h⟩
  show (if 0 < b ∧ b.natAbs.log2 < 9000 then some (I.int (a / b)) else none) = _
  rw [if_pos ⟨h0, by omega⟩]
theorem po_mod {a b : Int} (h0 : 0 < b) (h : Q (.int (a % b))) : Po (opM .mod M [.int a, .int b]) Q := by
  refine ⟨_, ?_, h⟩
  show (if 0 < b then some (I.int (a % b)) else none) = _
  rw [if_pos h0]
theorem po_pow6 (h : Q (.int 1000000)) : Po (opM .pow M [.int 10, .int 6]) Q := ⟨_, (by
  show (if (0 : Int) ≤ 6 ∧ (6 : Int) ≤ 1000000 ∧ (10 : Int).natAbs < 2 ^ 64 then some (I.int ((10 : Int) ^ (6 : Int).toNat)) else none) = _
  rw [if_pos (by decide)]
  exact congrArg (fun z => some (I.int z)) (by decide : (10 : Int) ^ (6 : Int).toNat = 1000000) : powD (.int 10) (.int 6) = some (.int 1000000)), h⟩
theorem po_pow18 (h : Q (.int 1000000000000000000)) : Po (opM .pow M [.int 10, .int 18]) Q := ⟨_, (by
  show (if (0 : Int) ≤ 18 ∧ (18 : Int) ≤ 1000000 ∧ (10 : Int).natAbs < 2 ^ 64 then some (I.int ((10 : Int) ^ (18 : Int).toNat)) else none) = _
  rw [if_pos (by decide)]
  exact congrArg (fun z => some (I.int z)) (by decide : (10 : Int) ^ (18 : Int).toNat = 1000000000000000000) : powD (.int 10) (.int 18) = some (.int 1000000000000000000)), h⟩
theorem po_neg {a : Int} (h : Q (.int (-a))) : Po (opM .neg M [.int a]) Q := ⟨_, rfl, h⟩
theorem po_lt {a b : Int} (h : Q (.bl (decide (a < b)))) : Po (opM .lt M [.int a, .int b]) Q := ⟨_, rfl, h⟩
theorem po_le {a b : Int} (h : Q (.bl (decide (a ≤ b)))) : Po (opM .le M [.int a, .int b]) Q := ⟨_, rfl, h⟩
theorem po_gt {a b : Int} (h : Q (.bl (decide (b < a)))) : Po (opM .gt M [.int a, .int b]) Q := ⟨_, rfl, h⟩
theorem po_ge {a b : Int} (h : Q (.bl (decide (b ≤ a)))) : Po (opM .ge M [.int a, .int b]) Q := ⟨_, rfl, h⟩
theorem beq_dec {α : Type} [BEq α] [LawfulBEq α] [DecidableEq α] (a b : α) : (a == b) = decide (a = b) := by
  by_cases h : a = b
  · rw [decide_eq_true h, h]; exact beq_self_eq_true b
  · rw [decide_eq_false h]; exact beq_eq_false_iff_ne.mpr h
theorem po_eqI {a b : Int} (h : Q (.bl (decide (a = b)))) : Po (opM .eq M [.int a, .int b]) Q := ⟨_, rfl, by
  have : (PyData.eqv (I.int a).py (I.int b).py) = decide (a = b) := beq_dec a b
  rw [this]; exact h⟩
theorem po_neI {a b : Int} (h : Q (.bl (!decide (a = b)))) : Po (opM .ne M [.int a, .int b]) Q := ⟨_, rfl, by
  have : (PyData.eqv (I.int a).py (I.int b).py) = decide (a = b) := beq_dec a b
  rw [this]; exact h⟩
/-! things compared -/
theorem po_eqD {a b : I} {r : Bool} (e : eqD a b = some r) (ha : a.flat = true) (hb : b.flat = true) (h : Q (.bl r)) : Po (opM .eq M [a, b]) Q := by
  refine ⟨.bl r, ?_, h⟩
  show ((([a, b] : List I).mapM (frz M dpt)).bind (opD .eq)) = _
  simp [frz_flat _ ha, frz_flat _ hb, opD, e]
theorem po_neD {a b : I} {r : Bool} (e : eqD a b = some r) (ha : a.flat = true) (hb : b.flat = true) (h : Q (.bl !r)) : Po (opM .ne M [a, b]) Q := by
  refine ⟨.bl !r, ?_, h⟩
  show ((([a, b] : List I).mapM (frz M dpt)).bind (opD .ne)) = _
  simp [frz_flat _ ha, frz_flat _ hb, opD, e]
theorem po_eqF {a b fa fb : I} {r : Bool} (ha : frz M dpt a = some fa) (hb : frz M dpt b = some fb) (e : eqD fa fb = some r) (h : Q (.bl r)) : Po (opM .eq M [a, b]) Q := by
  refine ⟨.bl r, ?_, h⟩
  show ((([a, b] : List I).mapM (frz M dpt)).bind (opD .eq)) = _
  simp [ha, hb, opD, e]
theorem po_neF {a b fa fb : I} {r : Bool} (ha : frz M dpt a = some fa) (hb : frz M dpt b = some fb) (e : eqD fa fb = some r) (h : Q (.bl !r)) : Po (opM .ne M [a, b]) Q := by
  refine ⟨.bl !r, ?_, h⟩
  show ((([a, b] : List I).mapM (frz M dpt)).bind (opD .ne)) = _
  simp [ha, hb, opD, e]
/-- texts that the library can lay -/
def StrOk (s : Str) : Prop := PyData.canLay0 (.str s) = true
theorem eqD_str {a b : Str} (ha : StrOk a) (hb : StrOk b) : eqD (.str a) (.str b) = some (decide (a = b)) := by
  unfold eqD
  rw [(fit_str (n := 64) ha).fit, (fit_str (n := 64) hb).fit]
  have : (PyData.eqv (I.str a).py (I.str b).py) = decide (a = b) := beq_dec a b
  exact congrArg some this
theorem po_eqS {a b : Str} (ha : StrOk a) (hb : StrOk b) (h : Q (.bl (decide (a = b)))) : Po (opM .eq M [.str a, .str b]) Q := po_eqD (eqD_str ha hb) rfl rfl h
theorem po_neS {a b : Str} (ha : StrOk a) (hb : StrOk b) (h : Q (.bl (!decide (a = b)))) : Po (opM .ne M [.str a, .str b]) Q := po_neD (eqD_str ha hb) rfl rfl h
theorem po_ltTu {a b : List Int} (h : Q (.bl (HT.lexLt a b))) : Po (opM .lt M [.tup (a.map .int), .tup (b.map .int)]) Q := by
  refine ⟨.bl (HT.lexLt a b), ?_, h⟩
  show (match intsI (a.map .int), intsI (b.map .int) with
    | some m, some n => some (I.bl (HT.lexLt m n))
    | _, _ => none) = _
  rw [intsI_ints, intsI_ints]
theorem po_isN {v : I} {b : Bool} (e : isN (sh M v) = some (.bl b)) (h : Q (.bl b)) : Po (opM .isN M [v]) Q := ⟨_, e, h⟩
theorem po_notN {v : I} {b : Bool} (e : isN (sh M v) = some (.bl b)) (h : Q (.bl !b)) : Po (opM .notN M [v]) Q := by
  refine ⟨_, ?_, h⟩
  show ((isN (sh M v)).bind _) = _
  rw [e]; rfl
theorem po_isB {n b c : Bool} (h : Q (.bl (if n then !decide (c = b) else decide (c = b)))) : Po (opM (.isB n b) M [.bl c]) Q := ⟨_, rfl, h⟩
theorem po_isT {v : I} {t : Ty} {b : Bool} (e : isTy (sh M v) t = some b) (h : Q (.bl b)) : Po (opM (.isT t) M [v]) Q := by
  refine ⟨.bl b, ?_, h⟩
  show (isTy (sh M v) t).map I.bl = _
  rw [e]; rfl
/-! parts -/
theorem po_ix {v x : I} {k : Int} {y : I} (e0 : sh M v = x) (e : ixD x (.int k) = some y) (h : Q y) : Po (opM .ix M [v, .int k]) Q := by
  refine ⟨y, ?_, h⟩
  show ixD (sh M v) (.int k) = _
  rw [e0]; exact e
theorem po_ixT {xs : List I} {k : Int} {y : I} (e : atI xs k = some y) (h : Q y) : Po (opM .ix M [.tup xs, .int k]) Q := ⟨y, e, h⟩
theorem po_ixL {xs : List I} {k : Int} {y : I} (e : atI xs k = some y) (h : Q y) : Po (opM .ix M [.lst xs, .int k]) Q := ⟨y, e, h⟩
theorem po_ixW {xs : List I} {k : Int} {y : I} (e : atI xs k = some y) (h : Q y) : Po (opM .ix M [.wtp xs, .int k]) Q := ⟨y, e, h⟩
theorem po_ixO {n : Nat} {xs : List I} {k : Int} {y : I} (e0 : M[n]? = some (.lst xs)) (e : atI xs k = some y) (h : Q y) : Po (opM .ix M [.obj n, .int k]) Q := by
  have : sh M (.obj n) = .lst xs := by
    show (match M[n]? with
      | some (.lst xs) => I.lst xs
      | some (.dic ks xs) => .dic ks xs
      | some (.dit ks xs) => .dit ks xs
      | _ => .obj n) = _
    rw [e0]
  exact po_ix this e h
theorem sh_dic {M : Mem} {n : Nat} {ks : List Key} {xs : List I} (e0 : M[n]? = some (.dic ks xs)) : sh M (.obj n) = .dic ks xs := by
  show (match M[n]? with
    | some (.lst xs) => I.lst xs
    | some (.dic ks xs) => .dic ks xs
    | some (.dit ks xs) => .dit ks xs
    | _ => .obj n) = _
  rw [e0]
theorem sh_lstO {M : Mem} {n : Nat} {xs : List I} (e0 : M[n]? = some (.lst xs)) : sh M (.obj n) = .lst xs := by
  show (match M[n]? with
    | some (.lst xs) => I.lst xs
    | some (.dic ks xs) => .dic ks xs
    | some (.dit ks xs) => .dit ks xs
    | _ => .obj n) = _
  rw [e0]
theorem po_ixD {n : Nat} {ks : List Key} {xs : List I} {k : I} {y : I} (e0 : M[n]? = some (.dic ks xs)) (hk : sh M k = k) (e : dicD ks xs k = some y) (h : Q y) : Po (opM .ix M [.obj n, k]) Q := by
  refine ⟨y, ?_, h⟩
  show ixD (sh M (.obj n)) (sh M k) = _
  rw [sh_dic e0, hk]; exact e
theorem po_ixDv {ks : List Key} {xs : List I} {k : I} {y : I} (hk : sh M k = k) (e : dicD ks xs k = some y) (h : Q y) : Po (opM .ix M [.dic ks xs, k]) Q := by
  refine ⟨y, ?_, h⟩
  show ixD (.dic ks xs) (sh M k) = _
  rw [hk]; exact e
/-- .. whichever item it is -/
theorem po_ixAny {v : I} {xs : List I} {k : Int} (e0 : sh M v = .lst xs ∨ sh M v = .tup xs ∨ sh M v = .wtp xs) (h0 : 0 ≤ k) (h1 : k < (xs.length : Int)) (h : ∀ y, y ∈ xs → Q y) : Po (opM .ix M [v, .int k]) Q := by
  have hk : k.toNat < xs.length := by omega
  refine ⟨xs[k.toNat], ?_, h _ (List.getElem_mem hk)⟩
  show ixD (sh M v) (.int k) = _
  rcases e0 with e0 | e0 | e0 <;> rw [e0]
  all_goals
    show atI xs k = _
    simp [atI, ixN, h0, h1, hk]
theorem at_any {α : Type} {xs : List α} {k : Int} (h0 : 0 ≤ k) (h1 : k < (xs.length : Int)) : atI xs k = some (xs[k.toNat]'(by omega)) := by
  have hk : k.toNat < xs.length := by omega
  simp [atI, ixN, h0, h1, hk]
theorem at_get {α : Type} {xs : List α} {k : Nat} {y : α} (h : xs[k]? = some y) : atI xs (k : Int) = some y := by
  have hk : k < xs.length := (List.getElem?_eq_some_iff.mp h).1
  unfold atI ixN
  rw [if_pos (by omega), if_pos (by omega)]
  exact h
theorem at_int {α : Type} {xs : List α} {i : Int} {k : Nat} {y : α} (e : i = (k : Int)) (h : xs[k]? = some y) : atI xs i = some y := e ▸ at_get h
theorem at0 {α : Type} {a : α} {l : List α} : atI (a :: l) 0 = some a := at_get (k := 0) rfl
theorem at1 {α : Type} {a b : α} {l : List α} : atI (a :: b :: l) 1 = some b := at_get (k := 1) rfl
theorem at2 {α : Type} {a b c : α} {l : List α} : atI (a :: b :: c :: l) 2 = some c := at_get (k := 2) rfl
theorem at3 {α : Type} {a b c d : α} {l : List α} : atI (a :: b :: c :: d :: l) 3 = some d := at_get (k := 3) rfl
theorem at4 {α : Type} {a b c d e : α} {l : List α} : atI (a :: b :: c :: d :: e :: l) 4 = some e := at_get (k := 4) rfl
theorem at_last {α : Type} {xs : List α} {x : α} : atI (xs ++ [x]) (-1) = some x := by
  have e : ixN (xs ++ [x]).length (-1) = some xs.length := by
    unfold ixN
    rw [if_neg (by omega), if_pos (by rw [List.length_append, List.length_singleton]; omega)]
    congr 1
    rw [List.length_append, List.length_singleton]; omega
  unfold atI
  rw [e]
  simp
theorem po_lenL {xs : List I} (h : Q (.int xs.length)) : Po (opM .len M [.lst xs]) Q := ⟨_, rfl, h⟩
theorem po_lenT {xs : List I} (h : Q (.int xs.length)) : Po (opM .len M [.tup xs]) Q := ⟨_, rfl, h⟩
theorem po_lenW {xs : List I} (h : Q (.int xs.length)) : Po (opM .len M [.wtp xs]) Q := ⟨_, rfl, h⟩
theorem po_lenScr {xs : List Int} (h : Q (.int xs.length)) : Po (opM .len M [.scr xs]) Q := ⟨_, rfl, h⟩
theorem po_lenS {s : Str} (hs : s.length ≤ sizeLine) (h : Q (.int s.length)) : Po (opM .len M [.str s]) Q := by
  refine ⟨_, ?_, h⟩
  show (if s.length ≤ sizeLine then some (I.int s.length) else none) = _
  rw [if_pos hs]
theorem po_lenO {n : Nat} {xs : List I} (e0 : M[n]? = some (.lst xs)) (h : Q (.int xs.length)) : Po (opM .len M [.obj n]) Q := by
  refine ⟨_, ?_, h⟩
  show lenD (sh M (.obj n)) = _
  rw [sh_lstO e0]; rfl
theorem po_lenD {n : Nat} {ks : List Key} {xs : List I} (e0 : M[n]? = some (.dic ks xs)) (h : Q (.int ks.length)) : Po (opM .len M [.obj n]) Q := by
  refine ⟨_, ?_, h⟩
  show lenD (sh M (.obj n)) = _
  rw [sh_dic e0]; rfl
theorem po_addL {a b : I} {xs ys : List I} (ea : sh M a = .lst xs) (eb : sh M b = .lst ys) (hl : xs.length + ys.length ≤ 16777216) (h : Q (.lst (xs ++ ys))) : Po (opM .add M [a, b]) Q := by
  refine ⟨_, ?_, h⟩
  show addD (sh M a) (sh M b) = _
  rw [ea, eb]
  show (if xs.length + ys.length ≤ sizeLine then some (I.lst (xs ++ ys)) else none) = _
  rw [if_pos (by rw [sl24']; exact hl)]
theorem po_addT {xs ys : List I} (hl : xs.length + ys.length ≤ 16777216) (h : Q (.tup (xs ++ ys))) : Po (opM .add M [.tup xs, .tup ys]) Q := by
  refine ⟨_, ?_, h⟩
  show (if xs.length + ys.length ≤ sizeLine then some (I.tup (xs ++ ys)) else none) = _
  rw [if_pos (by rw [sl24']; exact hl)]
theorem po_addS {a b : Str} (hl : a.length + b.length ≤ 16777216) (h : Q (.str (a ++ b))) : Po (opM .add M [.str a, .str b]) Q := by
  refine ⟨_, ?_, h⟩
  show (if a.length + b.length ≤ sizeLine then some (I.str (a ++ b)) else none) = _
  rw [if_pos (by rw [sl24']; exact hl)]
theorem po_slL {v : I} {xs : List I} {lo : Int} (e : sh M v = .lst xs) (h : Q (.lst (cut xs (some lo) none))) : Po (opM (.slice true false) M [v, .int lo]) Q := by
  refine ⟨_, ?_, h⟩
  show sliceD (sh M v) (some lo) none = _
  rw [e]; rfl
theorem po_slT {xs : List I} {lo : Int} (h : Q (.tup (cut xs (some lo) none))) : Po (opM (.slice true false) M [.tup xs, .int lo]) Q := ⟨_, rfl, h⟩
theorem po_shL {v : I} {xs : List I} {hi : Int} (e : sh M v = .lst xs) (h : Q (.lst (cut xs none (some hi)))) : Po (opM (.slice false true) M [v, .int hi]) Q := by
  refine ⟨_, ?_, h⟩
  show sliceD (sh M v) none (some hi) = _
  rw [e]; rfl
theorem po_shT {xs : List I} {hi : Int} (h : Q (.tup (cut xs none (some hi)))) : Po (opM (.slice false true) M [.tup xs, .int hi]) Q := ⟨_, rfl, h⟩
theorem po_shScr {ns : List Int} {hi : Int} (h : Q (.lst (cut (ns.map .int) none (some hi)))) : Po (opM (.slice false true) M [.scr ns, .int hi]) Q := ⟨_, rfl, h⟩
theorem po_tupL {v : I} {xs : List I} (e : sh M v = .lst xs) (h : Q (.tup xs)) : Po (opM .tuple M [v]) Q := by
  refine ⟨_, ?_, h⟩
  show opD .tuple [sh M v] = _
  rw [e]; rfl
theorem po_tupT {xs : List I} (h : Q (.tup xs)) : Po (opM .tuple M [.tup xs]) Q := ⟨_, rfl, h⟩
theorem po_lstL {v : I} {xs : List I} (e : sh M v = .lst xs) (h : Q (.lst xs)) : Po (opM .list M [v]) Q := by
  refine ⟨_, ?_, h⟩
  show opD .list [sh M v] = _
  rw [e]; rfl
theorem po_lstT {xs : List I} (h : Q (.lst xs)) : Po (opM .list M [.tup xs]) Q := ⟨_, rfl, h⟩
theorem po_intB {b : Bool} (h : Q (.int (if b then 1 else 0))) : Po (opM .int M [.bl b]) Q := ⟨_, rfl, h⟩
theorem po_intI {n : Int} (h : Q (.int n)) : Po (opM .int M [.int n]) Q := ⟨_, rfl, h⟩
theorem po_strI {n : Int} (hn : -(2 ^ 190) < n ∧ n < 2 ^ 190) (h : Q (.str (Str.ofString (toString n)))) : Po (opM .str M [.int n]) Q := by
  have := logN (a := n) (by omega)
  refine ⟨_, ?_, h⟩
  show (if n.natAbs.log2 < 1920 then some (I.str (toString n)) else none) = _
  rw [if_pos (by omega)]
theorem po_all {v : I} {xs : List I} {bs : List Bool} (e : sh M v = .lst xs) (e2 : xs = bs.map I.bl) (h : Q (.bl (bs.all id))) : Po (opM .all M [v]) Q := by
  have go : ∀ bs : List Bool, boolsI (bs.map I.bl) = some bs := fun bs => by
    induction bs with
    | nil => rfl
    | cons b bs ih =>
      show (boolsI (bs.map I.bl)).map (b :: ·) = _
      rw [ih]; rfl
  refine ⟨_, ?_, h⟩
  show opD .all [sh M v] = _
  rw [e, e2]
  show (boolsI (bs.map I.bl)).map _ = _
  rw [go]; rfl
theorem po_any {v : I} {xs : List I} {bs : List Bool} (e : sh M v = .lst xs) (e2 : xs = bs.map I.bl) (h : Q (.bl (bs.any id))) : Po (opM .any M [v]) Q := by
  have go : ∀ bs : List Bool, boolsI (bs.map I.bl) = some bs := fun bs => by
    induction bs with
    | nil => rfl
    | cons b bs ih =>
      show (boolsI (bs.map I.bl)).map (b :: ·) = _
      rw [ih]; rfl
  refine ⟨_, ?_, h⟩
  show opD .any [sh M v] = _
  rw [e, e2]
  show (boolsI (bs.map I.bl)).map _ = _
  rw [go]; rfl
theorem po_abs {n : Int} (h : Q (.int (if n < 0 then -n else n))) : Po (opM .abs M [.int n]) Q := ⟨_, rfl, h⟩
theorem po_min {m n : Int} (h : Q (.int (if n < m then n else m))) : Po (opM .min M [.int m, .int n]) Q := ⟨_, rfl, h⟩
theorem po_max {m n : Int} (h : Q (.int (if m < n then n else m))) : Po (opM .max M [.int m, .int n]) Q := ⟨_, rfl, h⟩
theorem po_sum {v : I} {xs : List I} {ns : List Int} (e : sh M v = .lst xs) (e2 : xs = ns.map I.int) (h : Q (.int ns.sum)) : Po (opM .sum M [v]) Q := by
  refine ⟨_, ?_, h⟩
  show opD .sum [sh M v] = _
  rw [e, e2]
  show (intsI (ns.map I.int)).map _ = _
  rw [intsI_ints]; rfl
/-! texts among texts -/
theorem po_in {a b fa fb : I} {r : Bool} (ha : frz M dpt a = some fa) (hb : frz M dpt b = some fb) (e : innD fa fb = some r) (h : Q (.bl r)) : Po (opM .inn M [a, b]) Q := by
  refine ⟨.bl r, ?_, h⟩
  show ((([a, b] : List I).mapM (frz M dpt)).bind (opD .inn)) = _
  simp [ha, hb, opD, e]
theorem po_notin {a b fa fb : I} {r : Bool} (ha : frz M dpt a = some fa) (hb : frz M dpt b = some fb) (e : innD fa fb = some r) (h : Q (.bl !r)) : Po (opM .notin M [a, b]) Q := by
  refine ⟨.bl !r, ?_, h⟩
  show ((([a, b] : List I).mapM (frz M dpt)).bind (opD .notin)) = _
  simp [ha, hb, opD, e]
end
section
variable {Q : Bool → Prop} {M : Mem}
theorem tr_bl {b : Bool} (h : Q b) : Tr M (.bl b) Q := ⟨b, rfl, h⟩
theorem tr_int {n : Int} (h : Q (n != 0)) : Tr M (.int n) Q := ⟨_, rfl, h⟩
theorem tr_non (h : Q false) : Tr M .non Q := ⟨_, rfl, h⟩
theorem tr_tup {xs : List I} (h : Q (!xs.isEmpty)) : Tr M (.tup xs) Q := ⟨_, rfl, h⟩
theorem tr_lst {xs : List I} (h : Q (!xs.isEmpty)) : Tr M (.lst xs) Q := ⟨_, rfl, h⟩
theorem if_tt {c : Bool} {A B : Prop} (h : c = true) (a : A) : If c A B := ⟨fun _ => a, fun h2 => (by rw [h] at h2; cases h2)⟩
theorem if_ff {c : Bool} {A B : Prop} (h : c = false) (b : B) : If c A B := ⟨fun h2 => (by rw [h] at h2; cases h2), fun _ => b⟩
theorem if_dec {p : Prop} [Decidable p] {A B : Prop} (a : p → A) (b : ¬p → B) : If (decide p) A B := ⟨fun h => a (of_decide_eq_true h), fun h => b (of_decide_eq_false h)⟩
theorem if_not {c : Bool} {A B : Prop} (h : If c B A) : If (!c) A B := by
  cases c
  · exact ⟨fun _ => h.2 rfl, fun h => (nomatch h)⟩
  · exact ⟨fun h => (nomatch h), fun _ => h.1 rfl⟩
theorem if_both {c : Bool} {A B : Prop} (a : A) (b : B) : If c A B := ⟨fun _ => a, fun _ => b⟩
end
section
variable {M : Mem} {Q : Src → Prop}
theorem si_tup {xs : List I} (h : Q (.vals xs)) : Po (seqItems M (.tup xs)) Q := ⟨_, rfl, h⟩
theorem si_lst {xs : List I} (h : Q (.vals xs)) : Po (seqItems M (.lst xs)) Q := ⟨_, rfl, h⟩
theorem si_wtp {xs : List I} (h : Q (.vals xs)) : Po (seqItems M (.wtp xs)) Q := ⟨_, rfl, h⟩
theorem si_str {s : Str} (h : Q (.vals (s.cps.toList.map fun c => .str ⟨#[c]⟩))) : Po (seqItems M (.str s)) Q := ⟨_, rfl, h⟩
theorem si_scr {ns : List Int} (h : Q (.vals (ns.map .int))) : Po (seqItems M (.scr ns)) Q := ⟨_, rfl, h⟩
theorem si_obj {n : Nat} {xs : List I} (e : M[n]? = some (.lst xs)) (h : Q (.cell n)) : Po (seqItems M (.obj n)) Q := by
  refine ⟨.cell n, ?_, h⟩
  show (match M[n]? with
    | some (.lst _) => some (Src.cell n)
    | _ => none) = _
  rw [e]
theorem ri_1 {a : Int} {Q : List I → Prop} (h0 : 0 ≤ a) (h1 : a < 1000000) (h : Q ((List.range a.toNat).map fun k : Nat => I.int (k : Int))) : Po (rangeItems [.int a]) Q := by
  refine ⟨_, ?_, h⟩
  show (if -(2 ^ 62) ≤ a ∧ a < 2 ^ 62 then _ else none) = _
  rw [if_pos (by omega)]
theorem ri_2 {a b : Int} {Q : List I → Prop} (h0 : 0 ≤ a ∧ 0 ≤ b) (h1 : a < 1000000 ∧ b < 1000000) (h : Q ((List.range (b - a).toNat).map fun k : Nat => I.int (a + (k : Int)))) : Po (rangeItems [.int a, .int b]) Q := by
  refine ⟨_, ?_, h⟩
  show (if -(2 ^ 62) ≤ a ∧ a < 2 ^ 62 ∧ -(2 ^ 62) ≤ b ∧ b < 2 ^ 62 then _ else none) = _
  rw [if_pos (by omega)]
theorem li_tup {xs : List I} {Q : List I → Prop} (h : Q xs) : Po (listItems (.tup xs)) Q := ⟨_, rfl, h⟩
theorem li_lst {xs : List I} {Q : List I → Prop} (h : Q xs) : Po (listItems (.lst xs)) Q := ⟨_, rfl, h⟩
theorem me_join {s : Str} {ys : List I} {zs : List Str} {v : I} {Q : I → Prop} (e0 : sh M v = .lst ys) (e1 : strsI ys = some zs) (hl : (zs.map (·.length)).sum + zs.length * s.length ≤ 16777216) (h : Q (.str (Txt.join s zs))) : Po (mthD M .join (.str s) [v]) Q := by
  refine ⟨_, ?_, h⟩
  unfold mthD
  dsimp only
  rw [e0]
  dsimp only
  rw [e1]
  exact if_pos hl
theorem me_split {s t : Str} {Q : I → Prop} (ht : (t.length == 0) = false) (hs : s.length < 16777210) (h : Q (.lst ((Txt.split s t).map .str))) : Po (mthD M .split (.str s) [.str t]) Q := by
  refine ⟨_, ?_, h⟩
  show (if (t.length == 0) = false ∧ s.length + 2 ≤ sizeLine then some (I.lst ((Txt.split s t).map .str)) else none) = _
  rw [if_pos ⟨ht, by rw [sl24']; omega⟩]
end
section
variable {Φ : Oracle} {W : Nat} {ss : Ss} {Q B : Out → Prop} {N : Rs.Env → Mem → Prop} {τ : Rs.Env} {M : Mem} {v : I} {c : Nat}
theorem beh_nx (h : Ps (evSs Φ W ss τ M) Q) : Beh Φ W ss Q (.nx τ M) := h
theorem beh_ret (h : Q (.ret v M)) : Beh Φ W ss Q (.ret v M) := h
theorem beh_ex (h : Q (.ex c τ M)) : Beh Φ W ss Q (.ex c τ M) := h
theorem beh_brk (h : Q (.brk τ M)) : Beh Φ W ss Q (.brk τ M) := h
theorem beh_cont (h : Q (.cont τ M)) : Beh Φ W ss Q (.cont τ M) := h
theorem rnd_nx (h : N τ M) : Rnd N B Q (.nx τ M) := h
theorem rnd_cont (h : N τ M) : Rnd N B Q (.cont τ M) := h
theorem rnd_brk (h : B (.nx τ M)) : Rnd N B Q (.brk τ M) := h
theorem rnd_ret (h : Q (.ret v M)) : Rnd N B Q (.ret v M) := h
theorem rnd_ex (h : Q (.ex c τ M)) : Rnd N B Q (.ex c τ M) := h
end
theorem ps_app0 {Φ : Oracle} {W : Nat} {τ : Rs.Env} {M : Mem} {Q : Out → Prop} {ss : Ss} (h : Ps (evSs Φ W ss τ M) Q) : Ps (evSs Φ W (Ss.app .nil ss) τ M) Q := h
theorem ps_app1 {Φ : Oracle} {W : Nat} {τ : Rs.Env} {M : Mem} {Q : Out → Prop} {s : S} {a ss : Ss} (h : Ps (evSs Φ W (.cons s (a.app ss)) τ M) Q) : Ps (evSs Φ W (Ss.app (.cons s a) ss) τ M) Q := h
theorem po_nm {i : Nat} {v : I} {τ : Rs.Env} {Q : Rs.Env → Prop} (hi : i < τ.length) (h : Q (τ.set i (some v))) : Po (asgT (.nm i) v τ) Q := by
  refine ⟨_, ?_, h⟩
  show (if i < τ.length then some (τ.set i (some v)) else none) = _
  rw [if_pos hi]
theorem strOk_of {s : Str} (h : s.cps.toList.all (fun c => decide (c < 0x110000)) = true) : StrOk s := by
  unfold StrOk
  simp only [PyData.canLay0, PyData.strOk, Array.all_eq_true', decide_eq_true_eq]
  intro c hc
  exact of_decide_eq_true (List.all_eq_true.mp h c (Array.mem_toList_iff.mpr hc))
end Rs

/-! second layer, part t: texts -/
namespace Rs
open PySem PySem.Spec PyProof.Rows L2
theorem split_join {sep : Str} {c : Nat} (e : sep = SX.S [c]) (hc : c < 256) {ws : List Str} (hne : ws ≠ []) (h : ∀ w ∈ ws, c ∉ w.cps.toList) : Txt.split (Txt.join sep ws) sep = ws := by
  have e2 : ws = (ws.map fun x : Str => x.cps.toList).map SX.S := by
    rw [List.map_map]
    conv => lhs; rw [← List.map_id ws]
    apply List.map_congr_left
    intro x _
    exact (SX.S_tl x).symm
  rw [e, e2, SX.join_S, SX.split_S (by simp) (by simpa using hc), SX.spl_join (by simpa using hne)]
  intro p hp hc
  obtain ⟨x, hx, rfl⟩ := List.mem_map.mp hp
  exact h x hx hc
theorem lay_app {a b : Str} (ha : StrOk a) (hb : StrOk b) : StrOk (a ++ b) := by
  unfold StrOk at *
  simp only [PyData.canLay0, PyData.strOk, Array.all_eq_true', decide_eq_true_eq] at ha hb ⊢
  intro c hc
  have e : (a ++ b).cps = a.cps ++ b.cps := rfl
  rw [e] at hc
  exact (Array.mem_append.mp hc).elim (ha c) (hb c)
theorem joinS_one (s a : Str) : Txt.join s [a] = a := by rw [TL.join_eq]; rfl
theorem joinS_cons (s a b : Str) (l : List Str) : Txt.join s (a :: b :: l) = a ++ s ++ Txt.join s (b :: l) := by rw [TL.join_eq, TL.join_eq]; rfl
theorem lay_join {s : Str} (hs : StrOk s) : ∀ l : List Str, (∀ x ∈ l, StrOk x) → StrOk (Txt.join s l)
  | [], _ => by
    rw [TL.join_eq]
    show PyData.canLay0 (.str Str.empty) = true
    decide +kernel
  | [a], h => by
    rw [joinS_one]; exact h a List.mem_cons_self
  | a :: b :: l, h => by
    rw [joinS_cons]
    exact lay_app (lay_app (h a List.mem_cons_self) hs) (lay_join hs (b :: l) fun x hx => h x (List.mem_cons_of_mem _ hx))
theorem mem_join {c : Nat} {s : Str} : ∀ {l : List Str}, c ∈ (Txt.join s l).cps.toList → c ∈ s.cps.toList ∨ ∃ x ∈ l, c ∈ x.cps.toList
  | [], h => by rw [TL.join_eq] at h; cases h
  | [a], h => by rw [joinS_one] at h; exact .inr ⟨a, List.mem_cons_self, h⟩
  | a :: b :: l, h => by
    rw [joinS_cons] at h
    have e : ∀ x y : Str, (x ++ y).cps.toList = x.cps.toList ++ y.cps.toList := fun x y => TL.tl_append x y
    rw [e, e] at h
    rcases List.mem_append.mp h with h | h
    · rcases List.mem_append.mp h with h | h
      · exact .inr ⟨a, List.mem_cons_self, h⟩
      · exact .inl h
    · rcases mem_join h with h | ⟨x, hx, h⟩
      · exact .inl h
      · exact .inr ⟨x, List.mem_cons_of_mem _ hx, h⟩
/-! ### numbers' texts -/
theorem numL_head (n : Nat) : ∃ c r, TL.numL n = c :: r ∧ (c = 48 → n = 0) := by
  induction n using Nat.strongRecOn with
  | _ n ih =>
    by_cases h : n < 10
    · exact ⟨48 + n, [], TL.numL_lt h, fun e => by omega⟩
    · obtain ⟨c, r, e, hz⟩ := ih (n / 10) (by omega)
      refine ⟨c, r ++ [48 + n % 10], ?_, fun e2 => ?_⟩
      · rw [TL.numL_step (by omega), e]; rfl
      · have := hz e2
        omega
theorem num_int {n : Int} (h0 : 0 ≤ n) (h1 : n < 10 ^ 18) : intText? (Str.ofString (toString n)) = some n := by
  obtain ⟨k, rfl⟩ := Int.eq_ofNat_of_zero_le h0
  exact TL.int_num (Nat.le_trans (TL.numL_len (k := 18) (by decide) (by omega)) (by decide))
theorem num_codes {n : Int} (h0 : 0 ≤ n) : (Str.ofString (toString n)).cps.toList = TL.numL n.toNat := by
  obtain ⟨k, rfl⟩ := Int.eq_ofNat_of_zero_le h0
  exact TL.tl_num k
theorem po_intT {s : Str} {n : Int} {M : Mem} {Q : I → Prop} (hl : s.length ≤ 640) (e : intText? s = some n) (h : Q (.int n)) : Po (opM .int M [.str s]) Q := by
  refine ⟨_, ?_, h⟩
  show (if s.length ≤ 640 then (PySem.intText? s).map I.int else none) = _
  rw [if_pos hl, e]; rfl
theorem po_ixS {z : Str} {k : Int} {c : Nat} {M : Mem} {Q : I → Prop} (hl : z.length < 16777216) (e : atI z.cps.toList k = some c) (h : Q (.str ⟨#[c]⟩)) : Po (opM .ix M [.str z, .int k]) Q := by
  refine ⟨_, ?_, h⟩
  show (if z.length ≤ sizeLine then (atI z.cps.toList k).map fun c => I.str ⟨#[c]⟩ else none) = _
  rw [if_pos (by rw [sl24']; omega), e]; rfl
theorem at_head {α : Type} {x : α} {l : List α} : atI (x :: l) 0 = some x := by
  unfold atI ixN
  rw [if_pos (by decide), if_pos (by rw [List.length_cons]; omega)]; rfl
/-- one sign among a text's -/
theorem po_inS {c : Nat} {z : Str} {M : Mem} {Q : I → Prop} (h : Q (.bl (decide (c ∈ z.cps.toList)))) : Po (opM .inn M [.str ⟨#[c]⟩, .str z]) Q := ⟨_, rfl, h⟩
/-- a text among texts -/
theorem inV_strs (s : Str) (l : List Str) : inV (.str s) (l.map V.str) = decide (s ∈ l) := by
  unfold inV
  induction l with
  | nil => rfl
  | cons a l ih =>
    simp only [List.map_cons, List.any_cons, ih]
    by_cases h : s = a
    · subst h
      simp [eqV]
    · have h' : ¬ a = s := fun z => h z.symm
      simp [eqV, h, h']
theorem strs_scal (l : List Str) : (l.map I.str).all I.scal = true := by
  induction l with
  | nil => rfl
  | cons a l ih => rw [List.map_cons, List.all_cons, ih]; rfl
theorem ints_scal (l : List Int) : (l.map I.int).all I.scal = true := by
  induction l with
  | nil => rfl
  | cons a l ih => rw [List.map_cons, List.all_cons, ih]; rfl
theorem inT_strs (s : Str) (l : List Str) : inT (.str s) (l.map I.str) = some (decide (s ∈ l)) := by
  unfold inT
  rw [strs_scal]
  show some (inV (.str s) ((l.map I.str).map I.v)) = _
  rw [List.map_map]
  exact congrArg some (inV_strs s l)
theorem inT_ints (s : Int) (l : List Int) : inT (.int s) (l.map I.int) = some (decide (s ∈ l)) := by
  unfold inT
  rw [ints_scal]
  show some (inV (.int s) ((l.map I.int).map I.v)) = _
  rw [List.map_map]
  congr 1
  unfold inV
  induction l with
  | nil => rfl
  | cons a l ih =>
    simp only [List.map_cons, List.any_cons, ih]
    by_cases h : s = a
    · subst h
      simp [eqV, I.v]
    · have h' : ¬ a = s := fun z => h z.symm
      simp [eqV, I.v, h, h']
theorem frz_strs {M : Mem} {n : Nat} {l : List Str} : frz M n (.tup (l.map .str)) = some (.tup (l.map .str)) ∧ frz M n (.wtp (l.map .str)) = some (.wtp (l.map .str)) := ⟨frz_flat _ (flats_strs l), frz_flat _ (flats_strs l)⟩
section
variable {M : Mem} {Q : I → Prop}
theorem po_inTS {s : Str} {l : List Str} {v : I} (e : v = .tup (l.map .str) ∨ v = .wtp (l.map .str)) (h : Q (.bl (decide (s ∈ l)))) : Po (opM .inn M [.str s, v]) Q := by
  rcases e with rfl | rfl
  · exact po_in (frz_flat _ rfl) frz_strs.1 (inT_strs s l) h
  · exact po_in (frz_flat _ rfl) frz_strs.2 (inT_strs s l) h
theorem po_ninTS {s : Str} {l : List Str} {v : I} (e : v = .tup (l.map .str) ∨ v = .wtp (l.map .str)) (h : Q (.bl (!decide (s ∈ l)))) : Po (opM .notin M [.str s, v]) Q := by
  rcases e with rfl | rfl
  · exact po_notin (frz_flat _ rfl) frz_strs.1 (inT_strs s l) h
  · exact po_notin (frz_flat _ rfl) frz_strs.2 (inT_strs s l) h
theorem po_ninTI {s : Int} {l : List Int} {v : I} (e : v = .tup (l.map .int) ∨ v = .wtp (l.map .int)) (h : Q (.bl (!decide (s ∈ l)))) : Po (opM .notin M [.int s, v]) Q := by
  rcases e with rfl | rfl
  · exact po_notin (frz_flat _ rfl) (frz_flat _ (flats_ints l)) (inT_ints s l) h
  · exact po_notin (frz_flat _ rfl) (frz_flat _ (flats_ints l)) (inT_ints s l) h
end
/-! ### a frame that gets frozen cells -/
section
variable {P : Nat → Option Fn} {W k f : Nat} {fn : Fn} {args us : List I} {M : Mem} {Q : I → Mem → Prop} {E : Nat → Mem → Prop}
def FrZ (M : Mem) (Q : I → Mem → Prop) (E : Nat → Mem → Prop) : Out → Prop
  | .nx _ _ => Q .non M
  | .ret v M1 => ∃ u, frz M1 dpt v = some u ∧ u.solid = true ∧ Q u M
  | .ex c _ _ => E c M
  | _ => False
theorem pe_callZ (h : P f = some fn) (hl : args.length = fn.np) (hf : fn.full = false) (hm : fn.mt = []) (ha : inArgs [] M 0 args = some us)
    (hb : Ps (evSs (evCall P W k) W fn.body (us.map some ++ List.replicate (fn.ns - fn.np) none) []) (FrZ M Q E)) : Pe (evCall P W (k + 1) f args M) Q E := by
  unfold evCall
  rw [h]
  dsimp only
  rw [if_pos hl, hf, hm]
  have ha : inArgs [] (mask [] M) 0 args = some us := ha
  simp only [List.mapM_nil, pure, ha]
  rw [if_neg (by simp), if_pos ⟨List.nodup_nil, rfl⟩]
  generalize (!(I.flats ((List.range args.length).filterMap fun i => if ([] : List Nat).contains i then none else args[i]?))) = lent
  have no : ∀ (r : Option I) (M1 : Mem), outRes [] lent r M1 M = match r with
      | none => some (none, M)
      | some v => match outVal [] M1 v with
        | some u => if lent = true ∧ u.solid = false ∧ (objI u).isNone then none else some (some u, M)
        | none => none := fun r M1 => by
    unfold outRes
    simp [pure, putCells] <;> rfl
  have vo : ∀ (v u : I) (M1 : Mem), frz M1 dpt v = some u → outVal [] M1 v = some u := fun v u M1 e => by
    unfold outVal
    cases e2 : objI v <;> exact e
  obtain ⟨o, e, hb⟩ := hb
  rw [e]
  cases o with
  | nx τ M1 =>
    have : outRes [] lent (some .non) M1 M = some (some .non, M) := by
      rw [no]
      simp [vo .non .non M1 rfl, I.solid]
    simp only [this]
    exact pe_ok hb
  | ret v M1 =>
    obtain ⟨u, e, hs, h⟩ := hb
    have : outRes [] lent (some v) M1 M = some (some u, M) := by
      rw [no]
      simp [vo v u M1 e, hs]
    simp only [this]
    exact pe_ok h
  | ex c τ M1 =>
    simp only [no]
    exact pe_exx hb
  | brk τ M1 => exact hb.elim
  | cont τ M1 => exact hb.elim
end
end Rs

namespace K75
open PySem PySem.Spec PyProof.Rows L2 Rs
def top (i : Nat) : Stmt := PySem.Challenge.pw_errandwide_k75_halls_as_texts.main.body.getD i (.Pass ⟨0, 0, 0, 0⟩)
-- is_word: cells []
def D0 : DefT := { x := "is_word", ps := ["value"], N := ["value", "sign"], st := top 6, body :=
  (.cons (.cond (.or (.not (.op (.isT .str) (.cons (.var 0) .nil))) (.not (.chain .le .le (.const (.int 1)) (.op .len (.cons (.var 0) .nil)) (.const (.int 8))))) (.cons (.ret (.const (.bl false))) .nil) .nil) (.cons (.ret (.op .all (.cons (.comp [1] (.op .inn (.cons (.var 1) (.cons (.glob "LETTERS" (.str "abcdefghijklmnopqrstuvwxyz")) .nil))) (.nm 1) (.seq (.var 0)) .nil) .nil))) .nil)) }
-- path_text: cells []
def D1 : DefT := { x := "path_text", ps := ["path"], N := ["path", "part"], st := top 13, body :=
  (.cons (.cond (.op .eq (.cons (.var 0) (.cons (.disp true .nil) .nil))) (.cons (.ret (.const (.str "-"))) .nil) .nil) (.cons (.ret (.meth .join (.const (.str ".")) (.cons (.comp [1] (.op .str (.cons (.var 1) .nil)) (.nm 1) (.seq (.var 0)) .nil) .nil))) .nil)) }
-- end_text: cells []
def D2 : DefT := { x := "end_text", ps := ["end"], N := ["end"], st := top 14, body :=
  (.cons (.cond (.op .eq (.cons (.var 0) (.cons (.disp true .nil) .nil))) (.cons (.ret (.const (.str "-"))) .nil) .nil) (.cons (.ret (.op .add (.cons (.op .add (.cons (.op .add (.cons (.op .add (.cons (.op .ix (.cons (.var 0) (.cons (.const (.int 0)) .nil))) (.cons (.const (.str ":")) .nil))) (.cons (.op .str (.cons (.op .ix (.cons (.var 0) (.cons (.const (.int 1)) .nil))) .nil)) .nil))) (.cons (.const (.str ":")) .nil))) (.cons (.op .str (.cons (.op .ix (.cons (.var 0) (.cons (.const (.int 2)) .nil))) .nil)) .nil)))) .nil)) }
-- state_line: cells []
def D3 : DefT := { x := "state_line", ps := ["state"], N := ["state", "numbers", "room", "slots", "wants", "rounds", "called", "number"], st := top 15, body :=
  (.cons (.asg (.tup (.cons (.nm 2) (.cons (.nm 3) (.cons (.nm 4) (.cons (.nm 5) (.cons (.nm 6) .nil)))))) (.var 0)) (.cons (.asg (.nm 1) (.op .add (.cons (.disp false (.cons (.var 2) (.cons (.var 4) (.cons (.var 5) (.cons (.op .int (.cons (.var 6) .nil)) .nil))))) (.cons (.op .list (.cons (.var 3) .nil)) .nil)))) (.cons (.ret (.meth .join (.const (.str " ")) (.cons (.op .add (.cons (.disp false (.cons (.const (.str "state")) .nil)) (.cons (.comp [7] (.op .str (.cons (.var 7) .nil)) (.nm 7) (.seq (.var 1)) .nil) .nil))) .nil))) .nil))) }
def B4_0 : Ss := (.cons (.ex (.app (.var 1) (.meth .join (.const (.str " ")) (.cons (.disp false (.cons (.const (.str "note")) (.cons (.op .str (.cons (.var 8) .nil)) (.cons (.var 9) (.cons (.op .str (.cons (.var 10) .nil)) .nil))))) .nil)))) .nil)
-- house_lines: cells ['lines']
def D4 : DefT := { x := "house_lines", ps := ["house"], N := ["house", "lines", "path", "name", "begun", "end", "diary", "state", "hour", "word", "number"], st := top 16, body :=
  (.cons (.asg (.tup (.cons (.nm 2) (.cons (.nm 3) (.cons (.nm 4) (.cons (.nm 5) (.cons (.nm 6) (.cons (.nm 7) .nil))))))) (.var 0)) (.cons (.asg (.nm 1) (.cell (.disp false (.cons (.meth .join (.const (.str " ")) (.cons (.disp false (.cons (.const (.str "house")) (.cons (.call 1 (.cons (.var 2) .nil)) (.cons (.var 3) (.cons (.op .str (.cons (.var 4) .nil)) (.cons (.call 2 (.cons (.var 5) .nil)) .nil)))))) .nil)) .nil)))) (.cons (.cond (.op .ne (.cons (.var 7) (.cons (.disp true .nil) .nil))) (.cons (.ex (.app (.var 1) (.call 3 (.cons (.var 7) .nil)))) .nil) .nil) (.cons (.each (.tup (.cons (.nm 8) (.cons (.nm 9) (.cons (.nm 10) .nil)))) (.seq (.var 6)) B4_0) (.cons (.ret (.var 1)) .nil))))) }
def B5_0 : Ss := (.cons (.ex (.app (.var 1) (.meth .join (.const (.str " ")) (.cons (.disp false (.cons (.const (.str "ask")) (.cons (.call 1 (.cons (.var 6) .nil)) (.cons (.var 7) (.cons (.op .str (.cons (.var 8) .nil)) (.cons (.op .str (.cons (.var 9) .nil)) (.cons (.call 2 (.cons (.var 10) .nil)) .nil))))))) .nil)))) .nil)
def B5_1 : Ss := (.cons (.ex (.ext (.var 1) (.call 4 (.cons (.var 2) .nil)))) .nil)
-- hall_text: cells ['lines']
def D5 : DefT := { x := "hall_text", ps := ["hall"], N := ["hall", "lines", "house", "hour", "houses", "asks", "path", "who", "number", "sent", "end"], st := top 17, body :=
  (.cons (.asg (.tup (.cons (.nm 3) (.cons (.nm 4) (.cons (.nm 5) .nil)))) (.var 0)) (.cons (.asg (.nm 1) (.cell (.disp false (.cons (.op .add (.cons (.const (.str "hour ")) (.cons (.op .str (.cons (.var 3) .nil)) .nil))) .nil)))) (.cons (.each (.nm 2) (.seq (.var 4)) B5_1) (.cons (.each (.tup (.cons (.nm 6) (.cons (.nm 7) (.cons (.nm 8) (.cons (.nm 9) (.cons (.nm 10) .nil)))))) (.seq (.var 5)) B5_0) (.cons (.ret (.meth .join (.const (.str "\n")) (.cons (.var 1) .nil))) .nil))))) }
-- writes_number: cells []
def D6 : DefT := { x := "writes_number", ps := ["word", "most"], N := ["word", "most", "sign"], st := top 18, body :=
  (.cons (.cond (.or (.not (.chain .le .le (.const (.int 1)) (.op .len (.cons (.var 0) .nil)) (.const (.int 10)))) (.and (.op .eq (.cons (.op .ix (.cons (.var 0) (.cons (.const (.int 0)) .nil))) (.cons (.const (.str "0")) .nil))) (.op .ne (.cons (.var 0) (.cons (.const (.str "0")) .nil))))) (.cons (.ret (.const (.bl false))) .nil) .nil) (.cons (.ret (.and (.op .all (.cons (.comp [2] (.op .inn (.cons (.var 2) (.cons (.glob "FIGURES" (.str "0123456789")) .nil))) (.nm 2) (.seq (.var 0)) .nil) .nil)) (.op .le (.cons (.op .int (.cons (.var 0) .nil)) (.cons (.var 1) .nil))))) .nil)) }
-- writes_path: cells []
def D7 : DefT := { x := "writes_path", ps := ["word"], N := ["word", "part"], st := top 19, body :=
  (.cons (.ret (.or (.op .eq (.cons (.var 0) (.cons (.const (.str "-")) .nil))) (.op .all (.cons (.comp [1] (.call 6 (.cons (.var 1) (.cons (.const (.int 9)) .nil))) (.nm 1) (.seq (.meth .split (.var 0) (.cons (.const (.str ".")) .nil))) .nil) .nil)))) .nil) }
-- path_of: cells []
def D8 : DefT := { x := "path_of", ps := ["word"], N := ["word", "part"], st := top 20, body :=
  (.cons (.cond (.op .eq (.cons (.var 0) (.cons (.const (.str "-")) .nil))) (.cons (.ret (.disp true .nil)) .nil) .nil) (.cons (.ret (.op .tuple (.cons (.comp [1] (.op .int (.cons (.var 1) .nil)) (.nm 1) (.seq (.meth .split (.var 0) (.cons (.const (.str ".")) .nil))) .nil) .nil))) .nil)) }
-- number_in: cells []
def D9 : DefT := { x := "number_in", ps := ["word"], N := ["word"], st := top 21, body :=
  (.cons (.cond (.not (.call 6 (.cons (.var 0) (.cons (.glob "GREATEST" (.int 1000000006)) .nil)))) (.cons .stuck .nil) .nil) (.cons (.ret (.op .int (.cons (.var 0) .nil))) .nil)) }
-- path_in: cells []
def D10 : DefT := { x := "path_in", ps := ["word", "counts"], N := ["word", "counts"], st := top 22, body :=
  (.cons (.cond (.or (.not (.call 7 (.cons (.var 0) .nil))) (.op .notin (.cons (.op .len (.cons (.call 8 (.cons (.var 0) .nil)) .nil)) (.cons (.var 1) .nil)))) (.cons .stuck .nil) .nil) (.cons (.ret (.call 8 (.cons (.var 0) .nil))) .nil)) }
-- name_in: cells []
def D11 : DefT := { x := "name_in", ps := ["word"], N := ["word"], st := top 23, body :=
  (.cons (.cond (.not (.call 0 (.cons (.var 0) .nil))) (.cons .stuck .nil) .nil) (.cons (.ret (.var 0)) .nil)) }
-- end_in: cells []
def D12 : DefT := { x := "end_in", ps := ["word"], N := ["word", "parts"], st := top 24, body :=
  (.cons (.cond (.op .eq (.cons (.var 0) (.cons (.const (.str "-")) .nil))) (.cons (.ret (.disp true .nil)) .nil) .nil) (.cons (.asg (.nm 1) (.meth .split (.var 0) (.cons (.const (.str ":")) .nil))) (.cons (.cond (.or (.op .ne (.cons (.op .len (.cons (.var 1) .nil)) (.cons (.const (.int 3)) .nil))) (.op .notin (.cons (.op .ix (.cons (.var 1) (.cons (.const (.int 0)) .nil))) (.cons (.glob "END_WORDS" (.wtp [(.str "good"), (.str "bad"), (.str "off")])) .nil)))) (.cons .stuck .nil) .nil) (.cons (.ret (.disp true (.cons (.op .ix (.cons (.var 1) (.cons (.const (.int 0)) .nil))) (.cons (.call 9 (.cons (.op .ix (.cons (.var 1) (.cons (.const (.int 1)) .nil))) .nil)) (.cons (.call 9 (.cons (.op .ix (.cons (.var 1) (.cons (.const (.int 2)) .nil))) .nil)) .nil))))) .nil)))) }
-- need_line: cells []
def D13 : DefT := { x := "need_line", ps := ["words", "first", "many"], N := ["words", "first", "many"], st := top 25, body :=
  (.cons (.cond (.or (.op .ne (.cons (.op .ix (.cons (.var 0) (.cons (.const (.int 0)) .nil))) (.cons (.var 1) .nil))) (.op .ne (.cons (.op .len (.cons (.var 0) .nil)) (.cons (.var 2) .nil)))) (.cons .stuck .nil) .nil) .nil) }
-- state_in: cells []
def D14 : DefT := { x := "state_in", ps := ["words"], N := ["words", "slots", "word"], st := top 26, body :=
  (.cons (.cond (.or (.op .ne (.cons (.op .ix (.cons (.var 0) (.cons (.const (.int 0)) .nil))) (.cons (.const (.str "state")) .nil))) (.or (.op .lt (.cons (.op .len (.cons (.var 0) .nil)) (.cons (.const (.int 5)) .nil))) (.op .notin (.cons (.op .ix (.cons (.var 0) (.cons (.const (.int 4)) .nil))) (.cons (.disp true (.cons (.const (.str "0")) (.cons (.const (.str "1")) .nil))) .nil))))) (.cons .stuck .nil) .nil) (.cons (.asg (.nm 1) (.op .tuple (.cons (.comp [2] (.call 9 (.cons (.var 2) .nil)) (.nm 2) (.seq (.op (.slice true false) (.cons (.var 0) (.cons (.const (.int 5)) .nil)))) .nil) .nil))) (.cons (.ret (.disp true (.cons (.call 9 (.cons (.op .ix (.cons (.var 0) (.cons (.const (.int 1)) .nil))) .nil)) (.cons (.var 1) (.cons (.call 9 (.cons (.op .ix (.cons (.var 0) (.cons (.const (.int 2)) .nil))) .nil)) (.cons (.call 9 (.cons (.op .ix (.cons (.var 0) (.cons (.const (.int 3)) .nil))) .nil)) (.cons (.op .eq (.cons (.op .ix (.cons (.var 0) (.cons (.const (.int 4)) .nil))) (.cons (.const (.str "1")) .nil))) .nil))))))) .nil))) }
-- note_in: cells []
def D15 : DefT := { x := "note_in", ps := ["words"], N := ["words"], st := top 27, body :=
  (.cons (.ex (.call 13 (.cons (.var 0) (.cons (.const (.str "note")) (.cons (.const (.int 4)) .nil))))) (.cons (.cond (.op .notin (.cons (.op .ix (.cons (.var 0) (.cons (.const (.int 2)) .nil))) (.cons (.glob "NOTE_WORDS" (.wtp [(.str "tell"), (.str "do"), (.str "done"), (.str "undo"), (.str "undone")])) .nil))) (.cons .stuck .nil) .nil) (.cons (.ret (.disp true (.cons (.call 9 (.cons (.op .ix (.cons (.var 0) (.cons (.const (.int 1)) .nil))) .nil)) (.cons (.op .ix (.cons (.var 0) (.cons (.const (.int 2)) .nil))) (.cons (.call 9 (.cons (.op .ix (.cons (.var 0) (.cons (.const (.int 3)) .nil))) .nil)) .nil))))) .nil))) }
def B16_0 : Ss := (.cons (.ex (.app (.var 5) (.call 15 (.cons (.op .ix (.cons (.var 0) (.cons (.var 1) .nil))) .nil)))) (.cons (.asg (.nm 1) (.op .add (.cons (.var 1) (.cons (.const (.int 1)) .nil)))) .nil))
-- house_in: cells ['diary']
def D16 : DefT := { x := "house_in", ps := ["lines", "at"], N := ["lines", "at", "words", "head", "state", "diary"], st := top 28, body :=
  (.cons (.asg (.nm 2) (.op .ix (.cons (.var 0) (.cons (.var 1) .nil)))) (.cons (.ex (.call 13 (.cons (.var 2) (.cons (.const (.str "house")) (.cons (.const (.int 5)) .nil))))) (.cons (.asg (.nm 3) (.disp true (.cons (.call 10 (.cons (.op .ix (.cons (.var 2) (.cons (.const (.int 1)) .nil))) (.cons (.glob "HOUSE_PATHS" (.wtp [(.int 0), (.int 2), (.int 4)])) .nil))) (.cons (.call 11 (.cons (.op .ix (.cons (.var 2) (.cons (.const (.int 2)) .nil))) .nil)) (.cons (.call 9 (.cons (.op .ix (.cons (.var 2) (.cons (.const (.int 3)) .nil))) .nil)) (.cons (.call 12 (.cons (.op .ix (.cons (.var 2) (.cons (.const (.int 4)) .nil))) .nil)) .nil)))))) (.cons (.asg (.nm 1) (.op .add (.cons (.var 1) (.cons (.const (.int 1)) .nil)))) (.cons (.asg (.nm 4) (.disp true .nil)) (.cons (.cond (.op .eq (.cons (.op .ix (.cons (.var 3) (.cons (.const (.int 3)) .nil))) (.cons (.disp true .nil) .nil))) (.cons (.cond (.op .eq (.cons (.var 1) (.cons (.op .len (.cons (.var 0) .nil)) .nil))) (.cons .stuck .nil) .nil) (.cons (.asg (.nm 4) (.call 14 (.cons (.op .ix (.cons (.var 0) (.cons (.var 1) .nil))) .nil))) (.cons (.asg (.nm 1) (.op .add (.cons (.var 1) (.cons (.const (.int 1)) .nil)))) .nil))) .nil) (.cons (.asg (.nm 5) (.cell (.disp false .nil))) (.cons (.loop (.and (.op .lt (.cons (.var 1) (.cons (.op .len (.cons (.var 0) .nil)) .nil))) (.op .eq (.cons (.op .ix (.cons (.op .ix (.cons (.var 0) (.cons (.var 1) .nil))) (.cons (.const (.int 0)) .nil))) (.cons (.const (.str "note")) .nil)))) B16_0) (.cons (.ret (.disp true (.cons (.op .add (.cons (.var 3) (.cons (.disp true (.cons (.op .tuple (.cons (.var 5) .nil)) (.cons (.var 4) .nil))) .nil))) (.cons (.var 1) .nil)))) .nil))))))))) }
-- ask_in: cells []
def D17 : DefT := { x := "ask_in", ps := ["words"], N := ["words", "head"], st := top 29, body :=
  (.cons (.ex (.call 13 (.cons (.var 0) (.cons (.const (.str "ask")) (.cons (.const (.int 6)) .nil))))) (.cons (.asg (.nm 1) (.disp true (.cons (.call 10 (.cons (.op .ix (.cons (.var 0) (.cons (.const (.int 1)) .nil))) (.cons (.glob "ASK_PATHS" (.wtp [(.int 2), (.int 4), (.int 6)])) .nil))) (.cons (.call 11 (.cons (.op .ix (.cons (.var 0) (.cons (.const (.int 2)) .nil))) .nil)) (.cons (.call 9 (.cons (.op .ix (.cons (.var 0) (.cons (.const (.int 3)) .nil))) .nil)) (.cons (.call 9 (.cons (.op .ix (.cons (.var 0) (.cons (.const (.int 4)) .nil))) .nil)) .nil)))))) (.cons (.ret (.op .add (.cons (.var 1) (.cons (.disp true (.cons (.call 12 (.cons (.op .ix (.cons (.var 0) (.cons (.const (.int 5)) .nil))) .nil)) .nil)) .nil)))) .nil))) }
def B18_0 : Ss := (.cons (.cond (.not (.op .lt (.cons (.op .ix (.cons (.op .ix (.cons (.var 0) (.cons (.op .sub (.cons (.var 1) (.cons (.const (.int 1)) .nil))) .nil))) (.cons (.const (.int 0)) .nil))) (.cons (.op .ix (.cons (.op .ix (.cons (.var 0) (.cons (.var 1) .nil))) (.cons (.const (.int 0)) .nil))) .nil)))) (.cons .stuck .nil) .nil) .nil)
-- need_rising: cells []
def D18 : DefT := { x := "need_rising", ps := ["rows"], N := ["rows", "k"], st := top 30, body :=
  (.cons (.each (.nm 1) (.range (.cons (.const (.int 1)) (.cons (.op .len (.cons (.var 0) .nil)) .nil))) B18_0) .nil) }
def B19_0 : Ss := (.cons (.asg (.tup (.cons (.nm 7) (.cons (.nm 4) .nil))) (.call 16 (.cons (.var 1) (.cons (.var 4) .nil)))) (.cons (.ex (.app (.var 3) (.var 7))) .nil))
-- read_hall: cells ['houses']
def D19 : DefT := { x := "read_hall", ps := ["text"], N := ["text", "lines", "hour", "houses", "at", "asks", "line", "house", "words"], st := top 31, body :=
  (.cons (.cond (.not (.op (.isT .str) (.cons (.var 0) .nil))) (.cons .stuck .nil) .nil) (.cons (.asg (.nm 1) (.comp [6] (.meth .split (.var 6) (.cons (.const (.str " ")) .nil)) (.nm 6) (.seq (.meth .split (.var 0) (.cons (.const (.str "\n")) .nil))) .nil)) (.cons (.ex (.call 13 (.cons (.op .ix (.cons (.var 1) (.cons (.const (.int 0)) .nil))) (.cons (.const (.str "hour")) (.cons (.const (.int 2)) .nil))))) (.cons (.asg (.nm 2) (.call 9 (.cons (.op .ix (.cons (.op .ix (.cons (.var 1) (.cons (.const (.int 0)) .nil))) (.cons (.const (.int 1)) .nil))) .nil))) (.cons (.asg (.nm 3) (.cell (.disp false .nil))) (.cons (.asg (.nm 4) (.const (.int 1))) (.cons (.loop (.and (.op .lt (.cons (.var 4) (.cons (.op .len (.cons (.var 1) .nil)) .nil))) (.op .eq (.cons (.op .ix (.cons (.op .ix (.cons (.var 1) (.cons (.var 4) .nil))) (.cons (.const (.int 0)) .nil))) (.cons (.const (.str "house")) .nil)))) B19_0) (.cons (.asg (.nm 5) (.comp [8] (.call 17 (.cons (.var 8) .nil)) (.nm 8) (.seq (.op (.slice true false) (.cons (.var 1) (.cons (.var 4) .nil)))) .nil)) (.cons (.ex (.call 18 (.cons (.var 3) .nil))) (.cons (.ex (.call 18 (.cons (.var 5) .nil))) (.cons (.ret (.disp true (.cons (.var 2) (.cons (.op .tuple (.cons (.var 3) .nil)) (.cons (.op .tuple (.cons (.var 5) .nil)) .nil))))) .nil))))))))))) }
def B20_0 : Ss := (.cons (.asg (.nm 5) (.op .mod (.cons (.op .add (.cons (.op .add (.cons (.op .add (.cons (.op .mul (.cons (.op .mod (.cons (.var 0) (.cons (.const (.int 1000000007)) .nil))) (.cons (.const (.int 48271)) .nil))) (.cons (.op .mul (.cons (.op .mul (.cons (.const (.int 977)) (.cons (.var 4) .nil))) (.cons (.var 4) .nil))) .nil))) (.cons (.op .mul (.cons (.const (.int 131)) (.cons (.var 4) .nil))) .nil))) (.cons (.const (.int 1)) .nil))) (.cons (.const (.int 2147483647)) .nil)))) (.cons (.asg (.nm 5) (.op .mod (.cons (.op .mul (.cons (.var 5) (.cons (.var 5) .nil))) (.cons (.const (.int 2147483647)) .nil)))) (.cons (.ex (.app (.var 2) (.op .mod (.cons (.op .fdiv (.cons (.op .mod (.cons (.op .mul (.cons (.op .add (.cons (.var 5) (.cons (.op .mul (.cons (.const (.int 40692)) (.cons (.op .add (.cons (.var 4) (.cons (.const (.int 3)) .nil))) .nil))) .nil))) (.cons (.const (.int 69621)) .nil))) (.cons (.const (.int 2147483629)) .nil))) (.cons (.const (.int 8)) .nil))) (.cons (.op .pow (.cons (.const (.int 10)) (.cons (.const (.int 6)) .nil))) .nil))))) .nil)))
def B20_1 : Ss := (.cons (.ex (.app (.var 2) (.op .mod (.cons (.var 3) (.cons (.op .pow (.cons (.const (.int 10)) (.cons (.const (.int 6)) .nil))) .nil))))) (.cons (.asg (.nm 3) (.op .fdiv (.cons (.var 3) (.cons (.op .pow (.cons (.const (.int 10)) (.cons (.const (.int 6)) .nil))) .nil)))) .nil))
-- _law_draws: cells ['found']
def D20 : DefT := { x := "_law_draws", ps := ["cell", "many"], N := ["cell", "many", "found", "left", "k", "one"], st := top 33, body :=
  (.cons (.asg (.nm 2) (.cell (.disp false .nil))) (.cons (.asg (.nm 3) (.op .abs (.cons (.var 0) .nil))) (.cons (.cond (.op .ge (.cons (.var 3) (.cons (.op .pow (.cons (.const (.int 10)) (.cons (.const (.int 18)) .nil))) .nil))) (.cons (.loop (.and (.op .gt (.cons (.var 3) (.cons (.const (.int 0)) .nil))) (.op .lt (.cons (.op .len (.cons (.var 2) .nil)) (.cons (.var 1) .nil)))) B20_1) .nil) .nil) (.cons (.each (.nm 4) (.range (.cons (.op .len (.cons (.var 2) .nil)) (.cons (.var 1) .nil))) B20_0) (.cons (.ret (.var 2)) .nil))))) }
-- _law_draw: cells []
def D21 : DefT := { x := "_law_draw", ps := ["draws", "at", "many"], N := ["draws", "at", "many"], st := top 34, body :=
  (.cons (.ret (.op .mod (.cons (.op .fdiv (.cons (.op .ix (.cons (.var 0) (.cons (.op .mod (.cons (.var 1) (.cons (.op .len (.cons (.var 0) .nil)) .nil))) .nil))) (.cons (.const (.int 7)) .nil))) (.cons (.var 2) .nil)))) .nil) }
-- _law_number: cells []
def D22 : DefT := { x := "_law_number", ps := ["draws", "at"], N := ["draws", "at", "many", "far", "way"], st := top 35, body :=
  (.cons (.asg (.nm 2) (.op .len (.cons (.var 0) .nil))) (.cons (.asg (.nm 3) (.op .mul (.cons (.op .ix (.cons (.var 0) (.cons (.op .mod (.cons (.var 1) (.cons (.var 2) .nil))) .nil))) (.cons (.op .pow (.cons (.const (.int 10)) (.cons (.const (.int 6)) .nil))) .nil)))) (.cons (.asg (.nm 3) (.op .add (.cons (.var 3) (.cons (.op .ix (.cons (.var 0) (.cons (.op .mod (.cons (.op .add (.cons (.var 1) (.cons (.const (.int 1)) .nil))) (.cons (.var 2) .nil))) .nil))) .nil)))) (.cons (.asg (.nm 4) (.op .mod (.cons (.op .fdiv (.cons (.op .ix (.cons (.var 0) (.cons (.op .mod (.cons (.op .add (.cons (.var 1) (.cons (.const (.int 2)) .nil))) (.cons (.var 2) .nil))) .nil))) (.cons (.const (.int 7)) .nil))) (.cons (.const (.int 3)) .nil)))) (.cons (.ret (.op .ix (.cons (.disp false (.cons (.op .mod (.cons (.var 3) (.cons (.const (.int 5)) .nil))) (.cons (.op .sub (.cons (.const (.int 1000000006)) (.cons (.op .mod (.cons (.var 3) (.cons (.const (.int 3)) .nil))) .nil))) (.cons (.op .mod (.cons (.var 3) (.cons (.const (.int 1000000007)) .nil))) .nil)))) (.cons (.var 4) .nil)))) .nil))))) }
-- _law_path: cells []
def D23 : DefT := { x := "_law_path", ps := ["draws", "at", "counts"], N := ["draws", "at", "counts", "k"], st := top 36, body :=
  (.cons (.ret (.op .tuple (.cons (.comp [3] (.call 21 (.cons (.var 0) (.cons (.op .add (.cons (.op .add (.cons (.var 1) (.cons (.const (.int 1)) .nil))) (.cons (.var 3) .nil))) (.cons (.const (.int 10)) .nil)))) (.nm 3) (.range (.cons (.op .ix (.cons (.var 2) (.cons (.call 21 (.cons (.var 0) (.cons (.var 1) (.cons (.op .len (.cons (.var 2) .nil)) .nil)))) .nil))) .nil)) .nil) .nil))) .nil) }
def B24_0 : Ss := (.cons (.seti (.var 4) (.call 23 (.cons (.var 0) (.cons (.op .add (.cons (.var 1) (.cons (.op .mul (.cons (.const (.int 7)) (.cons (.var 5) .nil))) .nil))) (.cons (.var 2) .nil)))) (.const (.bl true))) .nil)
-- _law_paths: cells ['paths']
def D24 : DefT := { x := "_law_paths", ps := ["draws", "at", "counts", "many"], N := ["draws", "at", "counts", "many", "paths", "k"], st := top 37, body :=
  (.cons (.asg (.nm 4) (.cell (.dict true))) (.cons (.each (.nm 5) (.range (.cons (.var 3) .nil)) B24_0) (.cons (.ret (.op .sorted (.cons (.op .list (.cons (.var 4) .nil)) .nil))) .nil))) }
-- _law_end: cells []
def D25 : DefT := { x := "_law_end", ps := ["draws", "at", "ended"], N := ["draws", "at", "ended", "word"], st := top 38, body :=
  (.cons (.cond (.not (.var 2)) (.cons (.ret (.disp true .nil)) .nil) .nil) (.cons (.asg (.nm 3) (.op .ix (.cons (.disp false (.cons (.const (.str "good")) (.cons (.const (.str "bad")) (.cons (.const (.str "off")) .nil)))) (.cons (.call 21 (.cons (.var 0) (.cons (.var 1) (.cons (.const (.int 3)) .nil)))) .nil)))) (.cons (.ret (.disp true (.cons (.var 3) (.cons (.op .ix (.cons (.disp false (.cons (.call 22 (.cons (.var 0) (.cons (.op .add (.cons (.var 1) (.cons (.const (.int 1)) .nil))) .nil))) (.cons (.const (.int 0)) .nil))) (.cons (.op .int (.cons (.op .eq (.cons (.var 3) (.cons (.const (.str "off")) .nil))) .nil)) .nil))) (.cons (.call 22 (.cons (.var 0) (.cons (.op .add (.cons (.var 1) (.cons (.const (.int 4)) .nil))) .nil))) .nil))))) .nil))) }
-- _law_state: cells []
def D26 : DefT := { x := "_law_state", ps := ["draws", "at", "wide"], N := ["draws", "at", "wide", "many", "slots", "called", "counts", "k"], st := top 39, body :=
  (.cons (.asg (.nm 3) (.op .ix (.cons (.disp false (.cons (.const (.int 0)) (.cons (.const (.int 1)) (.cons (.const (.int 3)) (.cons (.op .add (.cons (.const (.int 32)) (.cons (.op .mul (.cons (.const (.int 8)) (.cons (.op .int (.cons (.var 2) .nil)) .nil))) .nil))) .nil))))) (.cons (.call 21 (.cons (.var 0) (.cons (.var 1) (.cons (.const (.int 4)) .nil)))) .nil)))) (.cons (.asg (.nm 4) (.op .tuple (.cons (.comp [7] (.call 22 (.cons (.var 0) (.cons (.op .add (.cons (.op .add (.cons (.var 1) (.cons (.const (.int 5)) .nil))) (.cons (.var 7) .nil))) .nil))) (.nm 7) (.range (.cons (.var 3) .nil)) .nil) .nil))) (.cons (.asg (.nm 5) (.op .eq (.cons (.call 21 (.cons (.var 0) (.cons (.op .add (.cons (.var 1) (.cons (.const (.int 3)) .nil))) (.cons (.const (.int 2)) .nil)))) (.cons (.const (.int 1)) .nil)))) (.cons (.cond (.var 2) (.cons (.asg (.nm 6) (.disp true (.cons (.call 22 (.cons (.var 0) (.cons (.op .add (.cons (.var 1) (.cons (.const (.int 2)) .nil))) .nil))) (.cons (.call 22 (.cons (.var 0) (.cons (.op .add (.cons (.var 1) (.cons (.const (.int 4)) .nil))) .nil))) (.cons (.var 5) .nil))))) (.cons (.ret (.op .add (.cons (.disp true (.cons (.call 22 (.cons (.var 0) (.cons (.op .add (.cons (.var 1) (.cons (.const (.int 1)) .nil))) .nil))) (.cons (.var 4) .nil))) (.cons (.var 6) .nil)))) .nil)) .nil) (.cons (.asg (.nm 6) (.disp true (.cons (.call 21 (.cons (.var 0) (.cons (.op .add (.cons (.var 1) (.cons (.const (.int 1)) .nil))) (.cons (.const (.int 6)) .nil)))) (.cons (.call 21 (.cons (.var 0) (.cons (.op .add (.cons (.var 1) (.cons (.const (.int 2)) .nil))) (.cons (.const (.int 17)) .nil)))) (.cons (.var 5) .nil))))) (.cons (.ret (.op .add (.cons (.disp true (.cons (.call 21 (.cons (.var 0) (.cons (.op .add (.cons (.var 1) (.cons (.const (.int 4)) .nil))) (.cons (.const (.int 160)) .nil)))) (.cons (.var 4) .nil))) (.cons (.var 6) .nil)))) .nil)))))) }
def B27_0 : Ss := (.cons (.asg (.nm 7) (.op .ix (.cons (.var 4) (.cons (.call 21 (.cons (.var 0) (.cons (.op .add (.cons (.var 1) (.cons (.op .mul (.cons (.const (.int 9)) (.cons (.var 6) .nil))) .nil))) (.cons (.const (.int 5)) .nil)))) .nil)))) (.cons (.asg (.nm 8) (.call 21 (.cons (.var 0) (.cons (.op .add (.cons (.op .add (.cons (.var 1) (.cons (.op .mul (.cons (.const (.int 9)) (.cons (.var 6) .nil))) .nil))) (.cons (.const (.int 1)) .nil))) (.cons (.const (.int 24)) .nil))))) (.cons (.cond (.or (.var 3) (.op .eq (.cons (.var 7) (.cons (.const (.str "tell")) .nil)))) (.cons (.asg (.nm 8) (.call 22 (.cons (.var 0) (.cons (.op .add (.cons (.op .add (.cons (.var 1) (.cons (.op .mul (.cons (.const (.int 9)) (.cons (.var 6) .nil))) .nil))) (.cons (.const (.int 2)) .nil))) .nil)))) .nil) .nil) (.cons (.ex (.app (.var 5) (.disp true (.cons (.call 22 (.cons (.var 0) (.cons (.op .add (.cons (.op .add (.cons (.var 1) (.cons (.op .mul (.cons (.const (.int 9)) (.cons (.var 6) .nil))) .nil))) (.cons (.const (.int 5)) .nil))) .nil))) (.cons (.var 7) (.cons (.var 8) .nil)))))) .nil))))
-- _law_diary: cells ['notes']
def D27 : DefT := { x := "_law_diary", ps := ["draws", "at", "many", "wide"], N := ["draws", "at", "many", "wide", "words", "notes", "k", "word", "number"], st := top 40, body :=
  (.cons (.asg (.nm 4) (.disp false (.cons (.const (.str "tell")) (.cons (.const (.str "do")) (.cons (.const (.str "done")) (.cons (.const (.str "undo")) (.cons (.const (.str "undone")) .nil))))))) (.cons (.asg (.nm 5) (.cell (.disp false .nil))) (.cons (.each (.nm 6) (.range (.cons (.var 2) .nil)) B27_0) (.cons (.ret (.op .tuple (.cons (.var 5) .nil))) .nil)))) }
def B28_0 : Ss := (.cons (.asg (.nm 8) (.op .add (.cons (.const (.int 350)) (.cons (.op .mul (.cons (.const (.int 20)) (.cons (.var 6) .nil))) .nil)))) (.cons (.asg (.nm 12) (.disp true (.cons (.var 7) (.cons (.op .ix (.cons (.var 2) (.cons (.call 21 (.cons (.var 0) (.cons (.var 8) (.cons (.const (.int 8)) .nil)))) .nil))) (.cons (.call 22 (.cons (.var 0) (.cons (.op .add (.cons (.var 8) (.cons (.const (.int 1)) .nil))) .nil))) (.cons (.call 22 (.cons (.var 0) (.cons (.op .add (.cons (.var 8) (.cons (.const (.int 4)) .nil))) .nil))) .nil)))))) (.cons (.ex (.app (.var 5) (.op .add (.cons (.var 12) (.cons (.disp true (.cons (.call 25 (.cons (.var 0) (.cons (.op .add (.cons (.var 8) (.cons (.const (.int 7)) .nil))) (.cons (.op .eq (.cons (.call 21 (.cons (.var 0) (.cons (.op .add (.cons (.var 8) (.cons (.const (.int 15)) .nil))) (.cons (.const (.int 2)) .nil)))) (.cons (.const (.int 0)) .nil))) .nil)))) .nil)) .nil))))) .nil)))
def B28_1 : Ss := (.cons (.asg (.nm 8) (.op .add (.cons (.const (.int 40)) (.cons (.op .mul (.cons (.const (.int 40)) (.cons (.var 6) .nil))) .nil)))) (.cons (.asg (.nm 9) (.op .eq (.cons (.call 21 (.cons (.var 0) (.cons (.var 8) (.cons (.const (.int 2)) .nil)))) (.cons (.const (.int 0)) .nil)))) (.cons (.asg (.nm 10) (.disp true .nil)) (.cons (.cond (.not (.var 9)) (.cons (.asg (.nm 10) (.call 26 (.cons (.var 0) (.cons (.op .add (.cons (.var 8) (.cons (.const (.int 10)) .nil))) (.cons (.var 3) .nil))))) .nil) .nil) (.cons (.asg (.nm 11) (.call 27 (.cons (.var 0) (.cons (.op .add (.cons (.var 8) (.cons (.const (.int 20)) .nil))) (.cons (.call 21 (.cons (.var 0) (.cons (.op .add (.cons (.var 8) (.cons (.const (.int 9)) .nil))) (.cons (.const (.int 4)) .nil)))) (.cons (.var 3) .nil)))))) (.cons (.asg (.nm 12) (.disp true (.cons (.var 7) (.cons (.op .ix (.cons (.var 2) (.cons (.call 21 (.cons (.var 0) (.cons (.op .add (.cons (.var 8) (.cons (.const (.int 1)) .nil))) (.cons (.const (.int 8)) .nil)))) .nil))) (.cons (.call 22 (.cons (.var 0) (.cons (.op .add (.cons (.var 8) (.cons (.const (.int 2)) .nil))) .nil))) (.cons (.call 25 (.cons (.var 0) (.cons (.op .add (.cons (.var 8) (.cons (.const (.int 5)) .nil))) (.cons (.var 9) .nil)))) .nil)))))) (.cons (.ex (.app (.var 4) (.op .add (.cons (.var 12) (.cons (.disp true (.cons (.var 11) (.cons (.var 10) .nil))) .nil))))) .nil)))))))
-- _law_hall: cells ['asks', 'houses']
def D28 : DefT := { x := "_law_hall", ps := ["draws", "most"], N := ["draws", "most", "words", "wide", "houses", "asks", "k", "path", "at", "ended", "state", "diary", "head"], st := top 41, body :=
  (.cons (.asg (.nm 2) (.disp false (.cons (.const (.str "a")) (.cons (.const (.str "ab")) (.cons (.const (.str "house")) (.cons (.const (.str "state")) (.cons (.const (.str "note")) (.cons (.const (.str "ask")) (.cons (.const (.str "hour")) (.cons (.const (.str "zzzzzzzz")) .nil)))))))))) (.cons (.asg (.nm 3) (.op .eq (.cons (.call 21 (.cons (.var 0) (.cons (.const (.int 293)) (.cons (.const (.int 8)) .nil)))) (.cons (.const (.int 0)) .nil)))) (.cons (.asg (.nm 4) (.cell (.disp false .nil))) (.cons (.each (.tup (.cons (.nm 6) (.cons (.nm 7) .nil))) (.enum (.call 24 (.cons (.var 0) (.cons (.const (.int 0)) (.cons (.disp false (.cons (.const (.int 0)) (.cons (.const (.int 2)) (.cons (.const (.int 4)) .nil)))) (.cons (.call 21 (.cons (.var 0) (.cons (.const (.int 290)) (.cons (.op .add (.cons (.var 1) (.cons (.const (.int 1)) .nil))) .nil)))) .nil)))))) B28_1) (.cons (.asg (.nm 5) (.cell (.disp false .nil))) (.cons (.each (.tup (.cons (.nm 6) (.cons (.nm 7) .nil))) (.enum (.call 24 (.cons (.var 0) (.cons (.const (.int 300)) (.cons (.disp false (.cons (.const (.int 2)) (.cons (.const (.int 4)) (.cons (.const (.int 6)) .nil)))) (.cons (.call 21 (.cons (.var 0) (.cons (.const (.int 291)) (.cons (.op .add (.cons (.var 1) (.cons (.const (.int 1)) .nil))) .nil)))) .nil)))))) B28_0) (.cons (.ret (.disp true (.cons (.call 22 (.cons (.var 0) (.cons (.const (.int 292)) .nil))) (.cons (.op .tuple (.cons (.var 4) .nil)) (.cons (.op .tuple (.cons (.var 5) .nil)) .nil))))) .nil))))))) }
def B29_0 : Ss := (.cons (.asg (.nm 1) (.op .add (.cons (.op .add (.cons (.var 1) (.cons (.const (.str ".")) .nil))) (.cons (.op .str (.cons (.var 2) .nil)) .nil)))) .nil)
-- _law_path_word: cells []
def D29 : DefT := { x := "_law_path_word", ps := ["path"], N := ["path", "word", "part"], st := top 42, body :=
  (.cons (.cond (.op .eq (.cons (.op .len (.cons (.var 0) .nil)) (.cons (.const (.int 0)) .nil))) (.cons (.ret (.const (.str "-"))) .nil) .nil) (.cons (.asg (.nm 1) (.op .str (.cons (.op .ix (.cons (.var 0) (.cons (.const (.int 0)) .nil))) .nil))) (.cons (.each (.nm 2) (.seq (.op (.slice true false) (.cons (.var 0) (.cons (.const (.int 1)) .nil)))) B29_0) (.cons (.ret (.var 1)) .nil)))) }
-- _law_end_word: cells []
def D30 : DefT := { x := "_law_end_word", ps := ["end"], N := ["end"], st := top 43, body :=
  (.cons (.cond (.op .eq (.cons (.op .len (.cons (.var 0) .nil)) (.cons (.const (.int 0)) .nil))) (.cons (.ret (.const (.str "-"))) .nil) .nil) (.cons (.ret (.op .add (.cons (.op .add (.cons (.op .add (.cons (.op .add (.cons (.op .ix (.cons (.var 0) (.cons (.const (.int 0)) .nil))) (.cons (.const (.str ":")) .nil))) (.cons (.op .str (.cons (.op .ix (.cons (.var 0) (.cons (.const (.int 1)) .nil))) .nil)) .nil))) (.cons (.const (.str ":")) .nil))) (.cons (.op .str (.cons (.op .ix (.cons (.var 0) (.cons (.const (.int 2)) .nil))) .nil)) .nil)))) .nil)) }
def B31_0 : Ss := (.cons (.ex (.app (.var 1) (.disp false (.cons (.const (.str "ask")) (.cons (.call 29 (.cons (.var 2) .nil)) (.cons (.var 8) (.cons (.op .str (.cons (.var 9) .nil)) (.cons (.op .str (.cons (.var 10) .nil)) (.cons (.call 30 (.cons (.var 5) .nil)) .nil))))))))) .nil)
def B31_1 : Ss := (.cons (.ex (.app (.var 1) (.disp false (.cons (.const (.str "note")) (.cons (.op .str (.cons (.var 12) .nil)) (.cons (.var 13) (.cons (.op .str (.cons (.var 9) .nil)) .nil))))))) .nil)
def B31_2 : Ss := (.cons (.ex (.app (.var 1) (.disp false (.cons (.const (.str "house")) (.cons (.call 29 (.cons (.var 2) .nil)) (.cons (.var 3) (.cons (.op .str (.cons (.var 4) .nil)) (.cons (.call 30 (.cons (.var 5) .nil)) .nil)))))))) (.cons (.cond (.op .gt (.cons (.op .len (.cons (.var 7) .nil)) (.cons (.const (.int 0)) .nil))) (.cons (.asg (.nm 11) (.disp false (.cons (.const (.str "state")) (.cons (.op .str (.cons (.op .ix (.cons (.var 7) (.cons (.const (.int 0)) .nil))) .nil)) (.cons (.op .str (.cons (.op .ix (.cons (.var 7) (.cons (.const (.int 2)) .nil))) .nil)) (.cons (.op .str (.cons (.op .ix (.cons (.var 7) (.cons (.const (.int 3)) .nil))) .nil)) (.cons (.op .ix (.cons (.disp false (.cons (.const (.str "0")) (.cons (.const (.str "1")) .nil))) (.cons (.op .int (.cons (.op .ix (.cons (.var 7) (.cons (.const (.int 4)) .nil))) .nil)) .nil))) .nil))))))) (.cons (.ex (.app (.var 1) (.op .add (.cons (.var 11) (.cons (.comp [9] (.op .str (.cons (.var 9) .nil)) (.nm 9) (.seq (.op .ix (.cons (.var 7) (.cons (.const (.int 1)) .nil)))) .nil) .nil))))) .nil)) .nil) (.cons (.each (.tup (.cons (.nm 12) (.cons (.nm 13) (.cons (.nm 9) .nil)))) (.seq (.var 6)) B31_1) .nil)))
-- _law_lines: cells ['lines']
def D31 : DefT := { x := "_law_lines", ps := ["its_hall"], N := ["its_hall", "lines", "path", "name", "begun_at", "end", "diary", "state", "who", "number", "sent", "line", "hour", "word"], st := top 44, body :=
  (.cons (.asg (.nm 1) (.cell (.disp false (.cons (.disp false (.cons (.const (.str "hour")) (.cons (.op .str (.cons (.op .ix (.cons (.var 0) (.cons (.const (.int 0)) .nil))) .nil)) .nil))) .nil)))) (.cons (.each (.tup (.cons (.nm 2) (.cons (.nm 3) (.cons (.nm 4) (.cons (.nm 5) (.cons (.nm 6) (.cons (.nm 7) .nil))))))) (.seq (.op .ix (.cons (.var 0) (.cons (.const (.int 1)) .nil)))) B31_2) (.cons (.each (.tup (.cons (.nm 2) (.cons (.nm 8) (.cons (.nm 9) (.cons (.nm 10) (.cons (.nm 5) .nil)))))) (.seq (.op .ix (.cons (.var 0) (.cons (.const (.int 2)) .nil)))) B31_0) (.cons (.ret (.var 1)) .nil)))) }
-- _law_text: cells []
def D32 : DefT := { x := "_law_text", ps := ["lines"], N := ["lines", "words"], st := top 45, body :=
  (.cons (.ret (.meth .join (.const (.str "\n")) (.cons (.comp [1] (.meth .join (.const (.str " ")) (.cons (.var 1) .nil)) (.nm 1) (.seq (.var 0)) .nil) .nil))) .nil) }
-- _law_same: cells []
def D33 : DefT := { x := "_law_same", ps := ["found", "due"], N := ["found", "due", "k"], st := top 46, body :=
  (.cons (.cond (.op (.isT .tuple) (.cons (.var 1) .nil)) (.cons (.cond (.or (.not (.op (.isT .tuple) (.cons (.var 0) .nil))) (.op .ne (.cons (.op .len (.cons (.var 0) .nil)) (.cons (.op .len (.cons (.var 1) .nil)) .nil)))) (.cons (.ret (.const (.bl false))) .nil) .nil) (.cons (.ret (.op .all (.cons (.comp [2] (.call 33 (.cons (.op .ix (.cons (.var 0) (.cons (.var 2) .nil))) (.cons (.op .ix (.cons (.var 1) (.cons (.var 2) .nil))) .nil))) (.nm 2) (.range (.cons (.op .len (.cons (.var 1) .nil)) .nil)) .nil) .nil))) .nil)) .nil) (.cons (.cond (.op (.isT .bool) (.cons (.var 1) .nil)) (.cons (.ret (.and (.op (.isT .bool) (.cons (.var 0) .nil)) (.op .eq (.cons (.var 0) (.cons (.var 1) .nil))))) .nil) .nil) (.cons (.cond (.op (.isT .str) (.cons (.var 1) .nil)) (.cons (.ret (.and (.op (.isT .str) (.cons (.var 0) .nil)) (.op .eq (.cons (.var 0) (.cons (.var 1) .nil))))) .nil) .nil) (.cons (.ret (.and (.op (.isT .int) (.cons (.var 0) .nil)) (.and (.not (.op (.isT .bool) (.cons (.var 0) .nil))) (.op .eq (.cons (.var 0) (.cons (.var 1) .nil)))))) .nil)))) }
def B34_0 : Ss := (.cons (.asg (.nm 2) (.call 28 (.cons (.call 20 (.cons (.var 1) (.cons (.const (.int 460)) .nil))) (.cons (.const (.int 5)) .nil)))) (.cons (.asg (.nm 3) (.call 32 (.cons (.call 31 (.cons (.var 2) .nil)) .nil))) (.cons (.asg (.nm 4) (.call 5 (.cons (.var 2) .nil))) (.cons (.cond (.or (.not (.op (.isT .str) (.cons (.var 4) .nil))) (.or (.op .ne (.cons (.var 4) (.cons (.var 3) .nil))) (.not (.call 33 (.cons (.call 19 (.cons (.var 3) .nil)) (.cons (.var 2) .nil)))))) (.cons (.ret (.const (.bl false))) .nil) .nil) (.cons (.cond (.or (.op .ne (.cons (.callk 5 [0] (.cons (.callk 19 [0] (.cons (.var 3) .nil)) .nil)) (.cons (.var 3) .nil))) (.not (.call 33 (.cons (.call 19 (.cons (.var 4) .nil)) (.cons (.var 2) .nil))))) (.cons (.ret (.const (.bl false))) .nil) .nil) .nil)))))
-- law: cells []
def D34 : DefT := { x := "law", ps := ["script"], N := ["script", "cell", "its_hall", "its_text", "found"], st := top 47, body :=
  (.cons (.each (.nm 1) (.seq (.op .add (.cons (.disp false (.cons (.op .len (.cons (.var 0) .nil)) .nil)) (.cons (.op (.slice false true) (.cons (.var 0) (.cons (.const (.int 12)) .nil))) .nil)))) B34_0) (.cons (.ret (.const (.bl true))) .nil)) }
def T : Txt1 := { defs := [D0, D1, D2, D3, D4, D5, D6, D7, D8, D9, D10, D11, D12, D13, D14, D15, D16, D17, D18, D19, D20, D21, D22, D23, D24, D25, D26, D27, D28, D29, D30, D31, D32, D33, D34], glb := [("ASK_PATHS", (.wtp [(.int 2), (.int 4), (.int 6)])), ("END_WORDS", (.wtp [(.str "good"), (.str "bad"), (.str "off")])), ("FIGURES", (.str "0123456789")), ("GREATEST", (.int 1000000006)), ("HOUSE_PATHS", (.wtp [(.int 0), (.int 2), (.int 4)])), ("LETTERS", (.str "abcdefghijklmnopqrstuvwxyz")), ("NOTE_WORDS", (.wtp [(.str "tell"), (.str "do"), (.str "done"), (.str "undo"), (.str "undone")]))], kws := [(5, ["hall"], [0]), (19, ["text"], [0])] }
theorem T_ok : T.ok = true := by decide +kernel
end K75
namespace K75
open PySem PySem.Spec PyProof.Rows L2 Rs
/-! ### plain facts of every text -/
theorem sl24 : sizeLine = 16777216 := by decide +kernel
theorem fr_str (M : Mem) (n : Nat) (s : Str) : frz M n (.str s) = some (.str s) := by cases n <;> rfl
theorem fr_int (M : Mem) (n : Nat) (s : Int) : frz M n (.int s) = some (.int s) := by cases n <;> rfl
theorem fr_bl (M : Mem) (n : Nat) (s : Bool) : frz M n (.bl s) = some (.bl s) := by cases n <;> rfl
theorem fr_non (M : Mem) (n : Nat) : frz M n .non = some .non := by cases n <;> rfl
theorem fr_nil (M : Mem) : frz M dpt (.lst []) = some (.lst []) := rfl
theorem eq_int (a b : Int) : eqD (.int a) (.int b) = some (a == b) := rfl
theorem sh_int (M : Mem) (a : Int) : sh M (.int a) = .int a := rfl
theorem sh_str (M : Mem) (a : Str) : sh M (.str a) = .str a := rfl
theorem sh_bl (M : Mem) (a : Bool) : sh M (.bl a) = .bl a := rfl
theorem sh_non (M : Mem) : sh M .non = .non := rfl
theorem sh_lst (M : Mem) (a : List I) : sh M (.lst a) = .lst a := rfl
theorem sh_tup (M : Mem) (a : List I) : sh M (.tup a) = .tup a := rfl
theorem sh_obj {M : Mem} {n : Nat} {a : List I} (h : M[n]? = some (.lst a)) : sh M (.obj n) = .lst a := by
  show (match M[n]? with
    | some (.lst xs) => I.lst xs
    | some (.dic ks xs) => .dic ks xs
    | some (.dit ks xs) => .dit ks xs
    | _ => .obj n) = _
  rw [h]
theorem atI_mem {α : Type} {xs : List α} {k : Int} (h0 : 0 ≤ k) (h1 : k < (xs.length : Int)) : ∃ x, atI xs k = some x ∧ x ∈ xs := by
  have hk : k.toNat < xs.length := by omega
  refine ⟨xs[k.toNat], ?_, List.getElem_mem hk⟩
  simp [atI, ixN, h0, h1, hk]
theorem l8 : Nat.log2 8 < 9000 := by decide +kernel
theorem l7 : Nat.log2 7 < 9000 := by decide +kernel
theorem l6 : Nat.log2 1000000 < 9000 := by decide +kernel
theorem log_abs {a : Int} (h : a.natAbs < 2 ^ 100) : a.natAbs.log2 < 100 := by
  by_cases h1 : a.natAbs = 0
  · rw [h1]; decide
  · rw [Nat.log2_lt h1]; exact h
theorem mulB {a b : Int} (ha : a.natAbs < 2 ^ 100) (hb : b.natAbs < 2 ^ 100) : mulD (.int a) (.int b) = some (.int (a * b)) := by
  have := log_abs ha
  have := log_abs hb
  show (if a.natAbs.log2 + b.natAbs.log2 < 1000000 then some (I.int (a * b)) else none) = _
  rw [if_pos (by omega)]
theorem add_int (a b : Int) : addD (.int a) (.int b) = some (.int (a + b)) := rfl
theorem flats1 {x : I} (h : x.flat = true) : I.flats [x] = true := by
  show (x.flat && true) = true
  rw [h]; rfl
theorem flats_cons (x : I) (xs : List I) : I.flats (x :: xs) = (x.flat && I.flats xs) := rfl
theorem back_ret {v : I} {M1 M : Mem} (h : v.flat = true) : back0 (some (.ret v M1)) M = .ok v M := by
  show (match frz M1 dpt v with
    | some u => R.ok u M
    | none => .no) = _
  rw [frz_flat _ h]
theorem back_obj {i : Nat} {xs : List I} {M1 M : Mem} (h : M1[i]? = some (.lst xs)) (hf : I.flats xs = true) : back0 (some (.ret (.obj i) M1)) M = .ok (.lst xs) M := by
  show (match frz M1 dpt (.obj i) with
    | some u => R.ok u M
    | none => .no) = _
  rw [frz_lst h hf]
theorem lt_big {n : Nat} (h : n < 200000) : n < sizeLine := by rw [sl24]; omega
theorem bnd_snoc {ns : List Int} {n : Int} (h : ∀ x ∈ ns, 0 ≤ x ∧ x < 1000000) (hn : 0 ≤ n ∧ n < 1000000) : ∀ x ∈ ns ++ [n], 0 ≤ x ∧ x < 1000000 := fun x hx => by
  rcases List.mem_append.mp hx with z | z
  · exact h x z
  · rw [List.mem_singleton.mp z]; exact hn
theorem loop_go {t : Rs.Env → Mem → R I} {b : Rs.Env → Mem → Option Out} {Inv Done : Rs.Env → Mem → Prop} (μ : Rs.Env → Mem → Nat) : ∀ (n : Nat) (τ : Rs.Env) (M : Mem), Inv τ M → μ τ M < n →
    (∀ τ M, Inv τ M → ∃ v M1, t τ M = .ok v M1 ∧ ((truth (sh M1 v) = some false ∧ Done τ M1) ∨ (truth (sh M1 v) = some true ∧ ∃ τ2 M2, b τ M1 = some (.nx τ2 M2) ∧ Inv τ2 M2 ∧ μ τ2 M2 < μ τ M))) → ∃ τ' M', loopW t b n τ M = some (.nx τ' M') ∧ Done τ' M'
  | 0, _, _, _, h, _ => absurd h (Nat.not_lt_zero _)
  | n + 1, τ, M, h, hn, step => by
    obtain ⟨v, M1, e, h2⟩ := step τ M h
    unfold loopW
    rw [e]
    dsimp only [R.out]
    rcases h2 with ⟨h2, d⟩ | ⟨h2, τ2, M2, e2, i2, m2⟩
    · rw [h2]
      exact ⟨τ, M1, rfl, d⟩
    · rw [h2]
      dsimp only
      rw [e2]
      exact loop_go μ n τ2 M2 i2 (by omega) step
theorem ss_nx {Φ : Oracle} {W : Nat} {s : Rs.S} {ss : Ss} {τ τ1 : Rs.Env} {M M1 : Mem} (h : evS Φ W s τ M = some (.nx τ1 M1)) : evSs Φ W (.cons s ss) τ M = evSs Φ W ss τ1 M1 := by
  rw [evSs, h]
theorem s_true {Φ : Oracle} {W : Nat} {t : C} {a b : Ss} {τ : Rs.Env} {M M1 : Mem} {v : I} (h : evE Φ t τ M = .ok v M1) (ht : truth (sh M1 v) = some true) : evS Φ W (.cond t a b) τ M = evSs Φ W a τ M1 := by
  rw [evS, h]
  dsimp only [R.out]
  rw [ht]
theorem s_false {Φ : Oracle} {W : Nat} {t : C} {a b : Ss} {τ : Rs.Env} {M M1 : Mem} {v : I} (h : evE Φ t τ M = .ok v M1) (ht : truth (sh M1 v) = some false) : evS Φ W (.cond t a b) τ M = evSs Φ W b τ M1 := by
  rw [evS, h]
  dsimp only [R.out]
  rw [ht]
theorem ev_range {Φ : Oracle} {as : Cs} {τ : Rs.Env} {M M1 : Mem} {vs xs : List I} (h : evEs Φ as τ M = .ok vs M1) (hr : rangeItems vs = some xs) : evIt Φ (.range as) τ M = .ok (.vals xs) M1 := by
  rw [evIt, h]
  show R.of ((rangeItems vs).map Src.vals) M1 = _
  rw [hr]; rfl
theorem s_range {Φ : Oracle} {W : Nat} {as : Cs} {g : Tg} {b : Ss} {τ : Rs.Env} {M M1 : Mem} {vs xs : List I} (h : evEs Φ as τ M = .ok vs M1) (hr : rangeItems vs = some xs) : evS Φ W (.each g (.range as) b) τ M = eachL g (evSs Φ W b) xs τ M1 := by
  rw [evS, ev_range h hr]; rfl
theorem rng1 {a : Int} (h0 : 0 ≤ a) (h1 : a < 1000000) : rangeItems [.int a] = some ((List.range a.toNat).map fun k : Nat => I.int (k : Int)) := by
  show (if -(2 ^ 62) ≤ a ∧ a < 2 ^ 62 then _ else none) = _
  rw [if_pos (by omega)]
theorem rng2 {a b : Int} (h0 : 0 ≤ a ∧ 0 ≤ b) (h1 : a < 1000000 ∧ b < 1000000) : rangeItems [.int a, .int b] = some ((List.range (b - a).toNat).map fun k : Nat => I.int (a + (k : Int))) := by
  show (if -(2 ^ 62) ≤ a ∧ a < 2 ^ 62 ∧ -(2 ^ 62) ≤ b ∧ b < 2 ^ 62 then _ else none) = _
  rw [if_pos (by omega)]
/-! ### draws -/
theorem P20 : T.P 20 = some D20.fn := rfl
theorem P21 : T.P 21 = some D21.fn := rfl
theorem P22 : T.P 22 = some D22.fn := rfl
structure Dr (m : Nat) (ds : List Int) : Prop where
  l : ds.length = m
  b : ∀ d ∈ ds, 0 ≤ d ∧ d < 1000000
set_option maxHeartbeats 8000000 in
theorem step20 {Φ : Oracle} {W : Nat} {c left x : Int} {m : Nat} {ns : List Int} {x4 x5 : Option I} (hx0 : 0 ≤ x) (hx : x < 1000) (hl : ns.length < 1000) : ∃ (v : Int) (x5' : Option I), 0 ≤ v ∧ v < 1000000 ∧ evSs Φ W B20_0 [some (.int c), some (.int (m : Int)), some (.obj 0), some (.int left), some (.int x), x5] [.lst (ns.map .int)] = some (.nx [some (.int c), some (.int (m : Int)), some (.obj 0), some (.int left), some (.int x), x5'] [.lst ((ns ++ [v]).map .int)]) := by
  have hq : 0 ≤ x * x ∧ x * x ≤ 1000 * 1000 := ⟨Int.mul_nonneg hx0 hx0, Int.mul_le_mul (by omega) (by omega) hx0 (by decide)⟩
  have hq2 : 977 * x * x = 977 * (x * x) := Int.mul_assoc _ _ _
  have hm := Int.emod_nonneg c (show (1000000007 : Int) ≠ 0 by omega)
  have hm2 := Int.emod_lt_of_pos c (show (0 : Int) < 1000000007 by omega)
  have m0 := mulB (a := c % 1000000007) (b := 48271) (by omega) (by decide)
  have m1 := mulB (a := 977) (b := x) (by decide) (by omega)
  have m2 := mulB (a := 977 * x) (b := x) (by omega) (by omega)
  have m3 := mulB (a := 131) (b := x) (by decide) (by omega)
  obtain ⟨s, hs⟩ : ∃ s : Int, s = c % 1000000007 * 48271 + 977 * x * x + 131 * x + 1 := ⟨_, rfl⟩
  have ht := Int.emod_nonneg s (show (2147483647 : Int) ≠ 0 by omega)
  have ht2 := Int.emod_lt_of_pos s (show (0 : Int) < 2147483647 by omega)
  have m5 := mulB (a := s % 2147483647) (b := s % 2147483647) (by omega) (by omega)
  have hu := Int.emod_nonneg (s % 2147483647 * (s % 2147483647)) (show (2147483647 : Int) ≠ 0 by omega)
  have hu2 := Int.emod_lt_of_pos (s % 2147483647 * (s % 2147483647)) (show (0 : Int) < 2147483647 by omega)
  have m6 := mulB (a := 40692) (b := x + 3) (by decide) (by omega)
  have m7 := mulB (a := s % 2147483647 * (s % 2147483647) % 2147483647 + 40692 * (x + 3)) (b := 69621) (by omega) (by decide)
  obtain ⟨v, hv⟩ : ∃ v : Int, v = (s % 2147483647 * (s % 2147483647) % 2147483647 + 40692 * (x + 3)) * 69621 % 2147483629 / 8 % 1000000 := ⟨_, rfl⟩
  refine ⟨v, some (.int (s % 2147483647 * (s % 2147483647) % 2147483647)), by rw [hv]; exact Int.emod_nonneg _ (by omega), by rw [hv]; exact Int.emod_lt_of_pos _ (by omega), ?_⟩
  simp (disch := first | omega | (simp only [List.length_append, List.length_map, List.length_cons, List.length_nil]; omega)) [DefT.fn, evSs, evS, evE, evEs, evIt, Rs.R.bind, Rs.R.of, Rs.R.out, opM, prep, Op.deep, opD, sh_int, sh_str, sh_bl, sh_non, sh_tup, sh_lst, asgT, asgTs, asgI, truth, cmpI, ltD, fr_int, fr_str, fr_bl, fr_non, fr_nil, eq_int, dispD, toCell, isTy, I.ty, isN, B20_0, modD, m0, m1, m2, m3, ← hs, m5, m6, m7, add_int, fdivD, l8, powD, lt_big, hv]
end K75

namespace K75
open PySem PySem.Spec PyProof.Rows L2 Rs
set_option maxHeartbeats 8000000 in
theorem draws_ok {W F m : Nat} {c : Int} {M : Mem} (hm : m ≤ 1000) (hW : 2000 ≤ W) (hF : 1 ≤ F) : ∃ ds : List Int, Dr m ds ∧ evCall T.P W F 20 [.int c, .int (m : Int)] M = .ok (.lst (ds.map .int)) M := by
  obtain ⟨k, rfl⟩ : ∃ k, F = k + 1 := ⟨F - 1, by omega⟩
  rw [call0 P20 rfl rfl rfl rfl]
  generalize evCall T.P W k = Φ
  have habs : 0 ≤ (if c < 0 then -c else c) := by split <;> omega
  suffices ∃ ds : List Int, Dr m ds ∧ evSs Φ W D20.fn.body (List.map some [I.int c, .int (m : Int)] ++ List.replicate (D20.fn.ns - D20.fn.np) none) [] = some (.ret (.obj 0) [.lst (ds.map .int)]) by
    obtain ⟨ns, h1, e⟩ := this
    refine ⟨ns, h1, ?_⟩
    rw [e]
    exact back_obj (i := 0) rfl (flats_ints _)
  -- the second loop, from wherever the first leaves off
  have second : ∀ (ns : List Int) (left : Int) (x4 x5 : Option I), ns.length ≤ m → (∀ d ∈ ns, 0 ≤ d ∧ d < 1000000) → ∃ (ds : List Int) (x4' x5' : Option I), Dr m ds ∧
      eachL (.nm 4) (evSs Φ W B20_0) ((List.range (m - ns.length)).map fun k : Nat => I.int ((ns.length : Int) + (k : Int))) [some (.int c), some (.int (m : Int)), some (.obj 0), some (.int left), x4, x5] [.lst (ns.map .int)] = some (.nx [some (.int c), some (.int (m : Int)), some (.obj 0), some (.int left), x4', x5'] [.lst (ds.map .int)]) := by
    intro ns left x4 x5 hn hb
    obtain ⟨τ', M', e, ds, y4, y5, rfl, rfl, hl, hb2⟩ := each_go (g := .nm 4) (b := evSs Φ W B20_0)
      (Inv := fun j τ M => ∃ (ds : List Int) (y4 y5 : Option I), M = [.lst (ds.map .int)] ∧ τ = [some (.int c), some (.int (m : Int)), some (.obj 0), some (.int left), y4, y5] ∧ ds.length = ns.length + j ∧ ∀ d ∈ ds, 0 ≤ d ∧ d < 1000000)
      ((List.range (m - ns.length)).map fun k : Nat => I.int ((ns.length : Int) + (k : Int))) 0 [some (.int c), some (.int (m : Int)), some (.obj 0), some (.int left), x4, x5] [.lst (ns.map .int)] ⟨ns, x4, x5, rfl, rfl, rfl, hb⟩ (by
        rintro i τ M y hy ⟨ds, y4, y5, rfl, rfl, hl, hb2⟩
        have hi : i < m - ns.length := by simpa using (List.getElem?_eq_some_iff.mp hy).1
        rw [List.getElem?_map, List.getElem?_range hi] at hy
        cases hy
        obtain ⟨v, y5', v0, v1, e⟩ := step20 (Φ := Φ) (W := W) (c := c) (left := left) (x := (ns.length : Int) + (i : Int)) (ns := ds) (x4 := y4) (x5 := y5) (by omega) (by omega) (by omega)
        refine ⟨[some (.int c), some (.int (m : Int)), some (.obj 0), some (.int left), some (.int ((ns.length : Int) + (i : Int))), y5], _, _, by simp [asgT, asgI], e, ds ++ [v], _, y5', rfl, rfl, by simp; omega, bnd_snoc hb2 ⟨v0, v1⟩⟩)
    refine ⟨ds, y4, y5, ⟨?_, hb2⟩, e⟩
    simp only [List.length_map, List.length_range] at hl
    omega
  by_cases hc : (10 : Int) ^ 18 ≤ (if c < 0 then -c else c)
  · obtain ⟨τ', M', e1, ns, left, rfl, rfl, hn, hb⟩ := loop_go (t := evE Φ (.and (.op .gt (.cons (.var 3) (.cons (.const (.int 0)) .nil))) (.op .lt (.cons (.op .len (.cons (.var 2) .nil)) (.cons (.var 1) .nil))))) (b := evSs Φ W B20_1)
      (Inv := fun τ M => ∃ (ns : List Int) (left : Int), M = [.lst (ns.map .int)] ∧ τ = [some (.int c), some (.int (m : Int)), some (.obj 0), some (.int left), none, none] ∧ ns.length ≤ m ∧ ∀ d ∈ ns, 0 ≤ d ∧ d < 1000000)
      (Done := fun τ M => ∃ (ns : List Int) (left : Int), M = [.lst (ns.map .int)] ∧ τ = [some (.int c), some (.int (m : Int)), some (.obj 0), some (.int left), none, none] ∧ ns.length ≤ m ∧ ∀ d ∈ ns, 0 ≤ d ∧ d < 1000000)
      (fun τ M => m + 1 - (match M with
        | [.lst xs] => xs.length
        | _ => 0)) W [some (.int c), some (.int (m : Int)), some (.obj 0), some (.int (if c < 0 then -c else c)), none, none] [.lst []] ⟨[], _, rfl, rfl, Nat.zero_le _, (fun _ z => nomatch z)⟩ (by dsimp only; omega) (by
        rintro τ M ⟨ns, left, rfl, rfl, hn, hb⟩
        by_cases hp : 0 < left
        · by_cases hq : ns.length < m
          · have hq' : ns.length < m := hq
            refine ⟨.bl true, [.lst (ns.map .int)], ?_, .inr ⟨rfl, [some (.int c), some (.int (m : Int)), some (.obj 0), some (.int (left / 1000000)), none, none], [.lst ((ns ++ [left % 1000000]).map .int)], ?_, ⟨_, _, rfl, rfl, by simp; omega, bnd_snoc hb ⟨Int.emod_nonneg _ (by omega), Int.emod_lt_of_pos _ (by omega)⟩⟩, by simp; omega⟩⟩
            · simp [DefT.fn, evSs, evS, evE, evEs, evIt, Rs.R.bind, Rs.R.of, Rs.R.out, opM, prep, Op.deep, opD, sh_int, sh_str, sh_bl, sh_non, sh_tup, sh_lst, asgT, asgTs, asgI, truth, cmpI, ltD, fr_int, fr_str, fr_bl, fr_non, fr_nil, eq_int, dispD, toCell, isTy, I.ty, isN, hp, hq', sh, lenD]
            · simp (disch := first | omega | (simp only [List.length_append, List.length_map, List.length_cons, List.length_nil]; omega)) [DefT.fn, evSs, evS, evE, evEs, evIt, Rs.R.bind, Rs.R.of, Rs.R.out, opM, prep, Op.deep, opD, sh_int, sh_str, sh_bl, sh_non, sh_tup, sh_lst, asgT, asgTs, asgI, truth, cmpI, ltD, fr_int, fr_str, fr_bl, fr_non, fr_nil, eq_int, dispD, toCell, isTy, I.ty, isN, B20_1, powD, modD, fdivD, l6, lt_big]
          · have hq' : ¬ ns.length < m := hq
            refine ⟨.bl false, [.lst (ns.map .int)], ?_, .inl ⟨rfl, ns, left, rfl, rfl, hn, hb⟩⟩
            simp [DefT.fn, evSs, evS, evE, evEs, evIt, Rs.R.bind, Rs.R.of, Rs.R.out, opM, prep, Op.deep, opD, sh_int, sh_str, sh_bl, sh_non, sh_tup, sh_lst, asgT, asgTs, asgI, truth, cmpI, ltD, fr_int, fr_str, fr_bl, fr_non, fr_nil, eq_int, dispD, toCell, isTy, I.ty, isN, hp, hq', sh, lenD]
        · refine ⟨.bl false, [.lst (ns.map .int)], ?_, .inl ⟨rfl, ns, left, rfl, rfl, hn, hb⟩⟩
          simp [DefT.fn, evSs, evS, evE, evEs, evIt, Rs.R.bind, Rs.R.of, Rs.R.out, opM, prep, Op.deep, opD, sh_int, sh_str, sh_bl, sh_non, sh_tup, sh_lst, asgT, asgTs, asgI, truth, cmpI, ltD, fr_int, fr_str, fr_bl, fr_non, fr_nil, eq_int, dispD, toCell, isTy, I.ty, isN, hp, sh, lenD])
    obtain ⟨ds, x4, x5, D, e2⟩ := second ns left none none hn hb
    refine ⟨ds, D, ?_⟩
    have hr := rng2 (a := (ns.length : Int)) (b := (m : Int)) ⟨by omega, by omega⟩ ⟨by omega, by omega⟩
    have ht : ((m : Int) - (ns.length : Int)).toNat = m - ns.length := by omega
    rw [ht] at hr
    have hc' : (1000000000000000000 : Int) ≤ (if c < 0 then -c else c) := by simpa using hc
    have h1 : evS Φ W (.asg (.nm 2) (.cell (.disp false .nil))) [some (.int c), some (.int (m : Int)), none, none, none, none] [] = some (.nx [some (.int c), some (.int (m : Int)), some (.obj 0), none, none, none] [.lst []]) := by simp [DefT.fn, evSs, evS, evE, evEs, evIt, Rs.R.bind, Rs.R.of, Rs.R.out, opM, prep, Op.deep, opD, sh_int, sh_str, sh_bl, sh_non, sh_tup, sh_lst, asgT, asgTs, asgI, truth, cmpI, ltD, fr_int, fr_str, fr_bl, fr_non, fr_nil, eq_int, dispD, toCell, isTy, I.ty, isN, ]
    have h2 : evS Φ W (.asg (.nm 3) (.op .abs (.cons (.var 0) .nil))) [some (.int c), some (.int (m : Int)), some (.obj 0), none, none, none] [.lst []] = some (.nx [some (.int c), some (.int (m : Int)), some (.obj 0), some (.int (if c < 0 then -c else c)), none, none] [.lst []]) := by simp [DefT.fn, evSs, evS, evE, evEs, evIt, Rs.R.bind, Rs.R.of, Rs.R.out, opM, prep, Op.deep, opD, sh_int, sh_str, sh_bl, sh_non, sh_tup, sh_lst, asgT, asgTs, asgI, truth, cmpI, ltD, fr_int, fr_str, fr_bl, fr_non, fr_nil, eq_int, dispD, toCell, isTy, I.ty, isN, ]
    have h3 : evE Φ (.op .ge (.cons (.var 3) (.cons (.op .pow (.cons (.const (.int 10)) (.cons (.const (.int 18)) .nil))) .nil))) [some (.int c), some (.int (m : Int)), some (.obj 0), some (.int (if c < 0 then -c else c)), none, none] [.lst []] = .ok (.bl true) [.lst []] := by simp [DefT.fn, evSs, evS, evE, evEs, evIt, Rs.R.bind, Rs.R.of, Rs.R.out, opM, prep, Op.deep, opD, sh_int, sh_str, sh_bl, sh_non, sh_tup, sh_lst, asgT, asgTs, asgI, truth, cmpI, ltD, fr_int, fr_str, fr_bl, fr_non, fr_nil, eq_int, dispD, toCell, isTy, I.ty, isN, powD, hc']
    have h4 : evS Φ W (.each (.nm 4) (.range (.cons (.op .len (.cons (.var 2) .nil)) (.cons (.var 1) .nil))) B20_0) [some (.int c), some (.int (m : Int)), some (.obj 0), some (.int left), none, none] [.lst (ns.map .int)] = some (.nx [some (.int c), some (.int (m : Int)), some (.obj 0), some (.int left), x4, x5] [.lst (ds.map .int)]) := by
      refine (s_range (vs := [.int (ns.length : Int), .int (m : Int)]) (M1 := [.lst (ns.map .int)]) (by simp [DefT.fn, evSs, evS, evE, evEs, evIt, Rs.R.bind, Rs.R.of, Rs.R.out, opM, prep, Op.deep, opD, sh_int, sh_str, sh_bl, sh_non, sh_tup, sh_lst, asgT, asgTs, asgI, truth, cmpI, ltD, fr_int, fr_str, fr_bl, fr_non, fr_nil, eq_int, dispD, toCell, isTy, I.ty, isN, sh, lenD]) hr).trans e2
    refine (ss_nx h1).trans ((ss_nx h2).trans ((ss_nx ((s_true h3 rfl).trans ?_)).trans ((ss_nx h4).trans ?_)))
    · rw [evSs, evS, e1]
      rfl
    · simp [DefT.fn, evSs, evS, evE, evEs, evIt, Rs.R.bind, Rs.R.of, Rs.R.out, opM, prep, Op.deep, opD, sh_int, sh_str, sh_bl, sh_non, sh_tup, sh_lst, asgT, asgTs, asgI, truth, cmpI, ltD, fr_int, fr_str, fr_bl, fr_non, fr_nil, eq_int, dispD, toCell, isTy, I.ty, isN, ]
  · obtain ⟨ds, x4, x5, D, e2⟩ := second [] (if c < 0 then -c else c) none none (Nat.zero_le _) (fun _ z => nomatch z)
    refine ⟨ds, D, ?_⟩
    have hc' : ¬ (1000000000000000000 : Int) ≤ (if c < 0 then -c else c) := by simpa using hc
    have h1 : evS Φ W (.asg (.nm 2) (.cell (.disp false .nil))) [some (.int c), some (.int (m : Int)), none, none, none, none] [] = some (.nx [some (.int c), some (.int (m : Int)), some (.obj 0), none, none, none] [.lst []]) := by simp [DefT.fn, evSs, evS, evE, evEs, evIt, Rs.R.bind, Rs.R.of, Rs.R.out, opM, prep, Op.deep, opD, sh_int, sh_str, sh_bl, sh_non, sh_tup, sh_lst, asgT, asgTs, asgI, truth, cmpI, ltD, fr_int, fr_str, fr_bl, fr_non, fr_nil, eq_int, dispD, toCell, isTy, I.ty, isN, ]
    have h2 : evS Φ W (.asg (.nm 3) (.op .abs (.cons (.var 0) .nil))) [some (.int c), some (.int (m : Int)), some (.obj 0), none, none, none] [.lst []] = some (.nx [some (.int c), some (.int (m : Int)), some (.obj 0), some (.int (if c < 0 then -c else c)), none, none] [.lst []]) := by simp [DefT.fn, evSs, evS, evE, evEs, evIt, Rs.R.bind, Rs.R.of, Rs.R.out, opM, prep, Op.deep, opD, sh_int, sh_str, sh_bl, sh_non, sh_tup, sh_lst, asgT, asgTs, asgI, truth, cmpI, ltD, fr_int, fr_str, fr_bl, fr_non, fr_nil, eq_int, dispD, toCell, isTy, I.ty, isN, ]
    have h3 : evE Φ (.op .ge (.cons (.var 3) (.cons (.op .pow (.cons (.const (.int 10)) (.cons (.const (.int 18)) .nil))) .nil))) [some (.int c), some (.int (m : Int)), some (.obj 0), some (.int (if c < 0 then -c else c)), none, none] [.lst []] = .ok (.bl false) [.lst []] := by
      simp [DefT.fn, evSs, evS, evE, evEs, evIt, Rs.R.bind, Rs.R.of, Rs.R.out, opM, prep, Op.deep, opD, sh_int, sh_str, sh_bl, sh_non, sh_tup, sh_lst, asgT, asgTs, asgI, truth, cmpI, ltD, fr_int, fr_str, fr_bl, fr_non, fr_nil, eq_int, dispD, toCell, isTy, I.ty, isN, powD]
      exact Int.not_le.mp hc'
    have h4 : evS Φ W (.each (.nm 4) (.range (.cons (.op .len (.cons (.var 2) .nil)) (.cons (.var 1) .nil))) B20_0) [some (.int c), some (.int (m : Int)), some (.obj 0), some (.int (if c < 0 then -c else c)), none, none] [.lst []] = some (.nx [some (.int c), some (.int (m : Int)), some (.obj 0), some (.int (if c < 0 then -c else c)), x4, x5] [.lst (ds.map .int)]) := by
      have hr := rng2 (a := (0 : Int)) (b := (m : Int)) ⟨by omega, by omega⟩ ⟨by omega, by omega⟩
      have ht : ((m : Int) - 0).toNat = m - ([] : List Int).length := by simp
      rw [ht] at hr
      exact (s_range (vs := [.int 0, .int (m : Int)]) (M1 := [.lst []]) (by simp [DefT.fn, evSs, evS, evE, evEs, evIt, Rs.R.bind, Rs.R.of, Rs.R.out, opM, prep, Op.deep, opD, sh_int, sh_str, sh_bl, sh_non, sh_tup, sh_lst, asgT, asgTs, asgI, truth, cmpI, ltD, fr_int, fr_str, fr_bl, fr_non, fr_nil, eq_int, dispD, toCell, isTy, I.ty, isN, sh, lenD]) hr).trans e2
    refine (ss_nx h1).trans ((ss_nx h2).trans ((ss_nx ((s_false h3 rfl).trans ?_)).trans ((ss_nx h4).trans ?_)))
    · rfl
    · simp [DefT.fn, evSs, evS, evE, evEs, evIt, Rs.R.bind, Rs.R.of, Rs.R.out, opM, prep, Op.deep, opD, sh_int, sh_str, sh_bl, sh_non, sh_tup, sh_lst, asgT, asgTs, asgI, truth, cmpI, ltD, fr_int, fr_str, fr_bl, fr_non, fr_nil, eq_int, dispD, toCell, isTy, I.ty, isN, ]
end K75

namespace K75
open PySem PySem.Spec PyProof.Rows L2 Rs
theorem dr_at {m : Nat} {ds : List Int} (D : Dr m ds) (hm : 0 < m) (at_ : Int) : ∃ d, ixD (.lst (ds.map .int)) (.int (at_ % (m : Int))) = some (.int d) ∧ 0 ≤ d ∧ d < 1000000 := by
  have h0 := Int.emod_nonneg at_ (show (m : Int) ≠ 0 by omega)
  have h1 := Int.emod_lt_of_pos at_ (show (0 : Int) < (m : Int) by omega)
  obtain ⟨x, e, hx⟩ := atI_mem (xs := ds.map I.int) h0 (by rw [List.length_map, D.l]; exact h1)
  obtain ⟨d, hd, rfl⟩ := List.mem_map.mp hx
  exact ⟨d, e, D.b d hd⟩
theorem len_dr {m : Nat} {ds : List Int} (D : Dr m ds) : lenD (.lst (ds.map .int)) = some (.int (m : Int)) := by
  show some (I.int ((ds.map I.int).length : Int)) = _
  rw [List.length_map, D.l]
theorem args3 (ds : List Int) (a b : Int) : I.flats [.lst (ds.map .int), .int a, .int b] = true := by
  show (I.flats (ds.map .int) && true) = true
  rw [flats_ints]; rfl
theorem args2 (ds : List Int) (a : Int) : I.flats [.lst (ds.map .int), .int a] = true := by
  show (I.flats (ds.map .int) && true) = true
  rw [flats_ints]; rfl
set_option maxHeartbeats 4000000 in
theorem draw_ok {W F m : Nat} {ds : List Int} {a many : Int} {M : Mem} (D : Dr m ds) (hm : 0 < m) (hF : 1 ≤ F) (hn : 0 < many) : ∃ v : Int, 0 ≤ v ∧ v < many ∧ evCall T.P W F 21 [.lst (ds.map .int), .int a, .int many] M = .ok (.int v) M := by
  obtain ⟨k, rfl⟩ : ∃ k, F = k + 1 := ⟨F - 1, by omega⟩
  obtain ⟨d, ed, d0, d1⟩ := dr_at D hm a
  have el := len_dr D
  have hm' : (0 : Int) < (m : Int) := by omega
  refine ⟨d / 7 % many, Int.emod_nonneg _ (by omega), Int.emod_lt_of_pos _ hn, ?_⟩
  rw [call0 P21 rfl rfl rfl (args3 ds a many)]
  generalize evCall T.P W k = Φ
  have e : evSs Φ W D21.fn.body (List.map some [I.lst (ds.map .int), .int a, .int many] ++ List.replicate (D21.fn.ns - D21.fn.np) none) [] = some (.ret (.int (d / 7 % many)) []) := by
    simp [DefT.fn, evSs, evS, evE, evEs, evIt, Rs.R.bind, Rs.R.of, Rs.R.out, opM, prep, Op.deep, opD, sh_int, sh_str, sh_bl, sh_non, sh_tup, sh_lst, asgT, asgTs, asgI, truth, cmpI, ltD, fr_int, fr_str, fr_bl, fr_non, fr_nil, eq_int, dispD, toCell, isTy, I.ty, isN, D21, el, ed, modD, fdivD, hn, hm, l7]
  rw [e]
  exact back_ret rfl
set_option maxHeartbeats 4000000 in
theorem number_ok {W F m : Nat} {ds : List Int} {a : Int} {M : Mem} (D : Dr m ds) (hm : 0 < m) (hF : 1 ≤ F) : ∃ v : Int, 0 ≤ v ∧ v ≤ 1000000006 ∧ evCall T.P W F 22 [.lst (ds.map .int), .int a] M = .ok (.int v) M := by
  obtain ⟨k, rfl⟩ : ∃ k, F = k + 1 := ⟨F - 1, by omega⟩
  obtain ⟨d, ed, d0, d1⟩ := dr_at D hm a
  obtain ⟨e, ee, e0, e1⟩ := dr_at D hm (a + 1)
  obtain ⟨f, ef, f0, f1⟩ := dr_at D hm (a + 2)
  have el := len_dr D
  have m1 := mulB (a := d) (b := 1000000) (by omega) (by decide)
  rw [call0 P22 rfl rfl rfl (args2 ds a)]
  generalize evCall T.P W k = Φ
  obtain ⟨g, hg⟩ : ∃ g : Int, g = d * 1000000 + e := ⟨_, rfl⟩
  have w0 := Int.emod_nonneg (f / 7) (show (3 : Int) ≠ 0 by omega)
  have w1 := Int.emod_lt_of_pos (f / 7) (show (0 : Int) < 3 by omega)
  obtain ⟨v, ev, v0, v1⟩ : ∃ v : Int, ixD (.lst [.int (g % 5), .int (1000000006 - g % 3), .int (g % 1000000007)]) (.int (f / 7 % 3)) = some (.int v) ∧ 0 ≤ v ∧ v ≤ 1000000006 := by
    have : f / 7 % 3 = 0 ∨ f / 7 % 3 = 1 ∨ f / 7 % 3 = 2 := by omega
    rcases this with h | h | h <;> rw [h]
    · exact ⟨_, rfl, by omega, by omega⟩
    · exact ⟨_, rfl, by omega, by omega⟩
    · exact ⟨_, rfl, by omega, by omega⟩
  refine ⟨v, v0, v1, ?_⟩
  have e : evSs Φ W D22.fn.body (List.map some [I.lst (ds.map .int), .int a] ++ List.replicate (D22.fn.ns - D22.fn.np) none) [] = some (.ret (.int v) []) := by
    simp [DefT.fn, evSs, evS, evE, evEs, evIt, Rs.R.bind, Rs.R.of, Rs.R.out, opM, prep, Op.deep, opD, sh_int, sh_str, sh_bl, sh_non, sh_tup, sh_lst, asgT, asgTs, asgI, truth, cmpI, ltD, fr_int, fr_str, fr_bl, fr_non, fr_nil, eq_int, dispD, toCell, isTy, I.ty, isN, D22, el, ed, ee, ef, modD, fdivD, hm, l7, powD, m1, add_int, subD, ← hg, ev]
  rw [e]
  exact back_ret rfl
end K75

namespace K75
open PySem PySem.Spec PyProof.Rows L2 Rs
/-! ### paths, ends -/
def pI (p : List Int) : I := .tup (p.map .int)
structure PthOk (cs : List Int) (p : List Int) : Prop where
  l : (p.length : Int) ∈ cs
  b : ∀ x ∈ p, 0 ≤ x ∧ x < 10
theorem P23 : T.P 23 = some D23.fn := rfl
theorem P25 : T.P 25 = some D25.fn := rfl
theorem ix_ints {l : List Int} {k : Int} (h0 : 0 ≤ k) (h1 : k < (l.length : Int)) : ∃ w, ixD (.lst (l.map .int)) (.int k) = some (.int w) ∧ w ∈ l := by
  obtain ⟨x, e, m⟩ := atI_mem (xs := l.map I.int) h0 (by simpa using h1)
  obtain ⟨w, hw, rfl⟩ := List.mem_map.mp m
  exact ⟨w, e, hw⟩
theorem compL_go {g : I → Mem → R (Option I)} {Inv : List I → Mem → Prop} : ∀ (xs acc : List I) (M : Mem), Inv acc M → acc.length + xs.length ≤ sizeLine → (∀ x ∈ xs, ∀ acc M, Inv acc M → ∃ d M', g x M = .ok (some d) M' ∧ Inv (acc ++ [d]) M') →
    ∃ r M', compL g xs acc M = .ok r M' ∧ Inv r M' ∧ r.length = acc.length + xs.length
  | [], acc, M, h, _, _ => ⟨acc, M, rfl, h, rfl⟩
  | x :: xs, acc, M, h, hl, step => by
    obtain ⟨d, M1, e1, h1⟩ := step x List.mem_cons_self acc M h
    simp only [List.length_cons] at hl
    obtain ⟨r, M2, e2, h2, l2⟩ := compL_go xs (acc ++ [d]) M1 h1 (by rw [List.length_append, List.length_singleton]; omega) fun y hy => step y (List.mem_cons_of_mem _ hy)
    refine ⟨r, M2, ?_, h2, by rw [l2, List.length_append, List.length_singleton, List.length_cons]; omega⟩
    unfold compL
    rw [e1]
    dsimp only
    rw [if_pos (by omega)]
    exact e2
theorem ev_comp {Φ : Oracle} {own : List Nat} {elt : C} {g : Tg} {it : Rs.It} {ifs : Cs} {τ : Rs.Env} {M M1 M2 : Mem} {xs r : List I} (h : evIt Φ it τ M = .ok (.vals xs) M1) (hc : compL (compP Φ own elt g ifs τ) xs [] M1 = .ok r M2) : evE Φ (.comp own elt g it ifs) τ M = .ok (.lst r) M2 := by
  rw [evE, h]
  unfold compP at hc
  show (compL _ xs [] M1).bind _ = _
  rw [hc]; rfl
set_option maxHeartbeats 4000000 in
theorem path_ok {W F m : Nat} {ds cs : List Int} {a : Int} {M : Mem} (D : Dr m ds) (hm : 0 < m) (hF : 2 ≤ F) (hc : cs ≠ []) (hcs : ∀ c ∈ cs, 0 ≤ c ∧ c ≤ 10) : ∃ p : List Int, PthOk cs p ∧ evCall T.P W F 23 [.lst (ds.map .int), .int a, .lst (cs.map .int)] M = .ok (pI p) M := by
  obtain ⟨k, rfl⟩ : ∃ k, F = k + 1 := ⟨F - 1, by omega⟩
  have hd := fun (a many : Int) (M : Mem) (hn : 0 < many) => draw_ok (W := W) (F := k) (a := a) (many := many) (M := M) D hm (by omega) hn
  have hfl : I.flats [.lst (ds.map .int), .int a, .lst (cs.map .int)] = true := by
    show (I.flats (ds.map .int) && (true && (I.flats (cs.map .int) && true))) = true
    rw [flats_ints, flats_ints]; rfl
  rw [call0 P23 rfl rfl rfl hfl]
  generalize evCall T.P W k = Φ at hd
  have cl : (0 : Int) < (cs.length : Int) := by
    have := List.length_pos_iff.mpr hc
    omega
  obtain ⟨v, v0, v1, ev⟩ := hd a (cs.length : Int) [] cl
  obtain ⟨n, en, hn⟩ := ix_ints v0 v1
  obtain ⟨n0, n1⟩ := hcs n hn
  let τ : Rs.Env := [some (.lst (ds.map .int)), some (.int a), some (.lst (cs.map .int)), none]
  obtain ⟨r, M1, er, ⟨p, rfl, rfl, hp⟩, hl⟩ := compL_go (g := compP Φ [3] (.call 21 (.cons (.var 0) (.cons (.op .add (.cons (.op .add (.cons (.var 1) (.cons (.const (.int 1)) .nil))) (.cons (.var 3) .nil))) (.cons (.const (.int 10)) .nil)))) (.nm 3) .nil τ)
    (Inv := fun acc M => ∃ p : List Int, M = [] ∧ acc = p.map .int ∧ ∀ x ∈ p, 0 ≤ x ∧ x < 10) ((List.range n.toNat).map fun k : Nat => I.int (k : Int)) [] [] ⟨[], rfl, rfl, (fun _ z => nomatch z)⟩ (by rw [sl24]; simp; omega) (by
      rintro x hx acc M ⟨p, rfl, rfl, hp⟩
      obtain ⟨i, _, rfl⟩ := List.mem_map.mp hx
      obtain ⟨u, u0, u1, eu⟩ := hd (a + 1 + (i : Int)) 10 [] (by decide)
      refine ⟨.int u, [], ?_, p ++ [u], rfl, by simp, fun x hx => ?_⟩
      · simp [DefT.fn, evSs, evS, evE, evEs, evIt, Rs.R.bind, Rs.R.of, Rs.R.out, opM, prep, Op.deep, opD, sh_int, sh_str, sh_bl, sh_non, sh_tup, sh_lst, asgT, asgTs, asgI, truth, cmpI, ltD, fr_int, fr_str, fr_bl, fr_non, fr_nil, eq_int, dispD, toCell, isTy, I.ty, isN, τ, compP, wipeE, evT, add_int, eu]
      · rcases List.mem_append.mp hx with w | w
        · exact hp x w
        · rw [List.mem_singleton.mp w]; exact ⟨u0, u1⟩)
  have e1 : evIt Φ (.range (.cons (.op .ix (.cons (.var 2) (.cons (.call 21 (.cons (.var 0) (.cons (.var 1) (.cons (.op .len (.cons (.var 2) .nil)) .nil)))) .nil))) .nil)) τ [] = .ok (.vals ((List.range n.toNat).map fun k : Nat => I.int (k : Int))) [] := by
    refine ev_range (vs := [.int n]) (M1 := []) ?_ (rng1 n0 (by omega))
    simp [DefT.fn, evSs, evS, evE, evEs, evIt, Rs.R.bind, Rs.R.of, Rs.R.out, opM, prep, Op.deep, opD, sh_int, sh_str, sh_bl, sh_non, sh_tup, sh_lst, asgT, asgTs, asgI, truth, cmpI, ltD, fr_int, fr_str, fr_bl, fr_non, fr_nil, eq_int, dispD, toCell, isTy, I.ty, isN, τ, lenD, ev, en]
  have e2 := ev_comp e1 er
  refine ⟨p, ⟨?_, hp⟩, ?_⟩
  · simp only [List.length_map, List.length_range, List.length_nil] at hl
    have : (p.length : Int) = n := by omega
    rw [this]; exact hn
  · have e : evSs Φ W D23.fn.body (List.map some [I.lst (ds.map .int), .int a, .lst (cs.map .int)] ++ List.replicate (D23.fn.ns - D23.fn.np) none) [] = some (.ret (pI p) []) := by
      show evSs Φ W (.cons (.ret (.op .tuple (.cons (.comp [3] _ (.nm 3) _ .nil) .nil))) .nil) τ [] = _
      rw [evSs, evS, evE, evEs, e2]
      rfl
    rw [e]
    exact back_ret (show I.flats (p.map .int) = true from flats_ints p)
/-! ### ends -/
abbrev EndV := Option (Str × Int × Int)
def eI : EndV → I
  | none => .tup []
  | some (w, a, b) => .tup [.str w, .int a, .int b]
def num (n : Int) : Prop := 0 ≤ n ∧ n ≤ 1000000006
def ENDS : List Str := ["good", "bad", "off"]
def EndOk (e : EndV) : Prop := ∀ w a b, e = some (w, a, b) → w ∈ ENDS ∧ num a ∧ num b
theorem q_go : eqD (.str "good") (.str "off") = some false := by decide +kernel
theorem q_ba : eqD (.str "bad") (.str "off") = some false := by decide +kernel
theorem q_of : eqD (.str "off") (.str "off") = some true := by decide +kernel
set_option maxHeartbeats 4000000 in
theorem end_ok {W F m : Nat} {ds : List Int} {a : Int} {ended : Bool} {M : Mem} (D : Dr m ds) (hm : 0 < m) (hF : 2 ≤ F) : ∃ e : EndV, EndOk e ∧ (e = none ↔ ended = false) ∧ evCall T.P W F 25 [.lst (ds.map .int), .int a, .bl ended] M = .ok (eI e) M := by
  obtain ⟨k, rfl⟩ : ∃ k, F = k + 1 := ⟨F - 1, by omega⟩
  have hd := fun (a many : Int) (M : Mem) (hn : 0 < many) => draw_ok (W := W) (F := k) (a := a) (many := many) (M := M) D hm (by omega) hn
  have hN := fun (a : Int) (M : Mem) => number_ok (W := W) (F := k) (a := a) (M := M) D hm (by omega)
  have hfl : I.flats [.lst (ds.map .int), .int a, .bl ended] = true := by
    show (I.flats (ds.map .int) && true) = true
    rw [flats_ints]; rfl
  rw [call0 P25 rfl rfl rfl hfl]
  generalize evCall T.P W k = Φ at hd hN
  suffices ∃ e : EndV, EndOk e ∧ (e = none ↔ ended = false) ∧ evSs Φ W D25.fn.body (List.map some [I.lst (ds.map .int), .int a, .bl ended] ++ List.replicate (D25.fn.ns - D25.fn.np) none) [] = some (.ret (eI e) []) by
    obtain ⟨e, h1, h2, h3⟩ := this
    refine ⟨e, h1, h2, ?_⟩
    rw [h3]
    refine back_ret ?_
    cases e with
    | none => rfl
    | some t => obtain ⟨w, a, b⟩ := t; rfl
  cases ended with
  | false =>
    refine ⟨none, (fun _ _ _ z => nomatch z), by simp, ?_⟩
    simp [DefT.fn, evSs, evS, evE, evEs, evIt, Rs.R.bind, Rs.R.of, Rs.R.out, opM, prep, Op.deep, opD, sh_int, sh_str, sh_bl, sh_non, sh_tup, sh_lst, asgT, asgTs, asgI, truth, cmpI, ltD, fr_int, fr_str, fr_bl, fr_non, fr_nil, eq_int, dispD, toCell, isTy, I.ty, isN, D25, eI]
  | true =>
    obtain ⟨v, v0, v1, ev⟩ := hd a 3 [] (by decide)
    obtain ⟨x, x0, x1, ex⟩ := hN (a + 1) []
    obtain ⟨y, y0, y1, ey⟩ := hN (a + 4) []
    have : v = 0 ∨ v = 1 ∨ v = 2 := by omega
    rcases this with h | h | h <;> subst h
    · have w : ixD (.lst [.str "good", .str "bad", .str "off"]) (.int 0) = some (.str "good") := rfl
      have z : ixD (.lst [.int x, .int 0]) (.int 0) = some (.int x) := rfl
      refine ⟨some ("good", x, y), fun w a b h => by cases h; exact ⟨by simp [ENDS], ⟨x0, x1⟩, ⟨y0, y1⟩⟩, by simp, ?_⟩
      simp [DefT.fn, evSs, evS, evE, evEs, evIt, Rs.R.bind, Rs.R.of, Rs.R.out, opM, prep, Op.deep, opD, sh_int, sh_str, sh_bl, sh_non, sh_tup, sh_lst, asgT, asgTs, asgI, truth, cmpI, ltD, fr_int, fr_str, fr_bl, fr_non, fr_nil, eq_int, dispD, toCell, isTy, I.ty, isN, D25, eI, ev, w, add_int, ex, ey, q_go, z]
    · have w : ixD (.lst [.str "good", .str "bad", .str "off"]) (.int 1) = some (.str "bad") := rfl
      have z : ixD (.lst [.int x, .int 0]) (.int 0) = some (.int x) := rfl
      refine ⟨some ("bad", x, y), fun w a b h => by cases h; exact ⟨by simp [ENDS], ⟨x0, x1⟩, ⟨y0, y1⟩⟩, by simp, ?_⟩
      simp [DefT.fn, evSs, evS, evE, evEs, evIt, Rs.R.bind, Rs.R.of, Rs.R.out, opM, prep, Op.deep, opD, sh_int, sh_str, sh_bl, sh_non, sh_tup, sh_lst, asgT, asgTs, asgI, truth, cmpI, ltD, fr_int, fr_str, fr_bl, fr_non, fr_nil, eq_int, dispD, toCell, isTy, I.ty, isN, D25, eI, ev, w, add_int, ex, ey, q_ba, z]
    · have w : ixD (.lst [.str "good", .str "bad", .str "off"]) (.int 2) = some (.str "off") := rfl
      have z : ixD (.lst [.int x, .int 0]) (.int 1) = some (.int 0) := rfl
      refine ⟨some ("off", 0, y), fun w a b h => by cases h; exact ⟨by simp [ENDS], ⟨by decide, by decide⟩, ⟨y0, y1⟩⟩, by simp, ?_⟩
      simp [DefT.fn, evSs, evS, evE, evEs, evIt, Rs.R.bind, Rs.R.of, Rs.R.out, opM, prep, Op.deep, opD, sh_int, sh_str, sh_bl, sh_non, sh_tup, sh_lst, asgT, asgTs, asgI, truth, cmpI, ltD, fr_int, fr_str, fr_bl, fr_non, fr_nil, eq_int, dispD, toCell, isTy, I.ty, isN, D25, eI, ev, w, add_int, ex, ey, q_of, z]
end K75

namespace K75
open PySem PySem.Spec PyProof.Rows L2 Rs
structure StV where
  room : Int
  slots : List Int
  wants : Int
  rounds : Int
  called : Bool
def stI : Option StV → I
  | none => .tup []
  | some s => .tup [.int s.room, .tup (s.slots.map .int), .int s.wants, .int s.rounds, .bl s.called]
structure StOk (v : StV) : Prop where
  r : num v.room
  s : ∀ x ∈ v.slots, num x
  l : v.slots.length ≤ 40
  w : num v.wants
  o : num v.rounds
theorem P26 : T.P 26 = some D26.fn := rfl
theorem addT {a b : List I} (h : a.length + b.length ≤ 1000) : addD (.tup a) (.tup b) = some (.tup (a ++ b)) := by
  show (if a.length + b.length ≤ sizeLine then some (I.tup (a ++ b)) else none) = _
  rw [if_pos (by rw [sl24]; omega)]
set_option maxHeartbeats 8000000 in
theorem state_ok {W F m : Nat} {ds : List Int} {a : Int} {wide : Bool} {M : Mem} (D : Dr m ds) (hm : 0 < m) (hF : 2 ≤ F) : ∃ s : StV, StOk s ∧ evCall T.P W F 26 [.lst (ds.map .int), .int a, .bl wide] M = .ok (stI (some s)) M := by
  obtain ⟨k, rfl⟩ : ∃ k, F = k + 1 := ⟨F - 1, by omega⟩
  have hd := fun (a many : Int) (M : Mem) (hn : 0 < many) => draw_ok (W := W) (F := k) (a := a) (many := many) (M := M) D hm (by omega) hn
  have hN := fun (a : Int) (M : Mem) => number_ok (W := W) (F := k) (a := a) (M := M) D hm (by omega)
  have hfl : I.flats [.lst (ds.map .int), .int a, .bl wide] = true := by
    show (I.flats (ds.map .int) && true) = true
    rw [flats_ints]; rfl
  rw [call0 P26 rfl rfl rfl hfl]
  generalize evCall T.P W k = Φ at hd hN
  suffices ∃ s : StV, StOk s ∧ evSs Φ W D26.fn.body (List.map some [I.lst (ds.map .int), .int a, .bl wide] ++ List.replicate (D26.fn.ns - D26.fn.np) none) [] = some (.ret (stI (some s)) []) by
    obtain ⟨s, h1, h2⟩ := this
    refine ⟨s, h1, ?_⟩
    rw [h2]
    refine back_ret ?_
    show (true && (I.flats (s.slots.map .int) && true)) = true
    rw [flats_ints]; rfl
  obtain ⟨v, v0, v1, ev⟩ := hd a 4 [] (by decide)
  let wd : Int := if wide then 1 else 0
  obtain ⟨n, en, n0, n1⟩ : ∃ n : Int, ixD (.lst [.int 0, .int 1, .int 3, .int (32 + 8 * wd)]) (.int v) = some (.int n) ∧ 0 ≤ n ∧ n ≤ 40 := by
    have hwd : 0 ≤ wd ∧ wd ≤ 1 := by show 0 ≤ (if wide then (1 : Int) else 0) ∧ _; cases wide <;> decide
    have : v = 0 ∨ v = 1 ∨ v = 2 ∨ v = 3 := by omega
    rcases this with rfl | rfl | rfl | rfl
    · exact ⟨0, rfl, by decide, by decide⟩
    · exact ⟨1, rfl, by decide, by decide⟩
    · exact ⟨3, rfl, by decide, by decide⟩
    · exact ⟨_, rfl, by omega, by omega⟩
  have m8 := mulB (a := 8) (b := wd) (by decide) (by show (if wide then (1 : Int) else 0).natAbs < _; cases wide <;> decide)
  let τ : Rs.Env := [some (.lst (ds.map .int)), some (.int a), some (.bl wide), some (.int n), none, none, none, none]
  obtain ⟨r, M1, er, ⟨p, rfl, rfl, hp⟩, hl⟩ := compL_go (g := compP Φ [7] (.call 22 (.cons (.var 0) (.cons (.op .add (.cons (.op .add (.cons (.var 1) (.cons (.const (.int 5)) .nil))) (.cons (.var 7) .nil))) .nil))) (.nm 7) .nil τ)
    (Inv := fun acc M => ∃ p : List Int, M = [] ∧ acc = p.map .int ∧ ∀ x ∈ p, num x) ((List.range n.toNat).map fun k : Nat => I.int (k : Int)) [] [] ⟨[], rfl, rfl, (fun _ z => nomatch z)⟩ (by rw [sl24]; simp; omega) (by
      rintro x hx acc M ⟨p, rfl, rfl, hp⟩
      obtain ⟨i, _, rfl⟩ := List.mem_map.mp hx
      obtain ⟨u, u0, u1, eu⟩ := hN (a + 5 + (i : Int)) []
      refine ⟨.int u, [], ?_, p ++ [u], rfl, by simp, fun x hx => ?_⟩
      · simp [DefT.fn, evSs, evS, evE, evEs, evIt, Rs.R.bind, Rs.R.of, Rs.R.out, opM, prep, Op.deep, opD, sh_int, sh_str, sh_bl, sh_non, sh_tup, sh_lst, asgT, asgTs, asgI, truth, cmpI, ltD, fr_int, fr_str, fr_bl, fr_non, fr_nil, eq_int, dispD, toCell, isTy, I.ty, isN, τ, compP, wipeE, evT, add_int, eu]
      · rcases List.mem_append.mp hx with w | w
        · exact hp x w
        · rw [List.mem_singleton.mp w]; exact ⟨u0, u1⟩)
  have e1 : evIt Φ (.range (.cons (.var 3) .nil)) τ [] = .ok (.vals ((List.range n.toNat).map fun k : Nat => I.int (k : Int))) [] := by
    refine ev_range (vs := [.int n]) (M1 := []) ?_ (rng1 n0 (by omega))
    simp [DefT.fn, evSs, evS, evE, evEs, evIt, Rs.R.bind, Rs.R.of, Rs.R.out, opM, prep, Op.deep, opD, sh_int, sh_str, sh_bl, sh_non, sh_tup, sh_lst, asgT, asgTs, asgI, truth, cmpI, ltD, fr_int, fr_str, fr_bl, fr_non, fr_nil, eq_int, dispD, toCell, isTy, I.ty, isN, τ]
  have e2 := ev_comp e1 er
  have hpl : p.length ≤ 40 := by
    simp only [List.length_map, List.length_range, List.length_nil] at hl
    omega
  obtain ⟨x, x0, x1, ex⟩ := hd (a + 3) 2 [] (by decide)
  have h1 : evS Φ W (.asg (.nm 3) (.op .ix (.cons (.disp false (.cons (.const (.int 0)) (.cons (.const (.int 1)) (.cons (.const (.int 3)) (.cons (.op .add (.cons (.const (.int 32)) (.cons (.op .mul (.cons (.const (.int 8)) (.cons (.op .int (.cons (.var 2) .nil)) .nil))) .nil))) .nil))))) (.cons (.call 21 (.cons (.var 0) (.cons (.var 1) (.cons (.const (.int 4)) .nil)))) .nil)))) [some (.lst (ds.map .int)), some (.int a), some (.bl wide), none, none, none, none, none] [] = some (.nx τ []) := by
    have hb : (if wide = true then (1 : Int) else 0) = wd := rfl
    simp [DefT.fn, evSs, evS, evE, evEs, evIt, Rs.R.bind, Rs.R.of, Rs.R.out, opM, prep, Op.deep, opD, sh_int, sh_str, sh_bl, sh_non, sh_tup, sh_lst, asgT, asgTs, asgI, truth, cmpI, ltD, fr_int, fr_str, fr_bl, fr_non, fr_nil, eq_int, dispD, toCell, isTy, I.ty, isN, hb, m8, add_int, ev, en, τ]
  have h2 : evS Φ W (.asg (.nm 4) (.op .tuple (.cons (.comp [7] (.call 22 (.cons (.var 0) (.cons (.op .add (.cons (.op .add (.cons (.var 1) (.cons (.const (.int 5)) .nil))) (.cons (.var 7) .nil))) .nil))) (.nm 7) (.range (.cons (.var 3) .nil)) .nil) .nil))) τ [] = some (.nx [some (.lst (ds.map .int)), some (.int a), some (.bl wide), some (.int n), some (.tup (p.map .int)), none, none, none] []) := by
    rw [evS, evE, evEs, e2]
    rfl
  cases wide with
  | true =>
    obtain ⟨y, y0, y1, ey⟩ := hN (a + 2) []
    obtain ⟨z, z0, z1, ez⟩ := hN (a + 4) []
    obtain ⟨q, q0, q1, eq⟩ := hN (a + 1) []
    refine ⟨⟨q, p, y, z, (x == 1)⟩, ⟨⟨q0, q1⟩, hp, hpl, ⟨y0, y1⟩, ⟨z0, z1⟩⟩, ?_⟩
    refine (ss_nx h1).trans ((ss_nx h2).trans ?_)
    simp [DefT.fn, evSs, evS, evE, evEs, evIt, Rs.R.bind, Rs.R.of, Rs.R.out, opM, prep, Op.deep, opD, sh_int, sh_str, sh_bl, sh_non, sh_tup, sh_lst, asgT, asgTs, asgI, truth, cmpI, ltD, fr_int, fr_str, fr_bl, fr_non, fr_nil, eq_int, dispD, toCell, isTy, I.ty, isN, ex, ey, ez, eq, add_int, addT, stI]
  | false =>
    obtain ⟨y, y0, y1, ey⟩ := hd (a + 1) 6 [] (by decide)
    obtain ⟨z, z0, z1, ez⟩ := hd (a + 2) 17 [] (by decide)
    obtain ⟨q, q0, q1, eq⟩ := hd (a + 4) 160 [] (by decide)
    refine ⟨⟨q, p, y, z, (x == 1)⟩, ⟨⟨q0, by show q ≤ _; omega⟩, hp, hpl, ⟨y0, by show y ≤ _; omega⟩, ⟨z0, by show z ≤ _; omega⟩⟩, ?_⟩
    refine (ss_nx h1).trans ((ss_nx h2).trans ?_)
    simp [DefT.fn, evSs, evS, evE, evEs, evIt, Rs.R.bind, Rs.R.of, Rs.R.out, opM, prep, Op.deep, opD, sh_int, sh_str, sh_bl, sh_non, sh_tup, sh_lst, asgT, asgTs, asgI, truth, cmpI, ltD, fr_int, fr_str, fr_bl, fr_non, fr_nil, eq_int, dispD, toCell, isTy, I.ty, isN, ex, ey, ez, eq, add_int, addT, stI]
end K75

namespace K75
open PySem PySem.Spec PyProof.Rows L2 Rs
abbrev NoV := Int × Str × Int
def noI (n : NoV) : I := .tup [.int n.1, .str n.2.1, .int n.2.2]
def NOTES : List Str := ["tell", "do", "done", "undo", "undone"]
structure NoOk (n : NoV) : Prop where
  h : num n.1
  w : n.2.1 ∈ NOTES
  n : num n.2.2
theorem P27 : T.P 27 = some D27.fn := rfl
theorem fit_s {s : Str} (h : PyData.canLay0 (.str s) = true) : (I.str s).fit = true := (Fit.mono (fit_str (n := 0) h) (by decide)).fit
theorem eq_s {a b : Str} (ha : PyData.canLay0 (.str a) = true) (hb : PyData.canLay0 (.str b) = true) : eqD (.str a) (.str b) = some (a == b) := by
  unfold eqD
  rw [fit_s ha, fit_s hb]; rfl
theorem notes_lay : ∀ w ∈ NOTES, PyData.canLay0 (.str w) = true := by decide +kernel
theorem tell_lay : PyData.canLay0 (.str "tell") = true := by decide +kernel
theorem ix_note {k : Int} (h0 : 0 ≤ k) (h1 : k < 5) : ∃ w, ixD (.lst [.str "tell", .str "do", .str "done", .str "undo", .str "undone"]) (.int k) = some (.str w) ∧ w ∈ NOTES := by
  obtain ⟨x, e, m⟩ := atI_mem (xs := NOTES.map I.str) h0 h1
  obtain ⟨w, hw, rfl⟩ := List.mem_map.mp m
  exact ⟨w, e, hw⟩
theorem nos_flat (ns : List NoV) : I.flats (ns.map noI) = true := flats_of fun x hx => by
  obtain ⟨n, _, rfl⟩ := List.mem_map.mp hx
  rfl
set_option maxHeartbeats 8000000 in
theorem diary_ok {W F m : Nat} {ds : List Int} {a many : Int} {wide : Bool} {M : Mem} (D : Dr m ds) (hm : 0 < m) (hF : 2 ≤ F) (n0 : 0 ≤ many) (n1 : many ≤ 100) : ∃ ns : List NoV, (∀ n ∈ ns, NoOk n) ∧ (ns.length : Int) ≤ many ∧ evCall T.P W F 27 [.lst (ds.map .int), .int a, .int many, .bl wide] M = .ok (.tup (ns.map noI)) M := by
  obtain ⟨k, rfl⟩ : ∃ k, F = k + 1 := ⟨F - 1, by omega⟩
  have hd := fun (a many : Int) (M : Mem) (hn : 0 < many) => draw_ok (W := W) (F := k) (a := a) (many := many) (M := M) D hm (by omega) hn
  have hN := fun (a : Int) (M : Mem) => number_ok (W := W) (F := k) (a := a) (M := M) D hm (by omega)
  have hfl : I.flats [.lst (ds.map .int), .int a, .int many, .bl wide] = true := by
    show (I.flats (ds.map .int) && true) = true
    rw [flats_ints]; rfl
  rw [call0 P27 rfl rfl rfl hfl]
  generalize evCall T.P W k = Φ at hd hN
  let ws : I := .lst [.str "tell", .str "do", .str "done", .str "undo", .str "undone"]
  obtain ⟨τ', M', e, ns, x6, x7, x8, rfl, rfl, hb, hl⟩ := each_go (g := .nm 6) (b := evSs Φ W B27_0)
    (Inv := fun j τ M => ∃ (ns : List NoV) (x6 x7 x8 : Option I), M = [.lst (ns.map noI)] ∧ τ = [some (.lst (ds.map .int)), some (.int a), some (.int many), some (.bl wide), some ws, some (.obj 0), x6, x7, x8] ∧ (∀ n ∈ ns, NoOk n) ∧ ns.length = j)
    ((List.range many.toNat).map fun k : Nat => I.int (k : Int)) 0 [some (.lst (ds.map .int)), some (.int a), some (.int many), some (.bl wide), some ws, some (.obj 0), none, none, none] [.lst []] ⟨[], none, none, none, rfl, rfl, (fun _ z => nomatch z), rfl⟩ (by
      rintro i τ M y hy ⟨ns, x6, x7, x8, rfl, rfl, hb, hl⟩
      have hi : i < many.toNat := by simpa using (List.getElem?_eq_some_iff.mp hy).1
      rw [List.getElem?_map, List.getElem?_range hi] at hy
      cases hy
      have m9 := mulB (a := 9) (b := (i : Int)) (by decide) (by omega)
      obtain ⟨v, v0, v1, ev⟩ := hd (a + 9 * (i : Int)) 5 [.lst (ns.map noI)] (by decide)
      obtain ⟨w, ew, hw⟩ := ix_note v0 v1
      obtain ⟨q, q0, q1, eq⟩ := hd (a + 9 * (i : Int) + 1) 24 [.lst (ns.map noI)] (by decide)
      obtain ⟨z, z0, z1, ez⟩ := hN (a + 9 * (i : Int) + 2) [.lst (ns.map noI)]
      obtain ⟨h, h0, h1, eh⟩ := hN (a + 9 * (i : Int) + 5) [.lst (ns.map noI)]
      have es := eq_s (notes_lay w hw) tell_lay
      have hsz : ns.length < sizeLine := by rw [sl24]; omega
      have fin : ∀ (u : Int), num u → evSs Φ W B27_0 [some (.lst (ds.map .int)), some (.int a), some (.int many), some (.bl wide), some ws, some (.obj 0), some (.int (i : Int)), x7, x8] [.lst (ns.map noI)] = some (.nx [some (.lst (ds.map .int)), some (.int a), some (.int many), some (.bl wide), some ws, some (.obj 0), some (.int (i : Int)), some (.str w), some (.int u)] [.lst ((ns ++ [(h, w, u)]).map noI)]) →
          ∃ τ1 τ2 M2, asgT (.nm 6) (.int (i : Int)) [some (.lst (ds.map .int)), some (.int a), some (.int many), some (.bl wide), some ws, some (.obj 0), x6, x7, x8] = some τ1 ∧ evSs Φ W B27_0 τ1 [.lst (ns.map noI)] = some (.nx τ2 M2) ∧ ∃ (ns' : List NoV) (x6 x7 x8 : Option I), M2 = [.lst (ns'.map noI)] ∧ τ2 = [some (.lst (ds.map .int)), some (.int a), some (.int many), some (.bl wide), some ws, some (.obj 0), x6, x7, x8] ∧ (∀ n ∈ ns', NoOk n) ∧ ns'.length = 0 + i + 1 := fun u hu e =>
        ⟨_, _, _, by simp [asgT, asgI], e, ns ++ [(h, w, u)], _, _, _, rfl, rfl, fun n hn => by
          rcases List.mem_append.mp hn with r | r
          · exact hb n r
          · rw [List.mem_singleton.mp r]; exact ⟨⟨h0, h1⟩, hw, hu⟩, by simp; omega⟩
      cases wide with
      | true =>
        refine fin z ⟨z0, z1⟩ ?_
        simp [DefT.fn, evSs, evS, evE, evEs, evIt, Rs.R.bind, Rs.R.of, Rs.R.out, opM, prep, Op.deep, opD, sh_int, sh_str, sh_bl, sh_non, sh_tup, sh_lst, asgT, asgTs, asgI, truth, cmpI, ltD, fr_int, fr_str, fr_bl, fr_non, fr_nil, eq_int, dispD, toCell, isTy, I.ty, isN, B27_0, ws, m9, add_int, ev, ew, eq, ez, eh, hsz, noI]
      | false =>
        by_cases ht : (w == "tell") = true
        · rw [ht] at es
          refine fin z ⟨z0, z1⟩ ?_
          simp [DefT.fn, evSs, evS, evE, evEs, evIt, Rs.R.bind, Rs.R.of, Rs.R.out, opM, prep, Op.deep, opD, sh_int, sh_str, sh_bl, sh_non, sh_tup, sh_lst, asgT, asgTs, asgI, truth, cmpI, ltD, fr_int, fr_str, fr_bl, fr_non, fr_nil, eq_int, dispD, toCell, isTy, I.ty, isN, B27_0, ws, m9, add_int, ev, ew, eq, ez, eh, hsz, noI, es]
        · rw [eq_false_of_ne_true ht] at es
          refine fin q ⟨q0, by omega⟩ ?_
          simp [DefT.fn, evSs, evS, evE, evEs, evIt, Rs.R.bind, Rs.R.of, Rs.R.out, opM, prep, Op.deep, opD, sh_int, sh_str, sh_bl, sh_non, sh_tup, sh_lst, asgT, asgTs, asgI, truth, cmpI, ltD, fr_int, fr_str, fr_bl, fr_non, fr_nil, eq_int, dispD, toCell, isTy, I.ty, isN, B27_0, ws, m9, add_int, ev, ew, eq, ez, eh, hsz, noI, es])
  rw [Nat.zero_add, List.length_map, List.length_range] at hl
  refine ⟨ns, hb, by omega, ?_⟩
  have e1 : evSs Φ W D27.fn.body (List.map some [I.lst (ds.map .int), .int a, .int many, .bl wide] ++ List.replicate (D27.fn.ns - D27.fn.np) none) [] = some (.ret (.tup (ns.map noI)) [.lst (ns.map noI)]) := by
    have h1 : evS Φ W (.asg (.nm 4) (.disp false (.cons (.const (.str "tell")) (.cons (.const (.str "do")) (.cons (.const (.str "done")) (.cons (.const (.str "undo")) (.cons (.const (.str "undone")) .nil))))))) [some (.lst (ds.map .int)), some (.int a), some (.int many), some (.bl wide), none, none, none, none, none] [] = some (.nx [some (.lst (ds.map .int)), some (.int a), some (.int many), some (.bl wide), some ws, none, none, none, none] []) := by simp [DefT.fn, evSs, evS, evE, evEs, evIt, Rs.R.bind, Rs.R.of, Rs.R.out, opM, prep, Op.deep, opD, sh_int, sh_str, sh_bl, sh_non, sh_tup, sh_lst, asgT, asgTs, asgI, truth, cmpI, ltD, fr_int, fr_str, fr_bl, fr_non, fr_nil, eq_int, dispD, toCell, isTy, I.ty, isN, ws]
    have h2 : evS Φ W (.asg (.nm 5) (.cell (.disp false .nil))) [some (.lst (ds.map .int)), some (.int a), some (.int many), some (.bl wide), some ws, none, none, none, none] [] = some (.nx [some (.lst (ds.map .int)), some (.int a), some (.int many), some (.bl wide), some ws, some (.obj 0), none, none, none] [.lst []]) := by simp [DefT.fn, evSs, evS, evE, evEs, evIt, Rs.R.bind, Rs.R.of, Rs.R.out, opM, prep, Op.deep, opD, sh_int, sh_str, sh_bl, sh_non, sh_tup, sh_lst, asgT, asgTs, asgI, truth, cmpI, ltD, fr_int, fr_str, fr_bl, fr_non, fr_nil, eq_int, dispD, toCell, isTy, I.ty, isN, ws]
    refine (ss_nx h1).trans ((ss_nx h2).trans ((ss_nx ((s_range (vs := [.int many]) (M1 := [.lst []]) (by simp [DefT.fn, evSs, evS, evE, evEs, evIt, Rs.R.bind, Rs.R.of, Rs.R.out, opM, prep, Op.deep, opD, sh_int, sh_str, sh_bl, sh_non, sh_tup, sh_lst, asgT, asgTs, asgI, truth, cmpI, ltD, fr_int, fr_str, fr_bl, fr_non, fr_nil, eq_int, dispD, toCell, isTy, I.ty, isN, ]) (rng1 n0 (by omega))).trans e)).trans ?_))
    simp [DefT.fn, evSs, evS, evE, evEs, evIt, Rs.R.bind, Rs.R.of, Rs.R.out, opM, prep, Op.deep, opD, sh_int, sh_str, sh_bl, sh_non, sh_tup, sh_lst, asgT, asgTs, asgI, truth, cmpI, ltD, fr_int, fr_str, fr_bl, fr_non, fr_nil, eq_int, dispD, toCell, isTy, I.ty, isN, sh]
  rw [e1]
  exact back_ret (nos_flat ns)
end K75

namespace K75
open PySem PySem.Spec PyProof.Rows L2 Rs
theorem P24 : T.P 24 = some D24.fn := rfl
def kq (p : List Int) : List Key := p.map Sum.inl
theorem keys_ints : ∀ p : List Int, keysI (p.map .int) = some (kq p)
  | [] => rfl
  | n :: p => by
    show (match keyI (I.int n), keysI (p.map .int) with
      | some k, some ks => some (k :: ks)
      | _, _ => none) = _
    rw [keys_ints p]; rfl
theorem kq_inj {p q : List Int} (h : kq p = kq q) : p = q := by
  unfold kq at h
  exact List.map_inj_right (fun _ _ e => Sum.inl.inj e) |>.mp h
theorem kq_back (p : List Int) : I.tup ((kq p).map keyD) = pI p := by
  unfold kq pI
  rw [List.map_map]; rfl
theorem tupsL_ok : ∀ ps : List (List Int), tupsL (ps.map pI) = some ps
  | [] => rfl
  | p :: ps => by
    show (match intsI (p.map .int), tupsL (ps.map pI) with
      | some n, some l => some (n :: l)
      | _, _ => none) = _
    rw [tupsL_ok ps, intsI_ints]
/-- strictly rising -/
def Ris (ps : List (List Int)) : Prop := ps.Pairwise fun a b => HT.lexLt a b = true
theorem ris_of : ∀ {ps : List (List Int)}, SrtL ps → ps.Nodup → Ris ps
  | [], _, _ => List.Pairwise.nil
  | p :: ps, h, n => by
    obtain ⟨h1, h2⟩ := List.pairwise_cons.mp h
    obtain ⟨n1, n2⟩ := List.nodup_cons.mp n
    refine List.pairwise_cons.mpr ⟨fun q hq => ?_, ris_of h2 n2⟩
    cases e : HT.lexLt p q with
    | true => rfl
    | false => exact absurd (lex_tot p q e (h1 q hq)) (fun z => n1 (by rw [z]; exact hq))
set_option maxHeartbeats 8000000 in
theorem paths_ok {W F m : Nat} {ds cs : List Int} {a many : Int} {M : Mem} (D : Dr m ds) (hm : 0 < m) (hF : 3 ≤ F) (hc : cs ≠ []) (hcs : ∀ c ∈ cs, 0 ≤ c ∧ c ≤ 10) (n0 : 0 ≤ many) (n1 : many ≤ 100) :
    ∃ ps : List (List Int), Ris ps ∧ (∀ p ∈ ps, PthOk cs p) ∧ (ps.length : Int) ≤ many ∧ evCall T.P W F 24 [.lst (ds.map .int), .int a, .lst (cs.map .int), .int many] M = .ok (.lst (ps.map pI)) M := by
  obtain ⟨k, rfl⟩ : ∃ k, F = k + 1 := ⟨F - 1, by omega⟩
  have hp := fun (a : Int) (M : Mem) => path_ok (W := W) (F := k) (a := a) (M := M) D hm (by omega) hc hcs
  have hfl : I.flats [.lst (ds.map .int), .int a, .lst (cs.map .int), .int many] = true := by
    show (I.flats (ds.map .int) && (true && (I.flats (cs.map .int) && true))) = true
    rw [flats_ints, flats_ints]; rfl
  rw [call0 P24 rfl rfl rfl hfl]
  generalize evCall T.P W k = Φ at hp
  obtain ⟨τ', M', e, ps, xs, x5, rfl, rfl, hb, hn, hl⟩ := each_go (g := .nm 5) (b := evSs Φ W B24_0)
    (Inv := fun j τ M => ∃ (ps : List (List Int)) (xs : List I) (x5 : Option I), M = [.dit (ps.map kq) xs] ∧ τ = [some (.lst (ds.map .int)), some (.int a), some (.lst (cs.map .int)), some (.int many), some (.obj 0), x5] ∧ (∀ p ∈ ps, PthOk cs p) ∧ ps.Nodup ∧ ps.length ≤ j)
    ((List.range many.toNat).map fun k : Nat => I.int (k : Int)) 0 [some (.lst (ds.map .int)), some (.int a), some (.lst (cs.map .int)), some (.int many), some (.obj 0), none] [.dit [] []] ⟨[], [], none, rfl, rfl, (fun _ z => nomatch z), List.nodup_nil, Nat.le_refl _⟩ (by
      rintro i τ M y hy ⟨ps, xs, x5, rfl, rfl, hb, hn, hl⟩
      have hi : i < many.toNat := by simpa using (List.getElem?_eq_some_iff.mp hy).1
      rw [List.getElem?_map, List.getElem?_range hi] at hy
      cases hy
      have m7 := mulB (a := 7) (b := (i : Int)) (by decide) (by omega)
      obtain ⟨p, hpo, ep⟩ := hp (a + 7 * (i : Int)) [.dit (ps.map kq) xs]
      have hsz : (ps.map kq).length < sizeLine := by rw [sl24, List.length_map]; omega
      have est : setC (.dit (ps.map kq) xs) (pI p) (.bl true) = some (.dit (putK (ps.map kq) xs (kq p) (.bl true)).1 (putK (ps.map kq) xs (kq p) (.bl true)).2) := by
        show (match keysI (p.map .int) with
          | some k => if (ps.map kq).length < sizeLine then some (Cell.dit (putK (ps.map kq) xs k (.bl true)).1 (putK (ps.map kq) xs k (.bl true)).2) else none
          | none => none) = _
        rw [keys_ints]
        exact if_pos hsz
      have fin : ∀ (qs : List (List Int)) (ys : List I), putK (ps.map kq) xs (kq p) (.bl true) = (qs.map kq, ys) → (∀ p ∈ qs, PthOk cs p) → qs.Nodup → qs.length ≤ i + 1 →
          ∃ τ1 τ2 M2, asgT (.nm 5) (.int (i : Int)) [some (.lst (ds.map .int)), some (.int a), some (.lst (cs.map .int)), some (.int many), some (.obj 0), x5] = some τ1 ∧ evSs Φ W B24_0 τ1 [.dit (ps.map kq) xs] = some (.nx τ2 M2) ∧
            ∃ (ps : List (List Int)) (xs : List I) (x5 : Option I), M2 = [.dit (ps.map kq) xs] ∧ τ2 = [some (.lst (ds.map .int)), some (.int a), some (.lst (cs.map .int)), some (.int many), some (.obj 0), x5] ∧ (∀ p ∈ ps, PthOk cs p) ∧ ps.Nodup ∧ ps.length ≤ 0 + i + 1 := fun qs ys eq h1 h2 h3 => by
        refine ⟨[some (.lst (ds.map .int)), some (.int a), some (.lst (cs.map .int)), some (.int many), some (.obj 0), some (.int (i : Int))], [some (.lst (ds.map .int)), some (.int a), some (.lst (cs.map .int)), some (.int many), some (.obj 0), some (.int (i : Int))], [.dit (qs.map kq) ys], by simp [asgT, asgI], ?_, qs, ys, _, rfl, rfl, h1, h2, by omega⟩
        rw [eq] at est
        simp [DefT.fn, evSs, evS, evE, evEs, evIt, Rs.R.bind, Rs.R.of, Rs.R.out, opM, prep, Op.deep, opD, sh_int, sh_str, sh_bl, sh_non, sh_tup, sh_lst, asgT, asgTs, asgI, truth, cmpI, ltD, fr_int, fr_str, fr_bl, fr_non, fr_nil, eq_int, dispD, toCell, isTy, I.ty, isN, B24_0, m7, add_int, ep, est]
      by_cases hin : p ∈ ps
      · refine fin ps (Rs.putV (ps.map kq) xs (kq p) (.bl true)) ?_ hb hn (by omega)
        unfold Rs.putK
        rw [if_pos]
        rw [List.any_eq_true]
        exact ⟨kq p, List.mem_map.mpr ⟨p, hin, rfl⟩, by simp⟩
      · refine fin (ps ++ [p]) (xs ++ [.bl true]) ?_ (fun q hq => ?_) ?_ (by simp; omega)
        · unfold Rs.putK
          rw [if_neg, List.map_append]
          · rfl
          · rw [List.any_eq_true]
            rintro ⟨q, hq, e⟩
            obtain ⟨r, hr, rfl⟩ := List.mem_map.mp hq
            have := kq_inj (of_decide_eq_true e)
            subst this
            exact hin hr
        · rcases List.mem_append.mp hq with r | r
          · exact hb q r
          · rw [List.mem_singleton.mp r]; exact hpo
        · rw [List.nodup_append]
          refine ⟨hn, by simp, fun x hx y hy => ?_⟩
          rw [List.mem_singleton.mp hy]
          exact fun z => hin (by rw [← z]; exact hx))
  have pm := sort_perm ps
  refine ⟨sortL ps, ris_of (sort_srt ps) (pm.nodup_iff.mpr hn), fun p h => hb p (pm.mem_iff.mp h), ?_, ?_⟩
  · rw [pm.length_eq]
    simp only [List.length_map, List.length_range] at hl
    omega
  · have h1 : evS Φ W (.asg (.nm 4) (.cell (.dict true))) [some (.lst (ds.map .int)), some (.int a), some (.lst (cs.map .int)), some (.int many), none, none] [] = some (.nx [some (.lst (ds.map .int)), some (.int a), some (.lst (cs.map .int)), some (.int many), some (.obj 0), none] [.dit [] []]) := by simp [DefT.fn, evSs, evS, evE, evEs, evIt, Rs.R.bind, Rs.R.of, Rs.R.out, opM, prep, Op.deep, opD, sh_int, sh_str, sh_bl, sh_non, sh_tup, sh_lst, asgT, asgTs, asgI, truth, cmpI, ltD, fr_int, fr_str, fr_bl, fr_non, fr_nil, eq_int, dispD, toCell, isTy, I.ty, isN, ]
    have e1 : evSs Φ W D24.fn.body (List.map some [I.lst (ds.map .int), .int a, .lst (cs.map .int), .int many] ++ List.replicate (D24.fn.ns - D24.fn.np) none) [] = some (.ret (.lst ((sortL ps).map pI)) [.dit (ps.map kq) xs]) := by
      refine (ss_nx h1).trans ((ss_nx ((s_range (vs := [.int many]) (M1 := [.dit [] []]) (by simp [DefT.fn, evSs, evS, evE, evEs, evIt, Rs.R.bind, Rs.R.of, Rs.R.out, opM, prep, Op.deep, opD, sh_int, sh_str, sh_bl, sh_non, sh_tup, sh_lst, asgT, asgTs, asgI, truth, cmpI, ltD, fr_int, fr_str, fr_bl, fr_non, fr_nil, eq_int, dispD, toCell, isTy, I.ty, isN, ]) (rng1 n0 (by omega))).trans e)).trans ?_)
      have el : opD .list [.dit (ps.map kq) xs] = some (.lst (ps.map pI)) := by
        show some (I.lst ((ps.map kq).map fun k => I.tup (k.map keyD))) = _
        rw [List.map_map]
        congr 2
        apply List.map_congr_left
        intro p _
        exact kq_back p
      have es : opD .sorted [.lst (ps.map pI)] = some (.lst ((sortL ps).map pI)) := by
        show (tupsL (ps.map pI)).map (fun l => I.lst ((sortL l).map fun n => .tup (n.map .int))) = _
        rw [tupsL_ok]; rfl
      simp [evSs, evS, evE, evEs, Rs.R.bind, Rs.R.of, Rs.R.out, opM, prep, Op.deep, sh, el, es]
    rw [e1]
    refine back_ret (flats_of fun x hx => ?_)
    obtain ⟨p, _, rfl⟩ := List.mem_map.mp hx
    exact flats_ints p
end K75

namespace K75
open PySem PySem.Spec PyProof.Rows L2 Rs
structure HoV where
  path : List Int
  name : Str
  begun : Int
  fin : EndV
  diary : List NoV
  state : Option StV
def hoI (h : HoV) : I := .tup [pI h.path, .str h.name, .int h.begun, eI h.fin, .tup (h.diary.map noI), stI h.state]
def NAMES : List Str := ["a", "ab", "house", "state", "note", "ask", "hour", "zzzzzzzz"]
structure HoOk (h : HoV) : Prop where
  p : PthOk [0, 2, 4] h.path
  n : h.name ∈ NAMES
  b : num h.begun
  f : EndOk h.fin
  d : ∀ n ∈ h.diary, NoOk n
  dl : h.diary.length ≤ 3
  s : h.fin = none ↔ h.state ≠ none
  so : ∀ s, h.state = some s → StOk s
structure AsV where
  path : List Int
  who : Str
  number : Int
  sent : Int
  fin : EndV
def asI (a : AsV) : I := .tup [pI a.path, .str a.who, .int a.number, .int a.sent, eI a.fin]
structure AsOk (a : AsV) : Prop where
  p : PthOk [2, 4, 6] a.path
  w : a.who ∈ NAMES
  n : num a.number
  s : num a.sent
  f : EndOk a.fin
theorem enum_get : ∀ (xs : List I) (k i : Nat), (enumI k xs)[i]? = (xs[i]?).map fun x => I.tup [.int ((k + i : Nat) : Int), x]
  | [], k, i => by simp [enumI]
  | x :: xs, k, 0 => by simp [enumI]
  | x :: xs, k, i + 1 => by
    show (enumI (k + 1) xs)[i]? = _
    rw [enum_get xs (k + 1) i]
    simp only [List.getElem?_cons_succ]
    congr 2
    funext y
    have : k + 1 + i = k + (i + 1) := by omega
    rw [this]
theorem enum_len : ∀ (xs : List I) (k : Nat), (enumI k xs).length = xs.length
  | [], _ => rfl
  | x :: xs, k => congrArg (· + 1) (enum_len xs (k + 1))
theorem ix_name {k : Int} (h0 : 0 ≤ k) (h1 : k < 8) : ∃ w, ixD (.lst [.str "a", .str "ab", .str "house", .str "state", .str "note", .str "ask", .str "hour", .str "zzzzzzzz"]) (.int k) = some (.str w) ∧ w ∈ NAMES := by
  obtain ⟨x, e, m⟩ := atI_mem (xs := NAMES.map I.str) h0 h1
  obtain ⟨w, hw, rfl⟩ := List.mem_map.mp m
  exact ⟨w, e, hw⟩
def wsI : I := .lst [.str "a", .str "ab", .str "house", .str "state", .str "note", .str "ask", .str "hour", .str "zzzzzzzz"]
section
variable {Φ : Oracle} {W : Nat} {ds : List Int}
variable (hd : ∀ (a many : Int) (M : Mem), 0 < many → ∃ v : Int, 0 ≤ v ∧ v < many ∧ Φ 21 [.lst (ds.map .int), .int a, .int many] M = .ok (.int v) M)
variable (hN : ∀ (a : Int) (M : Mem), ∃ v : Int, 0 ≤ v ∧ v ≤ 1000000006 ∧ Φ 22 [.lst (ds.map .int), .int a] M = .ok (.int v) M)
variable (hE : ∀ (a : Int) (ended : Bool) (M : Mem), ∃ e : EndV, EndOk e ∧ (e = none ↔ ended = false) ∧ Φ 25 [.lst (ds.map .int), .int a, .bl ended] M = .ok (eI e) M)
variable (hS : ∀ (a : Int) (wide : Bool) (M : Mem), ∃ s : StV, StOk s ∧ Φ 26 [.lst (ds.map .int), .int a, .bl wide] M = .ok (stI (some s)) M)
variable (hD : ∀ (a many : Int) (wide : Bool) (M : Mem), 0 ≤ many → many ≤ 100 → ∃ ns : List NoV, (∀ n ∈ ns, NoOk n) ∧ (ns.length : Int) ≤ many ∧ Φ 27 [.lst (ds.map .int), .int a, .int many, .bl wide] M = .ok (.tup (ns.map noI)) M)
include hd hN hE hS hD
set_option maxHeartbeats 8000000 in
theorem house_step {x1 x5 x8 x9 x10 x11 x12 : Option I} {wide : Bool} {hs : List HoV} {p : List Int} {j : Nat} (hj : j < 100) (hp : PthOk [0, 2, 4] p) (hl : hs.length ≤ 100) : ∃ (h : HoV) (y8 y9 y10 y11 y12 : Option I), HoOk h ∧ h.path = p ∧
    evSs Φ W B28_1 [some (.lst (ds.map .int)), x1, some wsI, some (.bl wide), some (.obj 0), x5, some (.int (j : Int)), some (pI p), x8, x9, x10, x11, x12] [.lst (hs.map hoI)] =
      some (.nx [some (.lst (ds.map .int)), x1, some wsI, some (.bl wide), some (.obj 0), x5, some (.int (j : Int)), some (pI p), y8, y9, y10, y11, y12] [.lst ((hs ++ [h]).map hoI)]) := by
  have m40 := mulB (a := 40) (b := (j : Int)) (by decide) (by omega)
  obtain ⟨A, hA⟩ : ∃ A : Int, A = 40 + 40 * (j : Int) := ⟨_, rfl⟩
  let M : Mem := [.lst (hs.map hoI)]
  obtain ⟨u, u0, u1, eu⟩ := hd A 2 M (by decide)
  obtain ⟨q, q0, q1, eq⟩ := hd (A + 9) 4 M (by decide)
  obtain ⟨ns, n1, n2, en⟩ := hD (A + 20) q wide M q0 (by omega)
  obtain ⟨w, w0, w1, ew⟩ := hd (A + 1) 8 M (by decide)
  obtain ⟨nm, enm, hnm⟩ := ix_name w0 w1
  obtain ⟨b, b0, b1, eb⟩ := hN (A + 2) M
  obtain ⟨f, f1, f2, ef⟩ := hE (A + 5) (u == 0) M
  obtain ⟨s, s1, es⟩ := hS (A + 10) wide M
  have hsz : hs.length < sizeLine := by rw [sl24]; omega
  have enm : ixD wsI (.int w) = some (.str nm) := enm
  have hsh : ∀ M, sh M wsI = wsI := fun _ => rfl
  have hm : M = [.lst (hs.map hoI)] := rfl
  rw [← hm]
  have hT : ∀ x y z v p q : I, addD (.tup [x, y, z, v]) (.tup [p, q]) = some (.tup [x, y, z, v, p, q]) := fun x y z v p q => addT (a := [x, y, z, v]) (b := [p, q]) (by simp)
  have g1 : M[0]? = some (.lst (hs.map hoI)) := rfl
  have g2 : ∀ y : Cell, M.set 0 y = [y] := fun _ => rfl
  clear_value M
  generalize wsI = wsv at enm hsh ⊢
  cases hu : (u == 0) with
  | true =>
    rw [hu] at f2 ef
    refine ⟨⟨p, nm, b, f, ns, none⟩, some (.int A), some (.bl true), some (.tup []), some (.tup (ns.map noI)), some (.tup [pI p, .str nm, .int b, eI f]), ⟨hp, hnm, ⟨b0, b1⟩, f1, n1, by show ns.length ≤ 3; omega, by simp [f2], (fun _ z => nomatch z)⟩, rfl, ?_⟩
    simp [DefT.fn, evSs, evS, evE, evEs, evIt, Rs.R.bind, Rs.R.of, Rs.R.out, opM, prep, Op.deep, opD, sh_int, sh_str, sh_bl, sh_non, sh_tup, sh_lst, asgT, asgTs, asgI, truth, cmpI, ltD, fr_int, fr_str, fr_bl, fr_non, fr_nil, eq_int, dispD, toCell, isTy, I.ty, isN, B28_1, m40, add_int, ← hA, eu, hu, eq, en, hsh, ew, enm, eb, ef, hT, g1, hsz, g2, hoI, stI]
  | false =>
    rw [hu] at f2 ef
    refine ⟨⟨p, nm, b, f, ns, some s⟩, some (.int A), some (.bl false), some (stI (some s)), some (.tup (ns.map noI)), some (.tup [pI p, .str nm, .int b, eI f]), ⟨hp, hnm, ⟨b0, b1⟩, f1, n1, by show ns.length ≤ 3; omega, by simp [f2], (fun t z => by cases z; exact s1)⟩, rfl, ?_⟩
    simp [DefT.fn, evSs, evS, evE, evEs, evIt, Rs.R.bind, Rs.R.of, Rs.R.out, opM, prep, Op.deep, opD, sh_int, sh_str, sh_bl, sh_non, sh_tup, sh_lst, asgT, asgTs, asgI, truth, cmpI, ltD, fr_int, fr_str, fr_bl, fr_non, fr_nil, eq_int, dispD, toCell, isTy, I.ty, isN, B28_1, m40, add_int, ← hA, eu, hu, es, eq, en, hsh, ew, enm, eb, ef, hT, g1, hsz, g2, hoI]
end
end K75

namespace K75
open PySem PySem.Spec PyProof.Rows L2 Rs
section
variable {Φ : Oracle} {W : Nat} {ds : List Int}
variable (hd : ∀ (a many : Int) (M : Mem), 0 < many → ∃ v : Int, 0 ≤ v ∧ v < many ∧ Φ 21 [.lst (ds.map .int), .int a, .int many] M = .ok (.int v) M)
variable (hN : ∀ (a : Int) (M : Mem), ∃ v : Int, 0 ≤ v ∧ v ≤ 1000000006 ∧ Φ 22 [.lst (ds.map .int), .int a] M = .ok (.int v) M)
variable (hE : ∀ (a : Int) (ended : Bool) (M : Mem), ∃ e : EndV, EndOk e ∧ (e = none ↔ ended = false) ∧ Φ 25 [.lst (ds.map .int), .int a, .bl ended] M = .ok (eI e) M)
include hd hN hE
set_option maxHeartbeats 8000000 in
theorem ask_step {x1 x3 x4 x8 x9 x10 x11 x12 : Option I} {H : Cell} {as : List AsV} {p : List Int} {j : Nat} (hj : j < 100) (hp : PthOk [2, 4, 6] p) (hl : as.length ≤ 100) : ∃ (a : AsV) (y8 y9 y10 y11 y12 : Option I), AsOk a ∧ a.path = p ∧
    evSs Φ W B28_0 [some (.lst (ds.map .int)), x1, some wsI, x3, x4, some (.obj 1), some (.int (j : Int)), some (pI p), x8, x9, x10, x11, x12] [H, .lst (as.map asI)] =
      some (.nx [some (.lst (ds.map .int)), x1, some wsI, x3, x4, some (.obj 1), some (.int (j : Int)), some (pI p), y8, y9, y10, y11, y12] [H, .lst ((as ++ [a]).map asI)]) := by
  have m20 := mulB (a := 20) (b := (j : Int)) (by decide) (by omega)
  obtain ⟨A, hA⟩ : ∃ A : Int, A = 350 + 20 * (j : Int) := ⟨_, rfl⟩
  let M : Mem := [H, .lst (as.map asI)]
  obtain ⟨w, w0, w1, ew⟩ := hd A 8 M (by decide)
  obtain ⟨nm, enm, hnm⟩ := ix_name w0 w1
  obtain ⟨b, b0, b1, eb⟩ := hN (A + 1) M
  obtain ⟨c, c0, c1, ec⟩ := hN (A + 4) M
  obtain ⟨u, u0, u1, eu⟩ := hd (A + 15) 2 M (by decide)
  obtain ⟨f, f1, f2, ef⟩ := hE (A + 7) (u == 0) M
  have hsz : as.length < sizeLine := by rw [sl24]; omega
  have enm : ixD wsI (.int w) = some (.str nm) := enm
  have hsh : ∀ M, sh M wsI = wsI := fun _ => rfl
  have hm : M = [H, .lst (as.map asI)] := rfl
  rw [← hm]
  have hT : ∀ x y z v p : I, addD (.tup [x, y, z, v]) (.tup [p]) = some (.tup [x, y, z, v, p]) := fun x y z v p => addT (a := [x, y, z, v]) (b := [p]) (by simp)
  have g1 : M[1]? = some (.lst (as.map asI)) := rfl
  have g2 : ∀ y : Cell, M.set 1 y = [H, y] := fun _ => rfl
  clear_value M
  generalize wsI = wsv at enm hsh ⊢
  refine ⟨⟨p, nm, b, c, f⟩, some (.int A), x9, x10, x11, some (.tup [pI p, .str nm, .int b, .int c]), ⟨hp, hnm, ⟨b0, b1⟩, ⟨c0, c1⟩, f1⟩, rfl, ?_⟩
  simp [DefT.fn, evSs, evS, evE, evEs, evIt, Rs.R.bind, Rs.R.of, Rs.R.out, opM, prep, Op.deep, opD, sh_int, sh_str, sh_bl, sh_non, sh_tup, sh_lst, asgT, asgTs, asgI, truth, cmpI, ltD, fr_int, fr_str, fr_bl, fr_non, fr_nil, eq_int, dispD, toCell, isTy, I.ty, isN, B28_0, m20, add_int, ← hA, eu, hsh, ew, enm, eb, ec, ef, hT, g1, hsz, g2, asI]
end
structure HaV where
  hour : Int
  houses : List HoV
  asks : List AsV
def haI (h : HaV) : I := .tup [.int h.hour, .tup (h.houses.map hoI), .tup (h.asks.map asI)]
structure HaOk (v : HaV) : Prop where
  n : num v.hour
  h : ∀ x ∈ v.houses, HoOk x
  hl : v.houses.length ≤ 5
  hr : Ris (v.houses.map HoV.path)
  a : ∀ x ∈ v.asks, AsOk x
  al : v.asks.length ≤ 5
  ar : Ris (v.asks.map AsV.path)
theorem P28 : T.P 28 = some D28.fn := rfl
theorem eI_flat (e : EndV) : (eI e).flat = true := by
  cases e with
  | none => rfl
  | some t => obtain ⟨a, b, c⟩ := t; rfl
theorem stI_flat (s : Option StV) : (stI s).flat = true := by
  cases s with
  | none => rfl
  | some s =>
    show (true && (I.flats (s.slots.map .int) && true)) = true
    rw [flats_ints]; rfl
theorem ho_flat (h : HoV) : (hoI h).flat = true := by
  show (I.flats (h.path.map .int) && (true && (true && ((eI h.fin).flat && (I.flats (h.diary.map noI) && ((stI h.state).flat && true)))))) = true
  rw [flats_ints, eI_flat, nos_flat, stI_flat]; rfl
theorem as_flat (a : AsV) : (asI a).flat = true := by
  show (I.flats (a.path.map .int) && (true && (true && (true && ((eI a.fin).flat && true))))) = true
  rw [flats_ints, eI_flat]; rfl
theorem hos_flat (hs : List HoV) : I.flats (hs.map hoI) = true := flats_of fun x hx => by
  obtain ⟨n, _, rfl⟩ := List.mem_map.mp hx
  exact ho_flat n
theorem ass_flat (hs : List AsV) : I.flats (hs.map asI) = true := flats_of fun x hx => by
  obtain ⟨n, _, rfl⟩ := List.mem_map.mp hx
  exact as_flat n
theorem ha_flat (h : HaV) : (haI h).flat = true := by
  show (true && (I.flats (h.houses.map hoI) && (I.flats (h.asks.map asI) && true))) = true
  rw [hos_flat, ass_flat]; rfl
theorem take_snoc {α : Type} {l : List α} {i : Nat} {x : α} (h : l[i]? = some x) : l.take (i + 1) = l.take i ++ [x] := by
  rw [List.take_succ, h]; rfl
set_option maxHeartbeats 8000000 in
theorem hall_ok {W F m : Nat} {ds : List Int} {M : Mem} (D : Dr m ds) (hm : 0 < m) (hF : 5 ≤ F) : ∃ h : HaV, HaOk h ∧ evCall T.P W F 28 [.lst (ds.map .int), .int 5] M = .ok (haI h) M := by
  obtain ⟨k, rfl⟩ : ∃ k, F = k + 1 := ⟨F - 1, by omega⟩
  have hd := fun (a many : Int) (M : Mem) (hn : 0 < many) => draw_ok (W := W) (F := k) (a := a) (many := many) (M := M) D hm (by omega) hn
  have hN := fun (a : Int) (M : Mem) => number_ok (W := W) (F := k) (a := a) (M := M) D hm (by omega)
  have hE := fun (a : Int) (e : Bool) (M : Mem) => end_ok (W := W) (F := k) (a := a) (ended := e) (M := M) D hm (by omega)
  have hS := fun (a : Int) (e : Bool) (M : Mem) => state_ok (W := W) (F := k) (a := a) (wide := e) (M := M) D hm (by omega)
  have hD := fun (a many : Int) (e : Bool) (M : Mem) (h0 : 0 ≤ many) (h1 : many ≤ 100) => diary_ok (W := W) (F := k) (a := a) (many := many) (wide := e) (M := M) D hm (by omega) h0 h1
  have hP := fun (a many : Int) (cs : List Int) (M : Mem) (hc : cs ≠ []) (hcs : ∀ c ∈ cs, 0 ≤ c ∧ c ≤ 10) (h0 : 0 ≤ many) (h1 : many ≤ 100) => paths_ok (W := W) (F := k) (a := a) (many := many) (cs := cs) (M := M) D hm (by omega) hc hcs h0 h1
  rw [call0 P28 rfl rfl rfl (args2 ds 5)]
  generalize evCall T.P W k = Φ at hd hN hE hS hD hP
  suffices ∃ (h : HaV) (M1 : Mem), HaOk h ∧ evSs Φ W D28.fn.body (List.map some [I.lst (ds.map .int), .int 5] ++ List.replicate (D28.fn.ns - D28.fn.np) none) [] = some (.ret (haI h) M1) by
    obtain ⟨h, M1, h1, h2⟩ := this
    refine ⟨h, h1, ?_⟩
    rw [h2]
    exact back_ret (ha_flat h)
  obtain ⟨u, u0, u1, eu⟩ := hd 293 8 [] (by decide)
  obtain ⟨v, v0, v1, ev⟩ := hd 290 6 [.lst []] (by decide)
  obtain ⟨ps, ps1, ps2, ps3, eps⟩ := hP 0 v [0, 2, 4] [.lst []] (by decide) (by decide) v0 (by omega)
  obtain ⟨τ', M', e1, hs, x6, x7, x8, x9, x10, x11, x12, rfl, rfl, hb, hpp⟩ := each_go (g := .tup (.cons (.nm 6) (.cons (.nm 7) .nil))) (b := evSs Φ W B28_1)
    (Inv := fun j τ M => ∃ (hs : List HoV) (x6 x7 x8 x9 x10 x11 x12 : Option I), M = [.lst (hs.map hoI)] ∧ τ = [some (.lst (ds.map .int)), some (.int 5), some wsI, some (.bl (u == 0)), some (.obj 0), none, x6, x7, x8, x9, x10, x11, x12] ∧ (∀ h ∈ hs, HoOk h) ∧ hs.map HoV.path = ps.take j)
    (enumI 0 (ps.map pI)) 0 [some (.lst (ds.map .int)), some (.int 5), some wsI, some (.bl (u == 0)), some (.obj 0), none, none, none, none, none, none, none, none] [.lst []] ⟨[], none, none, none, none, none, none, none, rfl, rfl, (fun _ z => nomatch z), rfl⟩ (by
      rintro i τ M y hy ⟨hs, x6, x7, x8, x9, x10, x11, x12, rfl, rfl, hb, hpp⟩
      rw [enum_get, List.getElem?_map] at hy
      cases ep : ps[i]? with
      | none => rw [ep] at hy; cases hy
      | some p =>
        rw [ep] at hy
        cases hy
        have hi : i < ps.length := (List.getElem?_eq_some_iff.mp ep).1
        have hlen := congrArg List.length hpp
        rw [List.length_map, List.length_take] at hlen
        obtain ⟨h, y8, y9, y10, y11, y12, ok, hpath, e⟩ := house_step (W := W) hd hN hE hS hD (x1 := some (.int 5)) (x5 := none) (x8 := x8) (x9 := x9) (x10 := x10) (x11 := x11) (x12 := x12) (wide := (u == 0)) (hs := hs) (p := p) (j := 0 + i) (by omega) (ps2 p (List.mem_of_getElem? ep)) (by omega)
        refine ⟨_, _, _, rfl, e, hs ++ [h], _, _, y8, y9, y10, y11, y12, rfl, rfl, fun z hz => ?_, ?_⟩
        · rcases List.mem_append.mp hz with r | r
          · exact hb z r
          · rw [List.mem_singleton.mp r]; exact ok
        · rw [List.map_append, hpp, Nat.zero_add, take_snoc ep, ← hpath]; rfl)
  rw [Nat.zero_add, enum_len, List.length_map, List.take_length] at hpp
  obtain ⟨v', w0, w1, ew⟩ := hd 291 6 [.lst (hs.map hoI), .lst []] (by decide)
  obtain ⟨qs, qs1, qs2, qs3, eqs⟩ := hP 300 v' [2, 4, 6] [.lst (hs.map hoI), .lst []] (by decide) (by decide) w0 (by omega)
  obtain ⟨τ', M', e2, as, z6, z7, z8, z9, z10, z11, z12, rfl, rfl, hb2, hpp2⟩ := each_go (g := .tup (.cons (.nm 6) (.cons (.nm 7) .nil))) (b := evSs Φ W B28_0)
    (Inv := fun j τ M => ∃ (as : List AsV) (x6 x7 x8 x9 x10 x11 x12 : Option I), M = [.lst (hs.map hoI), .lst (as.map asI)] ∧ τ = [some (.lst (ds.map .int)), some (.int 5), some wsI, some (.bl (u == 0)), some (.obj 0), some (.obj 1), x6, x7, x8, x9, x10, x11, x12] ∧ (∀ h ∈ as, AsOk h) ∧ as.map AsV.path = qs.take j)
    (enumI 0 (qs.map pI)) 0 [some (.lst (ds.map .int)), some (.int 5), some wsI, some (.bl (u == 0)), some (.obj 0), some (.obj 1), x6, x7, x8, x9, x10, x11, x12] [.lst (hs.map hoI), .lst []] ⟨[], x6, x7, x8, x9, x10, x11, x12, rfl, rfl, (fun _ z => nomatch z), rfl⟩ (by
      rintro i τ M y hy ⟨as, x6, x7, x8, x9, x10, x11, x12, rfl, rfl, hb, hpp⟩
      rw [enum_get, List.getElem?_map] at hy
      cases ep : qs[i]? with
      | none => rw [ep] at hy; cases hy
      | some p =>
        rw [ep] at hy
        cases hy
        have hi : i < qs.length := (List.getElem?_eq_some_iff.mp ep).1
        have hlen := congrArg List.length hpp
        rw [List.length_map, List.length_take] at hlen
        obtain ⟨h, y8, y9, y10, y11, y12, ok, hpath, e⟩ := ask_step (W := W) hd hN hE (x1 := some (.int 5)) (x3 := some (.bl (u == 0))) (x4 := some (.obj 0)) (x8 := x8) (x9 := x9) (x10 := x10) (x11 := x11) (x12 := x12) (H := .lst (hs.map hoI)) (as := as) (p := p) (j := 0 + i) (by omega) (qs2 p (List.mem_of_getElem? ep)) (by omega)
        refine ⟨_, _, _, rfl, e, as ++ [h], _, _, y8, y9, y10, y11, y12, rfl, rfl, fun z hz => ?_, ?_⟩
        · rcases List.mem_append.mp hz with r | r
          · exact hb z r
          · rw [List.mem_singleton.mp r]; exact ok
        · rw [List.map_append, hpp, Nat.zero_add, take_snoc ep, ← hpath]; rfl)
  rw [Nat.zero_add, enum_len, List.length_map, List.take_length] at hpp2
  obtain ⟨t, t0, t1, et⟩ := hN 292 [.lst (hs.map hoI), .lst (as.map asI)]
  have l1 : hs.length = ps.length := by rw [← hpp, List.length_map]
  have l2 : as.length = qs.length := by rw [← hpp2, List.length_map]
  refine ⟨⟨t, hs, as⟩, [.lst (hs.map hoI), .lst (as.map asI)], ⟨⟨t0, t1⟩, hb, by show hs.length ≤ 5; omega, by show Ris (hs.map HoV.path); rw [hpp]; exact ps1, hb2, by show as.length ≤ 5; omega, by show Ris (as.map AsV.path); rw [hpp2]; exact qs1⟩, ?_⟩
  have eps : Φ 24 [.lst (ds.map .int), .int 0, .lst [.int 0, .int 2, .int 4], .int v] [.lst []] = .ok (.lst (ps.map pI)) [.lst []] := eps
  have eqs : Φ 24 [.lst (ds.map .int), .int 300, .lst [.int 2, .int 4, .int 6], .int v'] [.lst (hs.map hoI), .lst []] = .ok (.lst (qs.map pI)) [.lst (hs.map hoI), .lst []] := eqs
  unfold wsI at e1 e2
  simp [DefT.fn, evSs, evS, evE, evEs, evIt, Rs.R.bind, Rs.R.of, Rs.R.out, opM, prep, Op.deep, opD, sh_int, sh_str, sh_bl, sh_non, sh_tup, sh_lst, asgT, asgTs, asgI, truth, cmpI, ltD, fr_int, fr_str, fr_bl, fr_non, fr_nil, eq_int, dispD, toCell, isTy, I.ty, isN, D28, eu, add_int, ev, eps, listItems]
  simp [DefT.fn, evSs, evS, evE, evEs, evIt, Rs.R.bind, Rs.R.of, Rs.R.out, opM, prep, Op.deep, opD, sh_int, sh_str, sh_bl, sh_non, sh_tup, sh_lst, asgT, asgTs, asgI, truth, cmpI, ltD, fr_int, fr_str, fr_bl, fr_non, fr_nil, eq_int, dispD, toCell, isTy, I.ty, isN, e1, ew, eqs, listItems, add_int]
  simp [DefT.fn, evSs, evS, evE, evEs, evIt, Rs.R.bind, Rs.R.of, Rs.R.out, opM, prep, Op.deep, opD, sh_int, sh_str, sh_bl, sh_non, sh_tup, sh_lst, asgT, asgTs, asgI, truth, cmpI, ltD, fr_int, fr_str, fr_bl, fr_non, fr_nil, eq_int, dispD, toCell, isTy, I.ty, isN, e2, et, sh, haI]
end K75

namespace K75
open PySem PySem.Spec PyProof.Rows L2 Rs
/-! ### words -/
def nT (n : Int) : Str := Str.ofString (toString n)
def dots (a : Str) (l : List Str) : Str := l.foldl (fun acc x => acc ++ "." ++ x) a
def pathT : List Int → Str
  | [] => "-"
  | x :: p => dots (nT x) (p.map nT)
def endT : EndV → Str
  | none => "-"
  | some (w, a, b) => w ++ ":" ++ nT a ++ ":" ++ nT b
/-- a word: signs that are neither blank nor a line's end, n at most -/
def Wd (n : Nat) (s : Str) : Prop := s.length ≤ n ∧ ∀ c ∈ s.cps.toList, c < 0x110000 ∧ c ≠ 10 ∧ c ≠ 32
def wdB (n : Nat) (s : Str) : Bool := decide (s.length ≤ n) && s.cps.toList.all fun c => decide (c < 0x110000) && (decide (c ≠ 10) && decide (c ≠ 32))
theorem wd_of {n : Nat} {s : Str} (h : wdB n s = true) : Wd n s := by
  unfold wdB at h
  simp only [Bool.and_eq_true, decide_eq_true_eq, List.all_eq_true] at h
  exact h
theorem Wd.mono {m n : Nat} {s : Str} (h : Wd m s) (hm : m ≤ n) : Wd n s := ⟨Nat.le_trans h.1 hm, h.2⟩
theorem len_app (a b : Str) : (a ++ b).length = a.length + b.length := Str.length_append a b
theorem Wd.app {m n : Nat} {a b : Str} (h : Wd m a) (h2 : Wd n b) : Wd (m + n) (a ++ b) := by
  refine ⟨by rw [len_app]; have := h.1; have := h2.1; omega, fun c hc => ?_⟩
  have e : (a ++ b).cps.toList = a.cps.toList ++ b.cps.toList := TL.tl_append a b
  rw [e] at hc
  exact (List.mem_append.mp hc).elim (h.2 c) (h2.2 c)
theorem num_wd {n : Int} (h : num n) : Wd 10 (nT n) := by
  have h1 : n < 10 ^ 10 := by have := h.2; omega
  refine ⟨PyProof.Rows.toString_length_le h.1 (by decide) h1, fun c hc => ?_⟩
  have h0 := h.1
  have e : n = ((n.toNat : Nat) : Int) := by omega
  unfold nT at hc
  rw [e] at hc
  have hc : c ∈ TL.tl (Str.ofString (toString ((n.toNat : Nat) : Int))) := hc
  rw [TL.tl_num] at hc
  have hd := TL.numL_digits n.toNat c hc
  omega
theorem w_dot : Wd 1 "." := wd_of (by decide +kernel)
theorem w_colon : Wd 1 ":" := wd_of (by decide +kernel)
theorem w_dash : Wd 1 "-" := wd_of (by decide +kernel)
theorem add_wd {m n : Nat} {a b : Str} (ha : Wd m a) (hb : Wd n b) (h : m + n ≤ 100000) : addD (.str a) (.str b) = some (.str (a ++ b)) := by
  show (if a.length + b.length ≤ sizeLine then some (I.str (a ++ b)) else none) = _
  rw [if_pos (by rw [sl24]; have := ha.1; have := hb.1; omega)]
theorem log_num {n : Int} (h : num n) : n.natAbs.log2 < 1920 := by
  have := log_abs (a := n) (by have := h.1; have := h.2; omega)
  omega
theorem ends_wd : ∀ w ∈ ENDS, Wd 4 w := fun w hw => wd_of ((by decide +kernel : ∀ w ∈ ENDS, wdB 4 w = true) w hw)
theorem P30 : T.P 30 = some D30.fn := rfl
theorem P2 : T.P 2 = some D2.fn := rfl
theorem nT_repr (n : Int) : nT n = Str.ofString n.repr := rfl
set_option maxHeartbeats 4000000 in
theorem endw_ok {W F : Nat} {e : EndV} {M : Mem} (h : EndOk e) (hF : 1 ≤ F) : evCall T.P W F 30 [eI e] M = .ok (.str (endT e)) M := by
  obtain ⟨k, rfl⟩ : ∃ k, F = k + 1 := ⟨F - 1, by omega⟩
  rw [call0 P30 rfl rfl rfl (flats1 (eI_flat e))]
  generalize evCall T.P W k = Φ
  have e1 : evSs Φ W D30.fn.body (List.map some [eI e] ++ List.replicate (D30.fn.ns - D30.fn.np) none) [] = some (.ret (.str (endT e)) []) := by
    cases e with
    | none => simp [DefT.fn, evSs, evS, evE, evEs, evIt, Rs.R.bind, Rs.R.of, Rs.R.out, opM, prep, Op.deep, opD, sh_int, sh_str, sh_bl, sh_non, sh_tup, sh_lst, asgT, asgTs, asgI, truth, cmpI, ltD, fr_int, fr_str, fr_bl, fr_non, fr_nil, eq_int, dispD, toCell, isTy, I.ty, isN, D30, eI, endT, lenD]
    | some t =>
      obtain ⟨w, a, b⟩ := t
      obtain ⟨hw, ha, hb⟩ := h w a b rfl
      have ww := ends_wd w hw
      have wa := num_wd ha
      have wb := num_wd hb
      have t1 := add_wd ww w_colon (by decide)
      have t2 := add_wd (ww.app w_colon) wa (by decide)
      have t3 := add_wd ((ww.app w_colon).app wa) w_colon (by decide)
      have t4 := add_wd (((ww.app w_colon).app wa).app w_colon) wb (by decide)
      rw [nT_repr] at t2 t3 t4
      rw [nT_repr] at t4
      have la := log_num ha
      have lb := log_num hb
      have i0 : ixD (.tup [.str w, .int a, .int b]) (.int 0) = some (.str w) := rfl
      have i1 : ixD (.tup [.str w, .int a, .int b]) (.int 1) = some (.int a) := rfl
      have i2 : ixD (.tup [.str w, .int a, .int b]) (.int 2) = some (.int b) := rfl
      simp [DefT.fn, evSs, evS, evE, evEs, evIt, Rs.R.bind, Rs.R.of, Rs.R.out, opM, prep, Op.deep, opD, sh_int, sh_str, sh_bl, sh_non, sh_tup, sh_lst, asgT, asgTs, asgI, truth, cmpI, ltD, fr_int, fr_str, fr_bl, fr_non, fr_nil, eq_int, dispD, toCell, isTy, I.ty, isN, D30, eI, endT, lenD, i0, i1, i2, la, lb, t1, t2, t3, t4, nT_repr]
  rw [e1]
  exact back_ret rfl
theorem Wd.ok {n : Nat} {s : Str} (h : Wd n s) : PyData.canLay0 (.str s) = true := by
  simp only [PyData.canLay0, PyData.strOk, Array.all_eq_true', decide_eq_true_eq]
  intro c hc
  exact (h.2 c (Array.mem_toList_iff.mpr hc)).1
theorem fr_e (M : Mem) (e : EndV) : frz M dpt (eI e) = some (eI e) := frz_flat _ (eI_flat e)
theorem fr_t0 (M : Mem) : frz M dpt (.tup []) = some (.tup []) := rfl
theorem eq_end {e : EndV} (h : EndOk e) : eqD (eI e) (.tup []) = some e.isNone := by
  cases e with
  | none => rfl
  | some t =>
    obtain ⟨w, a, b⟩ := t
    have hw := (ends_wd w (h w a b rfl).1).ok
    unfold eqD
    rw [show (eI (some (w, a, b))).fit = true from (Fit.mono (fit_tup (n := 0) fun x hx => by
      simp only [List.mem_cons, List.not_mem_nil, or_false] at hx
      rcases hx with rfl | rfl | rfl
      · exact fit_str hw
      · exact fit_int _
      · exact fit_int _) (by decide)).fit]
    rfl
set_option maxHeartbeats 4000000 in
theorem endt_ok {W F : Nat} {e : EndV} {M : Mem} (h : EndOk e) (hF : 1 ≤ F) : evCall T.P W F 2 [eI e] M = .ok (.str (endT e)) M := by
  obtain ⟨k, rfl⟩ : ∃ k, F = k + 1 := ⟨F - 1, by omega⟩
  rw [call0 P2 rfl rfl rfl (flats1 (eI_flat e))]
  generalize evCall T.P W k = Φ
  have e1 : evSs Φ W D2.fn.body (List.map some [eI e] ++ List.replicate (D2.fn.ns - D2.fn.np) none) [] = some (.ret (.str (endT e)) []) := by
    have hq := eq_end h
    have hf := fr_e [] e
    cases e with
    | none =>
      simp only [eI] at hq hf ⊢
      simp [DefT.fn, evSs, evS, evE, evEs, evIt, Rs.R.bind, Rs.R.of, Rs.R.out, opM, prep, Op.deep, opD, sh_int, sh_str, sh_bl, sh_non, sh_tup, sh_lst, asgT, asgTs, asgI, truth, cmpI, ltD, fr_int, fr_str, fr_bl, fr_non, fr_nil, eq_int, dispD, toCell, isTy, I.ty, isN, D2, endT, hq, hf, fr_t0]
    | some t =>
      obtain ⟨w, a, b⟩ := t
      obtain ⟨hw, ha, hb⟩ := h w a b rfl
      have ww := ends_wd w hw
      have wa := num_wd ha
      have wb := num_wd hb
      have t1 := add_wd ww w_colon (by decide)
      have t2 := add_wd (ww.app w_colon) wa (by decide)
      have t3 := add_wd ((ww.app w_colon).app wa) w_colon (by decide)
      have t4 := add_wd (((ww.app w_colon).app wa).app w_colon) wb (by decide)
      rw [nT_repr] at t2 t3 t4
      rw [nT_repr] at t4
      have la := log_num ha
      have lb := log_num hb
      have i0 : ixD (.tup [.str w, .int a, .int b]) (.int 0) = some (.str w) := rfl
      have i1 : ixD (.tup [.str w, .int a, .int b]) (.int 1) = some (.int a) := rfl
      have i2 : ixD (.tup [.str w, .int a, .int b]) (.int 2) = some (.int b) := rfl
      simp only [eI] at hq hf ⊢
      simp [DefT.fn, evSs, evS, evE, evEs, evIt, Rs.R.bind, Rs.R.of, Rs.R.out, opM, prep, Op.deep, opD, sh_int, sh_str, sh_bl, sh_non, sh_tup, sh_lst, asgT, asgTs, asgI, truth, cmpI, ltD, fr_int, fr_str, fr_bl, fr_non, fr_nil, eq_int, dispD, toCell, isTy, I.ty, isN, D2, endT, hq, hf, fr_t0, i0, i1, i2, la, lb, t1, t2, t3, t4, nT_repr]
  rw [e1]
  exact back_ret rfl
end K75

namespace K75
open PySem PySem.Spec PyProof.Rows L2 Rs
theorem cat3 (a b c : Str) : a ++ b ++ c = a ++ (b ++ c) := Str.append_assoc a b c
theorem dots_pre (x : Str) : ∀ (l : List Str) (a : Str), x ++ dots a l = dots (x ++ a) l
  | [], a => rfl
  | b :: l, a => by
    show x ++ dots (a ++ "." ++ b) l = dots (x ++ a ++ "." ++ b) l
    rw [dots_pre x l]
    simp only [cat3]
theorem join_one (s a : Str) : Txt.join s [a] = a := by rw [TL.join_eq]; rfl
theorem join_cons (s a b : Str) (l : List Str) : Txt.join s (a :: b :: l) = a ++ s ++ Txt.join s (b :: l) := by rw [TL.join_eq, TL.join_eq]; rfl
theorem join_dots : ∀ (l : List Str) (a : Str), Txt.join "." (a :: l) = dots a l
  | [], a => join_one _ _
  | b :: l, a => by
    rw [join_cons, join_dots l b, dots_pre]; rfl
theorem dots_wd : ∀ (l : List Str) (a : Str) (m : Nat), Wd m a → (∀ s ∈ l, Wd 10 s) → Wd (m + 11 * l.length) (dots a l)
  | [], a, m, ha, _ => ha
  | s :: l, a, m, ha, h => by
    have := dots_wd l (a ++ "." ++ s) (m + 1 + 10) ((ha.app w_dot).app (h s List.mem_cons_self)) fun x hx => h x (List.mem_cons_of_mem _ hx)
    exact this.mono (by rw [List.length_cons]; omega)
theorem P29 : T.P 29 = some D29.fn := rfl
theorem P1 : T.P 1 = some D1.fn := rfl
/-- a path that may be written -/
structure PW (p : List Int) : Prop where
  l : p.length ≤ 10
  b : ∀ x ∈ p, 0 ≤ x ∧ x < 10
theorem PW.num {p : List Int} (h : PW p) : ∀ x ∈ p, num x := fun x hx => ⟨(h.b x hx).1, by have := (h.b x hx).2; omega⟩
theorem p_flat (p : List Int) : (pI p).flat = true := flats_ints p
set_option maxHeartbeats 4000000 in
theorem loop29 {Φ : Oracle} {W : Nat} {x0 : Option I} : ∀ (p : List Int) (a : Str) (m : Nat) (x2 : Option I), Wd m a → m + 11 * p.length ≤ 1000 → (∀ x ∈ p, num x) →
    ∃ x2', eachL (.nm 2) (evSs Φ W B29_0) (p.map .int) [x0, some (.str a), x2] [] = some (.nx [x0, some (.str (dots a (p.map nT))), x2'] [])
  | [], a, m, x2, _, _, _ => ⟨x2, rfl⟩
  | x :: p, a, m, x2, ha, hm, h => by
    rw [List.length_cons] at hm
    have hx := h x List.mem_cons_self
    have t1 := add_wd ha w_dot (by omega)
    have t2 := add_wd (ha.app w_dot) (num_wd hx) (by omega)
    have lx := log_num hx
    obtain ⟨x2', e⟩ := loop29 (x0 := x0) p (a ++ "." ++ nT x) (m + 1 + 10) (some (.int x)) ((ha.app w_dot).app (num_wd hx)) (by omega) fun y hy => h y (List.mem_cons_of_mem _ hy)
    refine ⟨x2', ?_⟩
    show eachL (.nm 2) (evSs Φ W B29_0) (.int x :: p.map .int) _ [] = _
    unfold eachL
    have ea : asgT (.nm 2) (.int x) [x0, some (.str a), x2] = some [x0, some (.str a), some (.int x)] := by simp [asgT, asgI]
    have eb : evSs Φ W B29_0 [x0, some (.str a), some (.int x)] [] = some (.nx [x0, some (.str (a ++ "." ++ nT x)), some (.int x)] []) := by
      rw [nT_repr] at t2 ⊢
      simp [DefT.fn, evSs, evS, evE, evEs, evIt, Rs.R.bind, Rs.R.of, Rs.R.out, opM, prep, Op.deep, opD, sh_int, sh_str, sh_bl, sh_non, sh_tup, sh_lst, asgT, asgTs, asgI, truth, cmpI, ltD, fr_int, fr_str, fr_bl, fr_non, fr_nil, eq_int, dispD, toCell, isTy, I.ty, isN, B29_0, lx, t1, t2]
    rw [ea]
    dsimp only
    rw [eb]
    exact e
set_option maxHeartbeats 4000000 in
theorem pathw_ok {W F : Nat} {p : List Int} {M : Mem} (h : PW p) (hF : 1 ≤ F) : evCall T.P W F 29 [pI p] M = .ok (.str (pathT p)) M := by
  obtain ⟨k, rfl⟩ : ∃ k, F = k + 1 := ⟨F - 1, by omega⟩
  rw [call0 P29 rfl rfl rfl (flats1 (p_flat p))]
  generalize evCall T.P W k = Φ
  have e1 : evSs Φ W D29.fn.body (List.map some [pI p] ++ List.replicate (D29.fn.ns - D29.fn.np) none) [] = some (.ret (.str (pathT p)) []) := by
    cases p with
    | nil => simp [DefT.fn, evSs, evS, evE, evEs, evIt, Rs.R.bind, Rs.R.of, Rs.R.out, opM, prep, Op.deep, opD, sh_int, sh_str, sh_bl, sh_non, sh_tup, sh_lst, asgT, asgTs, asgI, truth, cmpI, ltD, fr_int, fr_str, fr_bl, fr_non, fr_nil, eq_int, dispD, toCell, isTy, I.ty, isN, D29, pI, pathT, lenD]
    | cons x p =>
      have hx := h.num x List.mem_cons_self
      have hl := h.l
      rw [List.length_cons] at hl
      obtain ⟨x2, e⟩ := loop29 (Φ := Φ) (W := W) (x0 := some (pI (x :: p))) p (nT x) 10 none (num_wd hx) (by omega) fun y hy => h.num y (List.mem_cons_of_mem _ hy)
      have lx := log_num hx
      have i0 : ixD (pI (x :: p)) (.int 0) = some (.int x) := by
        show atI (I.int x :: p.map .int) 0 = _
        have : (0 : Int) < (p.length : Int) + 1 := by omega
        simp [atI, ixN, this]
      have hsl : sliceD (pI (x :: p)) (some 1) none = some (.tup (p.map .int)) := by
        show some (I.tup (cut (.int x :: p.map .int) (some 1) none)) = _
        unfold cut
        simp [HT.sIx]
        exact List.take_of_length_le (by rw [List.length_map]; exact Nat.le_refl _)
      have hln : lenD (pI (x :: p)) = some (.int ((p.length : Int) + 1)) := by
        show some (I.int (((x :: p).map I.int).length : Int)) = _
        simp
      have hz : ((p.length : Int) + 1 == 0) = false := by
        rw [beq_eq_false_iff_ne]; omega
      have hsh : ∀ M, sh M (pI (x :: p)) = pI (x :: p) := fun _ => rfl
      have hes : ∀ M, seqItems M (.tup (p.map .int)) = some (.vals (p.map .int)) := fun _ => rfl
      have hp : pathT (x :: p) = dots (nT x) (p.map nT) := rfl
      rw [hp]
      generalize pI (x :: p) = pv at e i0 hsl hln hsh ⊢
      rw [nT_repr] at e
      have hr : nT x = Str.ofString x.repr := nT_repr x
      rw [hr]
      simp [DefT.fn, evSs, evS, evE, evEs, evIt, Rs.R.bind, Rs.R.of, Rs.R.out, opM, prep, Op.deep, opD, sh_int, sh_str, sh_bl, sh_non, sh_tup, sh_lst, asgT, asgTs, asgI, truth, cmpI, ltD, fr_int, fr_str, fr_bl, fr_non, fr_nil, eq_int, dispD, toCell, isTy, I.ty, isN, D29, hsh, hln, hz, i0, lx, hsl, hes]
      simp [DefT.fn, evSs, evS, evE, evEs, evIt, Rs.R.bind, Rs.R.of, Rs.R.out, opM, prep, Op.deep, opD, sh_int, sh_str, sh_bl, sh_non, sh_tup, sh_lst, asgT, asgTs, asgI, truth, cmpI, ltD, fr_int, fr_str, fr_bl, fr_non, fr_nil, eq_int, dispD, toCell, isTy, I.ty, isN, e]
  rw [e1]
  exact back_ret rfl
theorem eq_path (p : List Int) : eqD (pI p) (.tup []) = some p.isEmpty := by
  unfold eqD
  rw [show (pI p).fit = true from (Fit.mono (fit_tup (n := 0) fun x hx => by
    obtain ⟨n, _, rfl⟩ := List.mem_map.mp hx
    exact fit_int n) (by decide)).fit]
  cases p <;> rfl
theorem compL_map {α : Type} {g : I → Mem → R (Option I)} {f f' : α → I} {M : Mem} : ∀ (xs : List α) (acc : List I), (∀ x ∈ xs, g (f x) M = .ok (some (f' x)) M) → acc.length + xs.length ≤ sizeLine → compL g (xs.map f) acc M = .ok (acc ++ xs.map f') M
  | [], acc, _, _ => by simp [compL]
  | x :: xs, acc, h, hl => by
    simp only [List.length_cons] at hl
    show compL g (f x :: xs.map f) acc M = _
    unfold compL
    rw [h x List.mem_cons_self]
    dsimp only
    rw [if_pos (by omega), compL_map xs (acc ++ [f' x]) (fun y hy => h y (List.mem_cons_of_mem _ hy)) (by rw [List.length_append, List.length_singleton]; omega)]
    simp
theorem mth_join {M : Mem} {b : I} {s : Str} {l : List Str} (h : sh M b = .lst (l.map .str)) (hb : (l.map fun x : Str => x.length).sum + l.length * s.length ≤ 16777216) : mthD M .join (.str s) [b] = some (.str (Txt.join s l)) := by
  show (match sh M b with
    | .lst ys => (strsI ys).bind fun zs => if (zs.map fun x : Str => x.length).sum + zs.length * s.length ≤ 16777216 then some (I.str (Txt.join s zs)) else none
    | _ => none) = _
  rw [h]
  dsimp only
  rw [strsI_strs]
  exact if_pos hb
theorem sum_wd {m : Nat} : ∀ l : List Str, (∀ s ∈ l, s.length ≤ m) → (l.map fun x : Str => x.length).sum ≤ l.length * m
  | [], _ => Nat.zero_le _
  | s :: l, h => by
    have := sum_wd l fun x hx => h x (List.mem_cons_of_mem _ hx)
    have := h s List.mem_cons_self
    simp only [List.map_cons, List.sum_cons, List.length_cons, Nat.succ_mul]
    omega
theorem join_fit {m : Nat} {s : Str} {l : List Str} (h : ∀ x ∈ l, x.length ≤ m) (hs : s.length = 1) (hb : l.length * (m + 1) ≤ 16777216) : (l.map fun x : Str => x.length).sum + l.length * s.length ≤ 16777216 := by
  have := sum_wd l h
  rw [hs]
  rw [Nat.mul_add] at hb
  omega
theorem dot_len : (("." : Str)).length = 1 := by decide +kernel
set_option maxHeartbeats 4000000 in
theorem patht_ok {W F : Nat} {p : List Int} {M : Mem} (h : PW p) (hF : 1 ≤ F) : evCall T.P W F 1 [pI p] M = .ok (.str (pathT p)) M := by
  obtain ⟨k, rfl⟩ : ∃ k, F = k + 1 := ⟨F - 1, by omega⟩
  rw [call0 P1 rfl rfl rfl (flats1 (p_flat p))]
  generalize evCall T.P W k = Φ
  have e1 : evSs Φ W D1.fn.body (List.map some [pI p] ++ List.replicate (D1.fn.ns - D1.fn.np) none) [] = some (.ret (.str (pathT p)) []) := by
    have hq := eq_path p
    have hf : frz [] dpt (pI p) = some (pI p) := frz_flat _ (p_flat p)
    cases p with
    | nil => simp [DefT.fn, evSs, evS, evE, evEs, evIt, Rs.R.bind, Rs.R.of, Rs.R.out, opM, prep, Op.deep, opD, sh_int, sh_str, sh_bl, sh_non, sh_tup, sh_lst, asgT, asgTs, asgI, truth, cmpI, ltD, fr_int, fr_str, fr_bl, fr_non, fr_nil, eq_int, dispD, toCell, isTy, I.ty, isN, D1, pathT, hq, hf, fr_t0]
    | cons x p =>
      have hl := h.l
      have hc := compL_map (g := compP Φ [1] (.op .str (.cons (.var 1) .nil)) (.nm 1) .nil [some (pI (x :: p)), none]) (f := I.int) (f' := fun n => I.str (nT n)) (M := []) (x :: p) [] (fun y hy => by
        have ly := log_num (h.num y hy)
        rw [nT_repr]
        simp [DefT.fn, evSs, evS, evE, evEs, evIt, Rs.R.bind, Rs.R.of, Rs.R.out, opM, prep, Op.deep, opD, sh_int, sh_str, sh_bl, sh_non, sh_tup, sh_lst, asgT, asgTs, asgI, truth, cmpI, ltD, fr_int, fr_str, fr_bl, fr_non, fr_nil, eq_int, dispD, toCell, isTy, I.ty, isN, compP, wipeE, evT, ly]) (by rw [sl24]; simp only [List.length_nil]; omega)
      have em : (x :: p).map (fun n => I.str (nT n)) = ((x :: p).map nT).map .str := by rw [List.map_map]; rfl
      rw [em, List.nil_append] at hc
      have ei : evIt Φ (.seq (.var 0)) [some (pI (x :: p)), none] [] = .ok (.vals ((x :: p).map .int)) [] := by
        simp [DefT.fn, evSs, evS, evE, evEs, evIt, Rs.R.bind, Rs.R.of, Rs.R.out, opM, prep, Op.deep, opD, sh_int, sh_str, sh_bl, sh_non, sh_tup, sh_lst, asgT, asgTs, asgI, truth, cmpI, ltD, fr_int, fr_str, fr_bl, fr_non, fr_nil, eq_int, dispD, toCell, isTy, I.ty, isN, ]
        rfl
      have e2 := ev_comp ei hc
      have j : mthD [] .join (.str ".") [.lst (((x :: p).map nT).map .str)] = some (.str (Txt.join "." ((x :: p).map nT))) := mth_join rfl (join_fit (m := 10) (fun z hz => by
        obtain ⟨n, hn, rfl⟩ := List.mem_map.mp hz
        exact (num_wd (h.num n hn)).1) dot_len (by rw [List.length_map]; omega))
      have et : Txt.join "." ((x :: p).map nT) = pathT (x :: p) := join_dots _ _
      rw [et] at j
      have h1 : evS Φ W (.cond (.op .eq (.cons (.var 0) (.cons (.disp true .nil) .nil))) (.cons (.ret (.const (.str "-"))) .nil) .nil) [some (pI (x :: p)), none] [] = some (.nx [some (pI (x :: p)), none] []) := by
        generalize pI (x :: p) = pv at hq hf ⊢
        simp [DefT.fn, evSs, evS, evE, evEs, evIt, Rs.R.bind, Rs.R.of, Rs.R.out, opM, prep, Op.deep, opD, sh_int, sh_str, sh_bl, sh_non, sh_tup, sh_lst, asgT, asgTs, asgI, truth, cmpI, ltD, fr_int, fr_str, fr_bl, fr_non, fr_nil, eq_int, dispD, toCell, isTy, I.ty, isN, hq, hf, fr_t0]
      refine (ss_nx h1).trans ?_
      generalize pI (x :: p) = pv at e2 ⊢
      generalize ((x :: p).map nT).map I.str = L at e2 j
      rw [evSs, evS, evE, evE]
      simp [Rs.R.bind, Rs.R.of, Rs.R.out, recv, sh_str, evEs, e2, j]
  rw [e1]
  exact back_ret rfl
end K75

namespace K75
open PySem PySem.Spec PyProof.Rows L2 Rs
def stNs (s : StV) : List Int := s.room :: s.wants :: s.rounds :: (if s.called then 1 else 0) :: s.slots
def stW (s : StV) : List Str := "state" :: (stNs s).map nT
theorem stNs_num {s : StV} (h : StOk s) : ∀ n ∈ stNs s, num n := by
  intro n hn
  unfold stNs at hn
  simp only [List.mem_cons] at hn
  rcases hn with rfl | rfl | rfl | rfl | hn
  · exact h.r
  · exact h.w
  · exact h.o
  · split <;> exact ⟨by decide, by decide⟩
  · exact h.s n hn
theorem w_state : Wd 10 "state" := wd_of (by decide +kernel)
theorem stW_wd {s : StV} (h : StOk s) : ∀ w ∈ stW s, Wd 10 w := by
  intro w hw
  rcases List.mem_cons.mp hw with rfl | hw
  · exact w_state
  · obtain ⟨n, hn, rfl⟩ := List.mem_map.mp hw
    exact num_wd (stNs_num h n hn)
theorem P3 : T.P 3 = some D3.fn := rfl
theorem sp_len : ((" " : Str)).length = 1 := by decide +kernel
theorem addL {a b : List I} (h : a.length + b.length ≤ 200000) : addD (.lst a) (.lst b) = some (.lst (a ++ b)) := by
  show (if a.length + b.length ≤ sizeLine then some (I.lst (a ++ b)) else none) = _
  rw [if_pos (by rw [sl24]; omega)]
set_option maxHeartbeats 4000000 in
theorem stline_ok {W F : Nat} {s : StV} {M : Mem} (h : StOk s) (hF : 1 ≤ F) : evCall T.P W F 3 [stI (some s)] M = .ok (.str (Txt.join " " (stW s))) M := by
  obtain ⟨k, rfl⟩ : ∃ k, F = k + 1 := ⟨F - 1, by omega⟩
  rw [call0 P3 rfl rfl rfl (flats1 (stI_flat (some s)))]
  generalize evCall T.P W k = Φ
  have hl := h.l
  have e1 : evSs Φ W D3.fn.body (List.map some [stI (some s)] ++ List.replicate (D3.fn.ns - D3.fn.np) none) [] = some (.ret (.str (Txt.join " " (stW s))) []) := by
    let τ : Rs.Env := [some (stI (some s)), some (.lst ((stNs s).map .int)), some (.int s.room), some (.tup (s.slots.map .int)), some (.int s.wants), some (.int s.rounds), some (.bl s.called), none]
    have h1 : evS Φ W (.asg (.tup (.cons (.nm 2) (.cons (.nm 3) (.cons (.nm 4) (.cons (.nm 5) (.cons (.nm 6) .nil)))))) (.var 0)) [some (stI (some s)), none, none, none, none, none, none, none] [] = some (.nx [some (stI (some s)), none, some (.int s.room), some (.tup (s.slots.map .int)), some (.int s.wants), some (.int s.rounds), some (.bl s.called), none] []) := by
      simp [DefT.fn, evSs, evS, evE, evEs, evIt, Rs.R.bind, Rs.R.of, Rs.R.out, opM, prep, Op.deep, opD, sh_int, sh_str, sh_bl, sh_non, sh_tup, sh_lst, asgT, asgTs, asgI, truth, cmpI, ltD, fr_int, fr_str, fr_bl, fr_non, fr_nil, eq_int, dispD, toCell, isTy, I.ty, isN, stI]
    have ha : addD (.lst [.int s.room, .int s.wants, .int s.rounds, .int (if s.called = true then 1 else 0)]) (.lst (s.slots.map .int)) = some (.lst ((stNs s).map .int)) := addL (a := [.int s.room, .int s.wants, .int s.rounds, .int (if s.called = true then 1 else 0)]) (b := s.slots.map .int) (by rw [List.length_map]; simp only [List.length_cons, List.length_nil]; omega)
    have h2 : evS Φ W (.asg (.nm 1) (.op .add (.cons (.disp false (.cons (.var 2) (.cons (.var 4) (.cons (.var 5) (.cons (.op .int (.cons (.var 6) .nil)) .nil))))) (.cons (.op .list (.cons (.var 3) .nil)) .nil)))) [some (stI (some s)), none, some (.int s.room), some (.tup (s.slots.map .int)), some (.int s.wants), some (.int s.rounds), some (.bl s.called), none] [] = some (.nx τ []) := by
      simp [DefT.fn, evSs, evS, evE, evEs, evIt, Rs.R.bind, Rs.R.of, Rs.R.out, opM, prep, Op.deep, opD, sh_int, sh_str, sh_bl, sh_non, sh_tup, sh_lst, asgT, asgTs, asgI, truth, cmpI, ltD, fr_int, fr_str, fr_bl, fr_non, fr_nil, eq_int, dispD, toCell, isTy, I.ty, isN, ha, τ]
    refine (ss_nx h1).trans ((ss_nx h2).trans ?_)
    have nl : (stNs s).length ≤ 44 := by
      unfold stNs
      simp only [List.length_cons]; omega
    have hc := compL_map (g := compP Φ [7] (.op .str (.cons (.var 7) .nil)) (.nm 7) .nil τ) (f := I.int) (f' := fun n => I.str (nT n)) (M := []) (stNs s) [] (fun y hy => by
      have ly := log_num (stNs_num h y hy)
      rw [nT_repr]
      simp [DefT.fn, evSs, evS, evE, evEs, evIt, Rs.R.bind, Rs.R.of, Rs.R.out, opM, prep, Op.deep, opD, sh_int, sh_str, sh_bl, sh_non, sh_tup, sh_lst, asgT, asgTs, asgI, truth, cmpI, ltD, fr_int, fr_str, fr_bl, fr_non, fr_nil, eq_int, dispD, toCell, isTy, I.ty, isN, τ, compP, wipeE, evT, ly]) (by rw [sl24]; simp only [List.length_nil]; omega)
    have em : (stNs s).map (fun n => I.str (nT n)) = ((stNs s).map nT).map .str := by rw [List.map_map]; rfl
    rw [em, List.nil_append] at hc
    have ei : evIt Φ (.seq (.var 1)) τ [] = .ok (.vals ((stNs s).map .int)) [] := by
      simp [DefT.fn, evSs, evS, evE, evEs, evIt, Rs.R.bind, Rs.R.of, Rs.R.out, opM, prep, Op.deep, opD, sh_int, sh_str, sh_bl, sh_non, sh_tup, sh_lst, asgT, asgTs, asgI, truth, cmpI, ltD, fr_int, fr_str, fr_bl, fr_non, fr_nil, eq_int, dispD, toCell, isTy, I.ty, isN, τ]
      rfl
    have e2 := ev_comp ei hc
    have j : mthD [] .join (.str " ") [.lst (.str "state" :: ((stNs s).map nT).map .str)] = some (.str (Txt.join " " (stW s))) := mth_join (l := stW s) rfl (join_fit (m := 10) (fun z hz => (stW_wd h z hz).1) sp_len (by unfold stW; rw [List.length_cons, List.length_map]; omega))
    have ha2 : addD (.lst [.str "state"]) (.lst (((stNs s).map nT).map .str)) = some (.lst (.str "state" :: ((stNs s).map nT).map .str)) := addL (a := [.str "state"]) (by rw [List.length_map, List.length_map]; simp only [List.length_cons, List.length_nil]; omega)
    generalize ((stNs s).map nT).map I.str = L at e2 j ha2
    clear_value τ
    have ed : evE Φ (.disp false (.cons (.const (.str "state")) .nil)) τ [] = .ok (.lst [.str "state"]) [] := by simp [DefT.fn, evSs, evS, evE, evEs, evIt, Rs.R.bind, Rs.R.of, Rs.R.out, opM, prep, Op.deep, opD, sh_int, sh_str, sh_bl, sh_non, sh_tup, sh_lst, asgT, asgTs, asgI, truth, cmpI, ltD, fr_int, fr_str, fr_bl, fr_non, fr_nil, eq_int, dispD, toCell, isTy, I.ty, isN, ]
    have ee : evE Φ (.op .add (.cons (.disp false (.cons (.const (.str "state")) .nil)) (.cons (.comp [7] (.op .str (.cons (.var 7) .nil)) (.nm 7) (.seq (.var 1)) .nil) .nil))) τ [] = .ok (.lst (.str "state" :: L)) [] := by
      rw [evE, evEs, ed]
      show Rs.R.bind (Rs.R.bind (evEs Φ _ τ []) _) _ = _
      rw [evEs, e2]
      show Rs.R.of (addD (.lst [.str "state"]) (.lst L)) [] = _
      rw [ha2]; rfl
    have es : evS Φ W (.ret (.meth .join (.const (.str " ")) (.cons (.op .add (.cons (.disp false (.cons (.const (.str "state")) .nil)) (.cons (.comp [7] (.op .str (.cons (.var 7) .nil)) (.nm 7) (.seq (.var 1)) .nil) .nil))) .nil))) τ [] = some (.ret (.str (Txt.join " " (stW s))) []) := by
      rw [evS, evE, evE]
      show Rs.R.out (Rs.R.bind (evEs Φ _ τ []) _) τ _ = _
      rw [evEs, ee]
      show Rs.R.out (Rs.R.of (mthD [] .join (.str " ") [.lst (.str "state" :: L)]) []) τ _ = _
      rw [j]; rfl
    rw [evSs, es]
  rw [e1]
  exact back_ret rfl
end K75

namespace K75
open PySem PySem.Spec PyProof.Rows L2 Rs
def noW (n : NoV) : List Str := ["note", nT n.1, n.2.1, nT n.2.2]
def jn (ws : List Str) : Str := Txt.join " " ws
theorem w_note : Wd 10 "note" := wd_of (by decide +kernel)
theorem notes_wd : ∀ w ∈ NOTES, Wd 10 w := fun w hw => wd_of ((by decide +kernel : ∀ w ∈ NOTES, wdB 10 w = true) w hw)
theorem noW_wd {n : NoV} (h : NoOk n) : ∀ w ∈ noW n, Wd 10 w := by
  intro w hw
  unfold noW at hw
  simp only [List.mem_cons, List.not_mem_nil, or_false] at hw
  rcases hw with rfl | rfl | rfl | rfl
  · exact w_note
  · exact num_wd h.h
  · exact notes_wd _ h.w
  · exact num_wd h.n
theorem mj {M : Mem} {l : List Str} {m : Nat} (h : ∀ w ∈ l, Wd m w) (hl : l.length * (m + 1) ≤ 16777216) : mthD M .join (.str " ") [.lst (l.map .str)] = some (.str (jn l)) := mth_join rfl (join_fit (m := m) (fun x hx => (h x hx).1) sp_len hl)
set_option maxHeartbeats 4000000 in
theorem loop4 {Φ : Oracle} {W : Nat} {x0 x2 x3 x4 x5 x6 x7 : Option I} : ∀ (ns : List NoV) (l : List Str) (x8 x9 x10 : Option I), (∀ n ∈ ns, NoOk n) → l.length + ns.length ≤ 1000 →
    ∃ y8 y9 y10, eachL (.tup (.cons (.nm 8) (.cons (.nm 9) (.cons (.nm 10) .nil)))) (evSs Φ W B4_0) (ns.map noI) [x0, some (.obj 0), x2, x3, x4, x5, x6, x7, x8, x9, x10] [.lst (l.map .str)] = some (.nx [x0, some (.obj 0), x2, x3, x4, x5, x6, x7, y8, y9, y10] [.lst ((l ++ ns.map (jn ∘ noW)).map .str)])
  | [], l, x8, x9, x10, _, _ => ⟨x8, x9, x10, by simp [eachL]⟩
  | n :: ns, l, x8, x9, x10, h, hl => by
    rw [List.length_cons] at hl
    have hn := h n List.mem_cons_self
    have l1 := log_num hn.h
    have l2 := log_num hn.n
    have j : mthD [.lst (l.map .str)] .join (.str " ") [.lst [.str "note", .str (nT n.1), .str n.2.1, .str (nT n.2.2)]] = some (.str (jn (noW n))) := mj (noW_wd hn) (by unfold noW; simp only [List.length_cons, List.length_nil]; omega)
    rw [nT_repr, nT_repr] at j
    have hsz : l.length < sizeLine := by rw [sl24]; omega
    obtain ⟨y8, y9, y10, e⟩ := loop4 (x0 := x0) (x2 := x2) (x3 := x3) (x4 := x4) (x5 := x5) (x6 := x6) (x7 := x7) ns (l ++ [jn (noW n)]) (some (.int n.1)) (some (.str n.2.1)) (some (.int n.2.2)) (fun z hz => h z (List.mem_cons_of_mem _ hz)) (by simp; omega)
    refine ⟨y8, y9, y10, ?_⟩
    show eachL _ (evSs Φ W B4_0) (noI n :: ns.map noI) _ _ = _
    unfold eachL
    have ea : asgT (.tup (.cons (.nm 8) (.cons (.nm 9) (.cons (.nm 10) .nil)))) (noI n) [x0, some (.obj 0), x2, x3, x4, x5, x6, x7, x8, x9, x10] = some [x0, some (.obj 0), x2, x3, x4, x5, x6, x7, some (.int n.1), some (.str n.2.1), some (.int n.2.2)] := by simp [asgT, asgTs, asgI, noI]
    have eb : evSs Φ W B4_0 [x0, some (.obj 0), x2, x3, x4, x5, x6, x7, some (.int n.1), some (.str n.2.1), some (.int n.2.2)] [.lst (l.map .str)] = some (.nx [x0, some (.obj 0), x2, x3, x4, x5, x6, x7, some (.int n.1), some (.str n.2.1), some (.int n.2.2)] [.lst ((l ++ [jn (noW n)]).map .str)]) := by
      simp [DefT.fn, evSs, evS, evE, evEs, evIt, Rs.R.bind, Rs.R.of, Rs.R.out, opM, prep, Op.deep, opD, sh_int, sh_str, sh_bl, sh_non, sh_tup, sh_lst, asgT, asgTs, asgI, truth, cmpI, ltD, fr_int, fr_str, fr_bl, fr_non, fr_nil, eq_int, dispD, toCell, isTy, I.ty, isN, B4_0, l1, l2, recv, j, hsz]
    rw [ea]
    dsimp only
    rw [eb]
    dsimp only
    rw [e]
    simp
end K75

namespace K75
open PySem PySem.Spec PyProof.Rows L2 Rs
theorem endT_wd {e : EndV} (h : EndOk e) : Wd 30 (endT e) := by
  cases e with
  | none => exact w_dash.mono (by decide)
  | some t =>
    obtain ⟨w, a, b⟩ := t
    obtain ⟨hw, ha, hb⟩ := h w a b rfl
    exact (((((ends_wd w hw).app w_colon).app (num_wd ha)).app w_colon).app (num_wd hb)).mono (by decide)
theorem pathT_wd {p : List Int} (h : PW p) : Wd 120 (pathT p) := by
  cases p with
  | nil => exact w_dash.mono (by decide)
  | cons x p =>
    have hl := h.l
    rw [List.length_cons] at hl
    refine (dots_wd (p.map nT) (nT x) 10 (num_wd (h.num x List.mem_cons_self)) fun s hs => ?_).mono (by rw [List.length_map]; omega)
    obtain ⟨n, hn, rfl⟩ := List.mem_map.mp hs
    exact num_wd (h.num n (List.mem_cons_of_mem _ hn))
theorem names_wd : ∀ w ∈ NAMES, Wd 8 w := fun w hw => wd_of ((by decide +kernel : ∀ w ∈ NAMES, wdB 8 w = true) w hw)
theorem w_house : Wd 8 "house" := wd_of (by decide +kernel)
theorem PthOk.pw {cs p : List Int} (h : PthOk cs p) (hc : ∀ c ∈ cs, c ≤ 10) : PW p := ⟨by have := hc _ h.l; omega, h.b⟩
def hdW (h : HoV) : List Str := ["house", pathT h.path, h.name, nT h.begun, endT h.fin]
def stL : Option StV → List (List Str)
  | none => []
  | some s => [stW s]
def hoL (h : HoV) : List (List Str) := hdW h :: (stL h.state ++ h.diary.map noW)
theorem HoOk.pw {h : HoV} (o : HoOk h) : PW h.path := o.p.pw (by decide)
theorem hdW_wd {h : HoV} (o : HoOk h) : ∀ w ∈ hdW h, Wd 120 w := by
  intro w hw
  unfold hdW at hw
  simp only [List.mem_cons, List.not_mem_nil, or_false] at hw
  rcases hw with rfl | rfl | rfl | rfl | rfl
  · exact w_house.mono (by decide)
  · exact pathT_wd o.pw
  · exact (names_wd _ o.n).mono (by decide)
  · exact (num_wd o.b).mono (by decide)
  · exact (endT_wd o.f).mono (by decide)
theorem eq_st (st : Option StV) : eqD (stI st) (.tup []) = some st.isNone := by
  cases st with
  | none => rfl
  | some s =>
    unfold eqD
    have hs : Fit 1 (.tup (s.slots.map .int)) := fit_tup (n := 0) fun x hx => by
      obtain ⟨n, _, rfl⟩ := List.mem_map.mp hx
      exact fit_int n
    rw [show (stI (some s)).fit = true from (Fit.mono (fit_tup (n := 1) fun x hx => by
      simp only [List.mem_cons, List.not_mem_nil, or_false] at hx
      rcases hx with rfl | rfl | rfl | rfl | rfl
      · exact fit_int _
      · exact hs
      · exact fit_int _
      · exact fit_int _
      · exact fit_bl _) (by decide)).fit]
    rfl
theorem P4 : T.P 4 = some D4.fn := rfl
set_option maxHeartbeats 4000000 in
theorem holines_ok {W F : Nat} {h : HoV} {M : Mem} (o : HoOk h) (hF : 2 ≤ F) : evCall T.P W F 4 [hoI h] M = .ok (.lst (((hoL h).map jn).map .str)) M := by
  obtain ⟨k, rfl⟩ : ∃ k, F = k + 1 := ⟨F - 1, by omega⟩
  rw [call0 P4 rfl rfl rfl (flats1 (ho_flat h))]
  have hp : ∀ M, evCall T.P W k 1 [pI h.path] M = .ok (.str (pathT h.path)) M := fun M => patht_ok o.pw (by omega)
  have he : ∀ M, evCall T.P W k 2 [eI h.fin] M = .ok (.str (endT h.fin)) M := fun M => endt_ok o.f (by omega)
  have hs : ∀ (s : StV) (M : Mem), h.state = some s → evCall T.P W k 3 [stI (some s)] M = .ok (.str (jn (stW s))) M := fun s M z => stline_ok (o.so s z) (by omega)
  generalize evCall T.P W k = Φ at hp he hs
  have lb := log_num o.b
  have j0 : mthD [] .join (.str " ") [.lst [.str "house", .str (pathT h.path), .str h.name, .str (nT h.begun), .str (endT h.fin)]] = some (.str (jn (hdW h))) := mj (hdW_wd o) (by unfold hdW; simp only [List.length_cons, List.length_nil]; omega)
  rw [nT_repr] at j0
  let τ (y : Option I) : Rs.Env := [some (hoI h), y, some (pI h.path), some (.str h.name), some (.int h.begun), some (eI h.fin), some (.tup (h.diary.map noI)), some (stI h.state), none, none, none]
  have h1 : evS Φ W (.asg (.tup (.cons (.nm 2) (.cons (.nm 3) (.cons (.nm 4) (.cons (.nm 5) (.cons (.nm 6) (.cons (.nm 7) .nil))))))) (.var 0)) [some (hoI h), none, none, none, none, none, none, none, none, none, none] [] = some (.nx (τ none) []) := by
    simp [DefT.fn, evSs, evS, evE, evEs, evIt, Rs.R.bind, Rs.R.of, Rs.R.out, opM, prep, Op.deep, opD, sh_int, sh_str, sh_bl, sh_non, sh_tup, sh_lst, asgT, asgTs, asgI, truth, cmpI, ltD, fr_int, fr_str, fr_bl, fr_non, fr_nil, eq_int, dispD, toCell, isTy, I.ty, isN, hoI, τ]
  have h2 : evS Φ W (.asg (.nm 1) (.cell (.disp false (.cons (.meth .join (.const (.str " ")) (.cons (.disp false (.cons (.const (.str "house")) (.cons (.call 1 (.cons (.var 2) .nil)) (.cons (.var 3) (.cons (.op .str (.cons (.var 4) .nil)) (.cons (.call 2 (.cons (.var 5) .nil)) .nil)))))) .nil)) .nil)))) (τ none) [] = some (.nx (τ (some (.obj 0))) [.lst [.str (jn (hdW h))]]) := by
    simp [DefT.fn, evSs, evS, evE, evEs, evIt, Rs.R.bind, Rs.R.of, Rs.R.out, opM, prep, Op.deep, opD, sh_int, sh_str, sh_bl, sh_non, sh_tup, sh_lst, asgT, asgTs, asgI, truth, cmpI, ltD, fr_int, fr_str, fr_bl, fr_non, fr_nil, eq_int, dispD, toCell, isTy, I.ty, isN, τ, hp, he, lb, recv, j0]
  have h3 : evS Φ W (.cond (.op .ne (.cons (.var 7) (.cons (.disp true .nil) .nil))) (.cons (.ex (.app (.var 1) (.call 3 (.cons (.var 7) .nil)))) .nil) .nil) (τ (some (.obj 0))) [.lst [.str (jn (hdW h))]] = some (.nx (τ (some (.obj 0))) [.lst (((hdW h :: stL h.state).map jn).map .str)]) := by
    have hq := eq_st h.state
    have hf : ∀ M, frz M dpt (stI h.state) = some (stI h.state) := fun M => frz_flat _ (stI_flat _)
    have s1 : 1 < sizeLine := by rw [sl24]; decide
    cases hst : h.state with
    | none =>
      rw [hst] at hq hf
      simp only [τ, hst]
      generalize stI none = sv at hq hf ⊢
      simp [DefT.fn, evSs, evS, evE, evEs, evIt, Rs.R.bind, Rs.R.of, Rs.R.out, opM, prep, Op.deep, opD, sh_int, sh_str, sh_bl, sh_non, sh_tup, sh_lst, asgT, asgTs, asgI, truth, cmpI, ltD, fr_int, fr_str, fr_bl, fr_non, fr_nil, eq_int, dispD, toCell, isTy, I.ty, isN, hq, hf, fr_t0, stL]
    | some s =>
      have e3 := hs s [.lst [.str (jn (hdW h))]] hst
      rw [hst] at hq hf
      simp only [τ, hst]
      generalize stI (some s) = sv at hq hf e3 ⊢
      simp [DefT.fn, evSs, evS, evE, evEs, evIt, Rs.R.bind, Rs.R.of, Rs.R.out, opM, prep, Op.deep, opD, sh_int, sh_str, sh_bl, sh_non, sh_tup, sh_lst, asgT, asgTs, asgI, truth, cmpI, ltD, fr_int, fr_str, fr_bl, fr_non, fr_nil, eq_int, dispD, toCell, isTy, I.ty, isN, hq, hf, fr_t0, stL, e3, s1]
  have stl : (hdW h :: stL h.state).length ≤ 2 := by
    cases h.state <;> simp [stL]
  obtain ⟨y8, y9, y10, e4⟩ := loop4 (Φ := Φ) (W := W) (x0 := some (hoI h)) (x2 := some (pI h.path)) (x3 := some (.str h.name)) (x4 := some (.int h.begun)) (x5 := some (eI h.fin)) (x6 := some (.tup (h.diary.map noI))) (x7 := some (stI h.state)) h.diary ((hdW h :: stL h.state).map jn) none none none o.d (by have := o.dl; rw [List.length_map]; omega)
  have hfin : (hdW h :: stL h.state).map jn ++ h.diary.map (jn ∘ noW) = (hoL h).map jn := by
    unfold hoL
    rw [List.map_cons, List.map_cons, List.map_append, List.map_map]; rfl
  rw [hfin] at e4
  have h4 : evS Φ W (.each (.tup (.cons (.nm 8) (.cons (.nm 9) (.cons (.nm 10) .nil)))) (.seq (.var 6)) B4_0) (τ (some (.obj 0))) [.lst (((hdW h :: stL h.state).map jn).map .str)] = some (.nx [some (hoI h), some (.obj 0), some (pI h.path), some (.str h.name), some (.int h.begun), some (eI h.fin), some (.tup (h.diary.map noI)), some (stI h.state), y8, y9, y10] [.lst (((hoL h).map jn).map .str)]) := by
    have ei : evIt Φ (.seq (.var 6)) (τ (some (.obj 0))) [.lst (((hdW h :: stL h.state).map jn).map .str)] = .ok (.vals (h.diary.map noI)) [.lst (((hdW h :: stL h.state).map jn).map .str)] := rfl
    rw [evS, ei]
    exact e4
  have e1 : evSs Φ W D4.fn.body (List.map some [hoI h] ++ List.replicate (D4.fn.ns - D4.fn.np) none) [] = some (.ret (.obj 0) [.lst (((hoL h).map jn).map .str)]) := by
    refine (ss_nx h1).trans ((ss_nx h2).trans ((ss_nx h3).trans ((ss_nx h4).trans ?_)))
    simp [DefT.fn, evSs, evS, evE, evEs, evIt, Rs.R.bind, Rs.R.of, Rs.R.out, opM, prep, Op.deep, opD, sh_int, sh_str, sh_bl, sh_non, sh_tup, sh_lst, asgT, asgTs, asgI, truth, cmpI, ltD, fr_int, fr_str, fr_bl, fr_non, fr_nil, eq_int, dispD, toCell, isTy, I.ty, isN, ]
  rw [e1]
  exact back_obj (i := 0) rfl (flats_strs _)
end K75

namespace K75
open PySem PySem.Spec PyProof.Rows L2 Rs
def asW (a : AsV) : List Str := ["ask", pathT a.path, a.who, nT a.number, nT a.sent, endT a.fin]
theorem w_ask : Wd 8 "ask" := wd_of (by decide +kernel)
theorem AsOk.pw {a : AsV} (o : AsOk a) : PW a.path := o.p.pw (by decide)
theorem asW_wd {a : AsV} (o : AsOk a) : ∀ w ∈ asW a, Wd 120 w := by
  intro w hw
  unfold asW at hw
  simp only [List.mem_cons, List.not_mem_nil, or_false] at hw
  rcases hw with rfl | rfl | rfl | rfl | rfl | rfl
  · exact w_ask.mono (by decide)
  · exact pathT_wd o.pw
  · exact (names_wd _ o.w).mono (by decide)
  · exact (num_wd o.n).mono (by decide)
  · exact (num_wd o.s).mono (by decide)
  · exact (endT_wd o.f).mono (by decide)
set_option maxHeartbeats 4000000 in
theorem loop5a {Φ : Oracle} {W : Nat} {x0 x2 x3 x4 x5 : Option I} (hp : ∀ (p : List Int) (M : Mem), PW p → Φ 1 [pI p] M = .ok (.str (pathT p)) M) (he : ∀ (e : EndV) (M : Mem), EndOk e → Φ 2 [eI e] M = .ok (.str (endT e)) M) :
    ∀ (as : List AsV) (l : List Str) (x6 x7 x8 x9 x10 : Option I), (∀ a ∈ as, AsOk a) → l.length + as.length ≤ 1000 →
    ∃ y6 y7 y8 y9 y10, eachL (.tup (.cons (.nm 6) (.cons (.nm 7) (.cons (.nm 8) (.cons (.nm 9) (.cons (.nm 10) .nil)))))) (evSs Φ W B5_0) (as.map asI) [x0, some (.obj 0), x2, x3, x4, x5, x6, x7, x8, x9, x10] [.lst (l.map .str)] = some (.nx [x0, some (.obj 0), x2, x3, x4, x5, y6, y7, y8, y9, y10] [.lst ((l ++ as.map (jn ∘ asW)).map .str)])
  | [], l, x6, x7, x8, x9, x10, _, _ => ⟨x6, x7, x8, x9, x10, by simp [eachL]⟩
  | a :: as, l, x6, x7, x8, x9, x10, h, hl => by
    rw [List.length_cons] at hl
    have o := h a List.mem_cons_self
    have l1 := log_num o.n
    have l2 := log_num o.s
    have e1 := hp a.path [.lst (l.map .str)] o.pw
    have e2 := he a.fin [.lst (l.map .str)] o.f
    have j : mthD [.lst (l.map .str)] .join (.str " ") [.lst [.str "ask", .str (pathT a.path), .str a.who, .str (nT a.number), .str (nT a.sent), .str (endT a.fin)]] = some (.str (jn (asW a))) := mj (asW_wd o) (by unfold asW; simp only [List.length_cons, List.length_nil]; omega)
    rw [nT_repr, nT_repr] at j
    have hsz : l.length < sizeLine := by rw [sl24]; omega
    obtain ⟨y6, y7, y8, y9, y10, e⟩ := loop5a (x0 := x0) (x2 := x2) (x3 := x3) (x4 := x4) (x5 := x5) hp he as (l ++ [jn (asW a)]) (some (pI a.path)) (some (.str a.who)) (some (.int a.number)) (some (.int a.sent)) (some (eI a.fin)) (fun z hz => h z (List.mem_cons_of_mem _ hz)) (by simp; omega)
    refine ⟨y6, y7, y8, y9, y10, ?_⟩
    show eachL _ (evSs Φ W B5_0) (asI a :: as.map asI) _ _ = _
    unfold eachL
    have ea : asgT (.tup (.cons (.nm 6) (.cons (.nm 7) (.cons (.nm 8) (.cons (.nm 9) (.cons (.nm 10) .nil)))))) (asI a) [x0, some (.obj 0), x2, x3, x4, x5, x6, x7, x8, x9, x10] = some [x0, some (.obj 0), x2, x3, x4, x5, some (pI a.path), some (.str a.who), some (.int a.number), some (.int a.sent), some (eI a.fin)] := by simp [asgT, asgTs, asgI, asI]
    have eb : evSs Φ W B5_0 [x0, some (.obj 0), x2, x3, x4, x5, some (pI a.path), some (.str a.who), some (.int a.number), some (.int a.sent), some (eI a.fin)] [.lst (l.map .str)] = some (.nx [x0, some (.obj 0), x2, x3, x4, x5, some (pI a.path), some (.str a.who), some (.int a.number), some (.int a.sent), some (eI a.fin)] [.lst ((l ++ [jn (asW a)]).map .str)]) := by
      simp [DefT.fn, evSs, evS, evE, evEs, evIt, Rs.R.bind, Rs.R.of, Rs.R.out, opM, prep, Op.deep, opD, sh_int, sh_str, sh_bl, sh_non, sh_tup, sh_lst, asgT, asgTs, asgI, truth, cmpI, ltD, fr_int, fr_str, fr_bl, fr_non, fr_nil, eq_int, dispD, toCell, isTy, I.ty, isN, B5_0, l1, l2, recv, e1, e2, j, hsz]
    rw [ea]
    dsimp only
    rw [eb]
    dsimp only
    rw [e]
    simp
def hosL : List HoV → List (List Str)
  | [] => []
  | h :: hs => hoL h ++ hosL hs
theorem hoL_len {h : HoV} (o : HoOk h) : (hoL h).length ≤ 5 := by
  have := o.dl
  unfold hoL
  cases h.state <;> simp [stL] <;> omega
set_option maxHeartbeats 4000000 in
theorem loop5h {Φ : Oracle} {W : Nat} {x0 x3 x4 x5 x6 x7 x8 x9 x10 : Option I} (hh : ∀ (h : HoV) (M : Mem), HoOk h → Φ 4 [hoI h] M = .ok (.lst (((hoL h).map jn).map .str)) M) :
    ∀ (hs : List HoV) (l : List Str) (x2 : Option I), (∀ h ∈ hs, HoOk h) → l.length + 5 * hs.length ≤ 1000 →
    ∃ y2, eachL (.nm 2) (evSs Φ W B5_1) (hs.map hoI) [x0, some (.obj 0), x2, x3, x4, x5, x6, x7, x8, x9, x10] [.lst (l.map .str)] = some (.nx [x0, some (.obj 0), y2, x3, x4, x5, x6, x7, x8, x9, x10] [.lst ((l ++ (hosL hs).map jn).map .str)])
  | [], l, x2, _, _ => ⟨x2, by simp [eachL, hosL]⟩
  | h :: hs, l, x2, ok, hl => by
    rw [List.length_cons] at hl
    have o := ok h List.mem_cons_self
    have ln := hoL_len o
    have e1 := hh h [.lst (l.map .str)] o
    have hsz : l.length + (hoL h).length ≤ sizeLine := by rw [sl24]; omega
    obtain ⟨y2, e⟩ := loop5h (x0 := x0) (x3 := x3) (x4 := x4) (x5 := x5) (x6 := x6) (x7 := x7) (x8 := x8) (x9 := x9) (x10 := x10) hh hs (l ++ (hoL h).map jn) (some (hoI h)) (fun z hz => ok z (List.mem_cons_of_mem _ hz)) (by rw [List.length_append, List.length_map]; omega)
    refine ⟨y2, ?_⟩
    show eachL _ (evSs Φ W B5_1) (hoI h :: hs.map hoI) _ _ = _
    unfold eachL
    have ea : asgT (.nm 2) (hoI h) [x0, some (.obj 0), x2, x3, x4, x5, x6, x7, x8, x9, x10] = some [x0, some (.obj 0), some (hoI h), x3, x4, x5, x6, x7, x8, x9, x10] := by simp [asgT, asgI]
    have eb : evSs Φ W B5_1 [x0, some (.obj 0), some (hoI h), x3, x4, x5, x6, x7, x8, x9, x10] [.lst (l.map .str)] = some (.nx [x0, some (.obj 0), some (hoI h), x3, x4, x5, x6, x7, x8, x9, x10] [.lst ((l ++ (hoL h).map jn).map .str)]) := by
      simp [DefT.fn, evSs, evS, evE, evEs, evIt, Rs.R.bind, Rs.R.of, Rs.R.out, opM, prep, Op.deep, opD, sh_int, sh_str, sh_bl, sh_non, sh_tup, sh_lst, asgT, asgTs, asgI, truth, cmpI, ltD, fr_int, fr_str, fr_bl, fr_non, fr_nil, eq_int, dispD, toCell, isTy, I.ty, isN, B5_1, e1, hsz]
    rw [ea]
    dsimp only
    rw [eb]
    dsimp only
    rw [e]
    simp [hosL]
end K75

namespace K75
open PySem PySem.Spec PyProof.Rows L2 Rs
local macro_rules | `(tactic| array_get_dec) => `(tactic| first
  | with_reducible refine Rs.pe_op ?_
  | with_reducible refine Rs.pe_cons ?_
  | ((with_reducible apply Rs.pe_var); rfl)
  | with_reducible refine Rs.pe_const ?_
  | with_reducible refine Rs.pe_nil ?_
  | with_reducible refine Rs.pe_glob ?_
  | with_reducible refine Rs.po_add ?_
  | with_reducible refine Rs.po_sub ?_
  | with_reducible refine Rs.po_mul (by omega) (by omega) ?_
  | with_reducible refine Rs.po_mod (by omega) ?_
  | with_reducible refine Rs.po_fdiv (by omega) (by omega) ?_
  | with_reducible refine Rs.po_pow6 ?_
  | with_reducible refine Rs.po_pow18 ?_
  | with_reducible refine Rs.po_neg ?_
  | with_reducible refine Rs.po_lt ?_
  | with_reducible refine Rs.po_le ?_
  | with_reducible refine Rs.po_gt ?_
  | with_reducible refine Rs.po_ge ?_
  | with_reducible refine Rs.po_eqI ?_
  | with_reducible refine Rs.po_neI ?_
  | with_reducible refine Rs.po_eqS (by first | assumption | exact strOk_of (by decide +kernel)) (by first | assumption | exact strOk_of (by decide +kernel)) ?_
  | with_reducible refine Rs.po_neS (by first | assumption | exact strOk_of (by decide +kernel)) (by first | assumption | exact strOk_of (by decide +kernel)) ?_
  | ((with_reducible apply Rs.po_isN); rfl)
  | ((with_reducible apply Rs.po_notN); rfl)
  | with_reducible refine Rs.po_isB ?_
  | ((with_reducible apply Rs.po_isT); rfl)
  | ((with_reducible apply Rs.po_ixT); first | assumption | exact Rs.at0 | exact Rs.at1 | exact Rs.at2 | exact Rs.at3 | exact Rs.at4 | rfl)
  | ((with_reducible apply Rs.po_ixL); first | assumption | exact Rs.at0 | exact Rs.at1 | exact Rs.at2 | exact Rs.at3 | exact Rs.at4 | rfl)
  | ((with_reducible apply Rs.po_ixW); first | assumption | exact Rs.at0 | exact Rs.at1 | exact Rs.at2 | exact Rs.at3 | exact Rs.at4 | rfl)
  | with_reducible refine Rs.po_lenL ?_
  | with_reducible refine Rs.po_lenT ?_
  | with_reducible refine Rs.po_lenW ?_
  | with_reducible refine Rs.po_lenScr ?_
  | with_reducible refine Rs.po_lenS (by assumption) ?_
  | ((with_reducible apply Rs.po_lenO); rfl)
  | ((with_reducible apply Rs.po_tupL); rfl)
  | with_reducible refine Rs.po_tupT ?_
  | with_reducible refine Rs.po_lstT ?_
  | with_reducible refine Rs.po_intB ?_
  | with_reducible refine Rs.po_intI ?_
  | with_reducible refine Rs.po_abs ?_
  | with_reducible refine Rs.po_strI (by omega) ?_
  | with_reducible refine Rs.po_shScr ?_
  | with_reducible refine Rs.pe_call ?_
  | with_reducible refine Rs.pe_and ?_
  | with_reducible refine Rs.pe_or ?_
  | with_reducible refine Rs.pe_not ?_
  | with_reducible refine Rs.pe_ife ?_
  | with_reducible refine Rs.pe_chain ?_
  | with_reducible refine Rs.pe_meth ?_
  | with_reducible refine Rs.pe_tup ?_
  | with_reducible refine Rs.pe_lst ?_
  | with_reducible refine Rs.tr_bl ?_
  | with_reducible refine Rs.tr_int ?_
  | with_reducible refine Rs.tr_non ?_
  | with_reducible refine Rs.tr_lst ?_
  | with_reducible refine Rs.tr_tup ?_
  | with_reducible refine Rs.if_not ?_
  | ((with_reducible apply Rs.if_tt); rfl)
  | ((with_reducible apply Rs.if_ff); rfl)
  | with_reducible refine Rs.if_tt (by decide) ?_
  | with_reducible refine Rs.if_ff (by decide) ?_
  | with_reducible refine Rs.if_dec (fun _ => ?_) (fun _ => by exfalso; omega)
  | with_reducible refine Rs.if_dec (fun _ => by exfalso; omega) (fun _ => ?_)
  | with_reducible refine Rs.if_dec (fun _ => ?_) (fun _ => ?_)
  | with_reducible refine Rs.ps_app0 ?_
  | with_reducible refine Rs.ps_app1 ?_
  | with_reducible refine Rs.ps_asg ?_
  | with_reducible refine Rs.ps_cond ?_
  | with_reducible refine Rs.ps_ret ?_
  | with_reducible refine Rs.ps_nil ?_
  | with_reducible refine Rs.ps_ex ?_
  | with_reducible refine Rs.ps_pass ?_
  | with_reducible refine Rs.ps_retN ?_
  | ((with_reducible apply Rs.po_nm); exact Nat.le_of_ble_eq_true rfl; simp only [List.set_cons_zero, List.set_cons_succ])
  | ((with_reducible apply Rs.fw_mk); exact Nat.le_of_ble_eq_true rfl)
  | with_reducible refine Rs.in_mk ?_
  | with_reducible refine Rs.bl_mk ?_
  | ((with_reducible refine Rs.ce_lst ?_); simp only [List.length_cons, List.length_nil, Nat.reduceAdd, List.cons_append, List.nil_append])
  | ((with_reducible refine Rs.ce_dic ?_); simp only [List.length_cons, List.length_nil, Nat.reduceAdd, List.cons_append, List.nil_append])
  | with_reducible refine Rs.pe_cell ?_
  | with_reducible refine Rs.pe_app ?_
  | with_reducible refine Rs.pe_ext ?_
  | ((with_reducible apply Rs.ob_mk); rfl)
  | ((with_reducible apply Rs.ap_mk); rfl; (first | omega | (simp only [List.length_append, List.length_map, List.length_cons, List.length_nil]; omega)); simp only [List.set_cons_zero, List.set_cons_succ])
  | ((with_reducible apply Rs.ex_mk); rfl; rfl; (first | omega | (simp only [List.length_append, List.length_map, List.length_cons, List.length_nil]; omega)); simp only [List.set_cons_zero, List.set_cons_succ])
  | with_reducible refine Rs.vs_mk ?_
  | ((with_reducible apply Rs.rc_mk); rfl)
  | with_reducible refine Rs.pi_seq ?_
  | with_reducible refine Rs.pi_range ?_
  | with_reducible refine Rs.pi_enum ?_
  | with_reducible refine Rs.si_tup ?_
  | with_reducible refine Rs.si_lst ?_
  | with_reducible refine Rs.si_wtp ?_
  | with_reducible refine Rs.si_scr ?_
  | with_reducible refine Rs.ri_1 (by omega) (by omega) ?_
  | with_reducible refine Rs.ri_2 (by omega) (by omega) ?_
  | with_reducible refine Rs.li_tup ?_
  | with_reducible refine Rs.li_lst ?_
  | with_reducible refine Rs.ps_each ?_
  | with_reducible refine Rs.beh_nx ?_
  | with_reducible refine Rs.beh_ret ?_
  | with_reducible refine Rs.beh_ex ?_
  | with_reducible refine Rs.beh_brk ?_
  | with_reducible refine Rs.beh_cont ?_
  | with_reducible refine Rs.rnd_nx ?_
  | with_reducible refine Rs.rnd_cont ?_
  | with_reducible refine Rs.rnd_brk ?_
  | with_reducible refine Rs.rnd_ret ?_
  | with_reducible refine Rs.rnd_ex ?_
  | with_reducible refine Rs.ps_brk ?_
  | with_reducible refine Rs.ps_cont ?_
  | with_reducible refine Rs.pt_nil ?_
  | with_reducible refine Rs.pe_comp ?_
  | with_reducible refine Rs.pe_callk ?_
  | ((with_reducible apply Rs.kw_mk); rfl; rfl)
  | ((with_reducible apply Rs.pc_item); rfl))
/-- a hall's lines -/
def haL (h : HaV) : List (List Str) := ["hour", nT h.hour] :: (hosL h.houses ++ h.asks.map asW)
def haT (h : HaV) : Str := Txt.join "\n" ((haL h).map jn)
theorem w_hour : Wd 8 "hour" := wd_of (by decide +kernel)
def WdL (l : List Str) : Prop := l ≠ [] ∧ l.length ≤ 50 ∧ ∀ w ∈ l, Wd 120 w
theorem hoL_wd {h : HoV} (o : HoOk h) : ∀ l ∈ hoL h, WdL l := by
  intro l hl
  unfold hoL at hl
  rcases List.mem_cons.mp hl with rfl | hl
  · exact ⟨by unfold hdW; simp, by unfold hdW; simp, hdW_wd o⟩
  rcases List.mem_append.mp hl with hl | hl
  · cases hs : h.state with
    | none => rw [hs] at hl; cases hl
    | some s =>
      rw [hs] at hl
      rcases List.mem_singleton.mp hl with rfl
      have so := o.so s hs
      have sl := so.l
      refine ⟨by unfold stW; simp, ?_, fun w hw => (stW_wd so w hw).mono (by decide)⟩
      unfold stW stNs
      simp only [List.length_cons, List.length_map]
      omega
  · obtain ⟨n, hn, rfl⟩ := List.mem_map.mp hl
    exact ⟨by unfold noW; simp, by unfold noW; simp, fun w hw => (noW_wd (o.d n hn) w hw).mono (by decide)⟩
theorem hosL_wd : ∀ {hs : List HoV}, (∀ h ∈ hs, HoOk h) → ∀ l ∈ hosL hs, WdL l
  | [], _, l, hl => nomatch hl
  | h :: hs, o, l, hl => by
    rcases List.mem_append.mp hl with hl | hl
    · exact hoL_wd (o h List.mem_cons_self) l hl
    · exact hosL_wd (fun z hz => o z (List.mem_cons_of_mem _ hz)) l hl
theorem haL_wd {h : HaV} (o : HaOk h) : ∀ l ∈ haL h, WdL l := by
  intro l hl
  unfold haL at hl
  rcases List.mem_cons.mp hl with rfl | hl
  · refine ⟨by simp, by simp, fun w hw => ?_⟩
    simp only [List.mem_cons, List.not_mem_nil, or_false] at hw
    rcases hw with rfl | rfl
    · exact w_hour.mono (by decide)
    · exact (num_wd o.n).mono (by decide)
  rcases List.mem_append.mp hl with hl | hl
  · exact hosL_wd o.h l hl
  · obtain ⟨a, ha, rfl⟩ := List.mem_map.mp hl
    exact ⟨by unfold asW; simp, by unfold asW; simp, asW_wd (o.a a ha)⟩
theorem hosL_len : ∀ {hs : List HoV}, (∀ h ∈ hs, HoOk h) → (hosL hs).length ≤ 5 * hs.length
  | [], _ => Nat.le_refl _
  | h :: hs, o => by
    have h1 := hoL_len (o h List.mem_cons_self)
    have h2 := hosL_len fun z hz => o z (List.mem_cons_of_mem _ hz)
    show (hoL h ++ hosL hs).length ≤ _
    rw [List.length_append, List.length_cons]; omega
theorem haL_len {h : HaV} (o : HaOk h) : (haL h).length ≤ 31 := by
  have h1 := hosL_len o.h
  have h2 := o.hl
  have h3 := o.al
  unfold haL
  rw [List.length_cons, List.length_append, List.length_map]; omega
theorem sum_map_le {l : List Str} {m : Nat} (h : ∀ x ∈ l, x.length ≤ m) : (l.map (·.length)).sum ≤ l.length * m := by
  induction l with
  | nil => simp
  | cons x l ih =>
    rw [List.map_cons, List.sum_cons, List.length_cons, Nat.succ_mul]
    have := h x List.mem_cons_self
    have := ih fun y hy => h y (List.mem_cons_of_mem _ hy)
    omega
theorem join_len (s : Str) : ∀ (l : List Str), (Txt.join s l).length ≤ (l.map (·.length)).sum + l.length * s.length
  | [] => by rw [TL.join_eq]; exact Nat.zero_le _
  | [a] => by
    rw [join_one]
    simp
  | a :: b :: l => by
    have := join_len s (b :: l)
    rw [join_cons, len_app, len_app]
    simp only [List.map_cons, List.sum_cons, List.length_cons] at this ⊢
    rw [Nat.succ_mul]
    omega
theorem jn_len {l : List Str} (h : WdL l) : (jn l).length ≤ 6100 := by
  have h1 := join_len " " l
  have h2 := sum_map_le (l := l) (m := 120) fun x hx => (h.2.2 x hx).1
  have h3 := h.2.1
  rw [sp_len] at h1
  unfold jn
  omega
theorem nl_len : ("\n" : Str).length = 1 := by decide +kernel
theorem lines_fit {ls : List (List Str)} (h : ∀ l ∈ ls, WdL l) (hl : ls.length ≤ 31) : ((ls.map jn).map (·.length)).sum + (ls.map jn).length * ("\n" : Str).length ≤ 200000 := by
  have h2 := sum_map_le (l := ls.map jn) (m := 6100) fun x hx => by
    obtain ⟨l, hm, rfl⟩ := List.mem_map.mp hx
    exact jn_len (h l hm)
  rw [nl_len, List.length_map] at *
  omega
theorem haT_len {h : HaV} (o : HaOk h) : (haT h).length ≤ 200000 := by
  have h1 := join_len "\n" ((haL h).map jn)
  have h2 := lines_fit (haL_wd o) (haL_len o)
  unfold haT
  rw [nl_len] at *
  omega
/-! ### D5 -/
abbrev C5 (h : HaV) (Φ : Oracle) : Prop := ∀ (M : Mem) (Q : I → Mem → Prop) (E : Nat → Mem → Prop), Q (.str (haT h)) M → Pe (Φ 5 [haI h] M) Q E
theorem P5 : T.P 5 = some D5.fn := rfl
theorem jn_hour (n : Int) : "hour " ++ nT n = jn ["hour", nT n] := by
  unfold jn
  rw [join_cons, join_one]
  have : ("hour " : Str) = "hour" ++ " " := by decide +kernel
  rw [this]
theorem w_hour2 : ("hour " : Str).length = 5 := by decide +kernel
set_option maxHeartbeats 1000000 in
theorem k5 {h : HaV} {W k : Nat} (o : HaOk h) (hk : 2 ≤ k) : C5 h (evCall T.P W (k + 1)) := by
  intro M Q E hq
  refine pe_call0 P5 rfl rfl rfl (flats1 (ha_flat h)) ?_
  have hp : ∀ (p : List Int) (M : Mem), PW p → evCall T.P W k 1 [pI p] M = .ok (.str (pathT p)) M := fun p M z => patht_ok z (by omega)
  have he : ∀ (e : EndV) (M : Mem), EndOk e → evCall T.P W k 2 [eI e] M = .ok (.str (endT e)) M := fun e M z => endt_ok z (by omega)
  have hh : ∀ (h : HoV) (M : Mem), HoOk h → evCall T.P W k 4 [hoI h] M = .ok (.lst (((hoL h).map jn).map .str)) M := fun h M z => holines_ok z (by omega)
  generalize evCall T.P W k = Φ at hp he hh
  show Ps (evSs Φ W D5.body [some (haI h), none, none, none, none, none, none, none, none, none, none] []) _
  unfold D5
  dsimp only
  have hn := num_wd o.n
  have hn1 := hn.1
  have hr := o.n
  unfold num at hr
  repeat' (first | array_get_dec)
  refine ⟨_, rfl, ?_⟩
  simp only [List.set_cons_zero, List.set_cons_succ]
  repeat' (first | array_get_dec)
  refine po_addS (by rw [w_hour2]; unfold nT at hn1; omega) ?_
  repeat' (first | array_get_dec)
  rw [show ("hour " ++ Str.ofString (toString h.hour)) = jn ["hour", nT h.hour] from jn_hour h.hour]
  obtain ⟨y2, e⟩ := loop5h (W := W) hh h.houses [jn ["hour", nT h.hour]] none o.h (by have := o.hl; simp; omega)
  refine ps_put e ?_
  repeat' (first | array_get_dec)
  obtain ⟨y6, y7, y8, y9, y10, e2⟩ := loop5a (W := W) hp he h.asks ([jn ["hour", nT h.hour]] ++ (hosL h.houses).map jn) none none none none none o.a (by have := o.al; have := o.hl; have := hosL_len o.h; simp; omega)
  refine ps_put e2 ?_
  repeat' (first | array_get_dec)
  have ef : [jn ["hour", nT h.hour]] ++ (hosL h.houses).map jn ++ h.asks.map (jn ∘ asW) = (haL h).map jn := by
    unfold haL
    simp
  rw [ef]
  refine me_join rfl (strsI_strs _) (by have := lines_fit (haL_wd o) (haL_len o); omega) ?_
  exact fr_ret rfl hq
end K75

namespace K75
open PySem PySem.Spec PyProof.Rows L2 Rs
local macro_rules | `(tactic| array_get_dec) => `(tactic| first
  | with_reducible refine Rs.pe_op ?_
  | with_reducible refine Rs.pe_cons ?_
  | ((with_reducible apply Rs.pe_var); rfl)
  | with_reducible refine Rs.pe_const ?_
  | with_reducible refine Rs.pe_nil ?_
  | with_reducible refine Rs.pe_glob ?_
  | with_reducible refine Rs.po_add ?_
  | with_reducible refine Rs.po_sub ?_
  | with_reducible refine Rs.po_mul (by omega) (by omega) ?_
  | with_reducible refine Rs.po_mod (by omega) ?_
  | with_reducible refine Rs.po_fdiv (by omega) (by omega) ?_
  | with_reducible refine Rs.po_pow6 ?_
  | with_reducible refine Rs.po_pow18 ?_
  | with_reducible refine Rs.po_neg ?_
  | with_reducible refine Rs.po_lt ?_
  | with_reducible refine Rs.po_le ?_
  | with_reducible refine Rs.po_gt ?_
  | with_reducible refine Rs.po_ge ?_
  | with_reducible refine Rs.po_eqI ?_
  | with_reducible refine Rs.po_neI ?_
  | with_reducible refine Rs.po_eqS (by first | assumption | exact strOk_of (by decide +kernel)) (by first | assumption | exact strOk_of (by decide +kernel)) ?_
  | with_reducible refine Rs.po_neS (by first | assumption | exact strOk_of (by decide +kernel)) (by first | assumption | exact strOk_of (by decide +kernel)) ?_
  | ((with_reducible apply Rs.po_isN); rfl)
  | ((with_reducible apply Rs.po_notN); rfl)
  | with_reducible refine Rs.po_isB ?_
  | ((with_reducible apply Rs.po_isT); rfl)
  | ((with_reducible apply Rs.po_ixT); first | assumption | exact Rs.at0 | exact Rs.at1 | exact Rs.at2 | exact Rs.at3 | exact Rs.at4 | rfl)
  | ((with_reducible apply Rs.po_ixL); first | assumption | exact Rs.at0 | exact Rs.at1 | exact Rs.at2 | exact Rs.at3 | exact Rs.at4 | rfl)
  | ((with_reducible apply Rs.po_ixW); first | assumption | exact Rs.at0 | exact Rs.at1 | exact Rs.at2 | exact Rs.at3 | exact Rs.at4 | rfl)
  | with_reducible refine Rs.po_lenL ?_
  | with_reducible refine Rs.po_lenT ?_
  | with_reducible refine Rs.po_lenW ?_
  | with_reducible refine Rs.po_lenScr ?_
  | with_reducible refine Rs.po_lenS (by assumption) ?_
  | ((with_reducible apply Rs.po_lenO); rfl)
  | ((with_reducible apply Rs.po_tupL); rfl)
  | with_reducible refine Rs.po_tupT ?_
  | with_reducible refine Rs.po_lstT ?_
  | with_reducible refine Rs.po_intB ?_
  | with_reducible refine Rs.po_intI ?_
  | with_reducible refine Rs.po_abs ?_
  | with_reducible refine Rs.po_strI (by omega) ?_
  | with_reducible refine Rs.po_shScr ?_
  | with_reducible refine Rs.pe_call ?_
  | with_reducible refine Rs.pe_and ?_
  | with_reducible refine Rs.pe_or ?_
  | with_reducible refine Rs.pe_not ?_
  | with_reducible refine Rs.pe_ife ?_
  | with_reducible refine Rs.pe_chain ?_
  | with_reducible refine Rs.pe_meth ?_
  | with_reducible refine Rs.pe_tup ?_
  | with_reducible refine Rs.pe_lst ?_
  | with_reducible refine Rs.tr_bl ?_
  | with_reducible refine Rs.tr_int ?_
  | with_reducible refine Rs.tr_non ?_
  | with_reducible refine Rs.tr_lst ?_
  | with_reducible refine Rs.tr_tup ?_
  | with_reducible refine Rs.if_not ?_
  | ((with_reducible apply Rs.if_tt); rfl)
  | ((with_reducible apply Rs.if_ff); rfl)
  | with_reducible refine Rs.if_tt (by decide) ?_
  | with_reducible refine Rs.if_ff (by decide) ?_
  | with_reducible refine Rs.if_dec (fun _ => ?_) (fun _ => by exfalso; omega)
  | with_reducible refine Rs.if_dec (fun _ => by exfalso; omega) (fun _ => ?_)
  | with_reducible refine Rs.if_dec (fun _ => ?_) (fun _ => ?_)
  | with_reducible refine Rs.ps_app0 ?_
  | with_reducible refine Rs.ps_app1 ?_
  | with_reducible refine Rs.ps_asg ?_
  | with_reducible refine Rs.ps_cond ?_
  | with_reducible refine Rs.ps_ret ?_
  | with_reducible refine Rs.ps_nil ?_
  | with_reducible refine Rs.ps_ex ?_
  | with_reducible refine Rs.ps_pass ?_
  | with_reducible refine Rs.ps_retN ?_
  | ((with_reducible apply Rs.po_nm); exact Nat.le_of_ble_eq_true rfl; simp only [List.set_cons_zero, List.set_cons_succ])
  | ((with_reducible apply Rs.fw_mk); exact Nat.le_of_ble_eq_true rfl)
  | with_reducible refine Rs.in_mk ?_
  | with_reducible refine Rs.bl_mk ?_
  | ((with_reducible refine Rs.ce_lst ?_); simp only [List.length_cons, List.length_nil, Nat.reduceAdd, List.cons_append, List.nil_append])
  | ((with_reducible refine Rs.ce_dic ?_); simp only [List.length_cons, List.length_nil, Nat.reduceAdd, List.cons_append, List.nil_append])
  | with_reducible refine Rs.pe_cell ?_
  | with_reducible refine Rs.pe_app ?_
  | with_reducible refine Rs.pe_ext ?_
  | ((with_reducible apply Rs.ob_mk); rfl)
  | ((with_reducible apply Rs.ap_mk); rfl; (first | omega | (simp only [List.length_append, List.length_map, List.length_cons, List.length_nil]; omega)); simp only [List.set_cons_zero, List.set_cons_succ])
  | ((with_reducible apply Rs.ex_mk); rfl; rfl; (first | omega | (simp only [List.length_append, List.length_map, List.length_cons, List.length_nil]; omega)); simp only [List.set_cons_zero, List.set_cons_succ])
  | with_reducible refine Rs.vs_mk ?_
  | ((with_reducible apply Rs.rc_mk); rfl)
  | with_reducible refine Rs.pi_seq ?_
  | with_reducible refine Rs.pi_range ?_
  | with_reducible refine Rs.pi_enum ?_
  | with_reducible refine Rs.si_tup ?_
  | with_reducible refine Rs.si_lst ?_
  | with_reducible refine Rs.si_wtp ?_
  | with_reducible refine Rs.si_scr ?_
  | with_reducible refine Rs.ri_1 (by omega) (by omega) ?_
  | with_reducible refine Rs.ri_2 (by omega) (by omega) ?_
  | with_reducible refine Rs.li_tup ?_
  | with_reducible refine Rs.li_lst ?_
  | with_reducible refine Rs.ps_each ?_
  | with_reducible refine Rs.beh_nx ?_
  | with_reducible refine Rs.beh_ret ?_
  | with_reducible refine Rs.beh_ex ?_
  | with_reducible refine Rs.beh_brk ?_
  | with_reducible refine Rs.beh_cont ?_
  | with_reducible refine Rs.rnd_nx ?_
  | with_reducible refine Rs.rnd_cont ?_
  | with_reducible refine Rs.rnd_brk ?_
  | with_reducible refine Rs.rnd_ret ?_
  | with_reducible refine Rs.rnd_ex ?_
  | with_reducible refine Rs.ps_brk ?_
  | with_reducible refine Rs.ps_cont ?_
  | with_reducible refine Rs.pt_nil ?_
  | with_reducible refine Rs.pe_comp ?_
  | with_reducible refine Rs.pe_callk ?_
  | ((with_reducible apply Rs.kw_mk); rfl; rfl)
  | ((with_reducible apply Rs.pc_item); rfl))
/-! ### D31, D32 -/
def lI (l : List Str) : I := .lst (l.map .str)
theorem at_digit (b : Bool) : atI [I.str "0", I.str "1"] (if b = true then 1 else 0) = some (.str (nT (if b = true then 1 else 0))) := by
  cases b <;> rfl
abbrev C29 (Φ : Oracle) : Prop := ∀ (p : List Int) (M : Mem) (Q : I → Mem → Prop) (E : Nat → Mem → Prop), PW p → Q (.str (pathT p)) M → Pe (Φ 29 [pI p] M) Q E
abbrev C30 (Φ : Oracle) : Prop := ∀ (e : EndV) (M : Mem) (Q : I → Mem → Prop) (E : Nat → Mem → Prop), EndOk e → Q (.str (endT e)) M → Pe (Φ 30 [eI e] M) Q E
section
variable {Φ : Oracle} {W : Nat} {Q : Out → Prop}
variable {x0 x2 x3 x4 x5 x6 x7 x8 x9 x10 x11 x12 x13 : Option I}
set_option maxHeartbeats 1000000 in
theorem loop31n {ns : List NoV} {L : List (List Str)} (h : ∀ n ∈ ns, NoOk n) (hl : L.length + ns.length ≤ 1000) (hq : ∀ y9 y12 y13, Q (.nx [x0, some (.obj 0), x2, x3, x4, x5, x6, x7, x8, y9, x10, x11, y12, y13] [.lst ((L ++ ns.map noW).map lI)])) :
    Ps (eachL (.tup (.cons (.nm 12) (.cons (.nm 13) (.cons (.nm 9) .nil)))) (evSs Φ W B31_1) (ns.map noI) [x0, some (.obj 0), x2, x3, x4, x5, x6, x7, x8, x9, x10, x11, x12, x13] [.lst (L.map lI)]) Q := by
  refine each_map (Inv := fun pre τ M => (∃ s, ns = pre ++ s) ∧ ∃ y9 y12 y13, τ = [x0, some (.obj 0), x2, x3, x4, x5, x6, x7, x8, y9, x10, x11, y12, y13] ∧ M = [.lst ((L ++ pre.map noW).map lI)]) ns [] _ _ ⟨⟨ns, rfl⟩, _, _, _, rfl, by simp⟩ ?_ ?_
  · rintro n pre τ M hn ⟨s, hs⟩ ⟨_, y9, y12, y13, rfl, rfl⟩
    have hs : ns = pre ++ n :: s := hs
    have hn := h n hn
    have h1 := hn.h
    have h2 := hn.n
    unfold num at h1 h2
    refine ⟨_, rfl, ?_⟩
    simp only [List.set_cons_zero, List.set_cons_succ]
    unfold B31_1
    have hpl : pre.length ≤ ns.length := by rw [hs, List.length_append]; omega
    repeat' (first | array_get_dec)
    refine ⟨⟨s, by simp [hs]⟩, _, _, _, rfl, ?_⟩
    simp [lI, noW, nT]
  · rintro τ M ⟨_, y9, y12, y13, rfl, rfl⟩
    exact hq _ _ _
set_option maxHeartbeats 2000000 in
theorem loop31h {hs : List HoV} {L : List (List Str)} (c29 : C29 Φ) (c30 : C30 Φ) (h : ∀ n ∈ hs, HoOk n) (hl : L.length + 5 * hs.length ≤ 900) (hq : ∀ y2 y3 y4 y5 y6 y7 y9 y11 y12 y13, Q (.nx [x0, some (.obj 0), y2, y3, y4, y5, y6, y7, x8, y9, x10, y11, y12, y13] [.lst ((L ++ hosL hs).map lI)])) :
    Ps (eachL (.tup (.cons (.nm 2) (.cons (.nm 3) (.cons (.nm 4) (.cons (.nm 5) (.cons (.nm 6) (.cons (.nm 7) .nil))))))) (evSs Φ W B31_2) (hs.map hoI) [x0, some (.obj 0), x2, x3, x4, x5, x6, x7, x8, x9, x10, x11, x12, x13] [.lst (L.map lI)]) Q := by
  have hosA : ∀ (a : List HoV) (b : HoV), hosL (a ++ [b]) = hosL a ++ hoL b := by
    intro a b
    induction a with
    | nil => simp [hosL]
    | cons x a ih => simp [hosL, ih]
  refine each_map (Inv := fun pre τ M => (∃ s, hs = pre ++ s) ∧ ∃ y2 y3 y4 y5 y6 y7 y9 y11 y12 y13, τ = [x0, some (.obj 0), y2, y3, y4, y5, y6, y7, x8, y9, x10, y11, y12, y13] ∧ M = [.lst ((L ++ hosL pre).map lI)]) hs [] _ _ ⟨⟨hs, rfl⟩, _, _, _, _, _, _, _, _, _, _, rfl, by simp [hosL]⟩ ?_ ?_
  · rintro n pre τ M hn ⟨s, hes⟩ ⟨_, y2, y3, y4, y5, y6, y7, y9, y11, y12, y13, rfl, rfl⟩
    have hes : hs = pre ++ n :: s := hes
    have o := h n hn
    have h1 := o.b
    unfold num at h1
    refine ⟨_, rfl, ?_⟩
    simp only [List.set_cons_zero, List.set_cons_succ]
    unfold B31_2
    have hpl : (hosL pre).length ≤ 5 * pre.length := hosL_len fun z hz => h z (by rw [hes]; exact List.mem_append_left _ hz)
    have hpl2 : pre.length < hs.length := by rw [hes, List.length_append, List.length_cons]; omega
    have hsl : (stL n.state).length ≤ 1 := by cases n.state <;> simp [stL]
    have hpw := o.pw
    have dl := o.dl
    repeat' (first | with_reducible refine c29 _ _ _ _ hpw ?_ | with_reducible refine c30 _ _ _ _ o.f ?_ | array_get_dec)
    have fin : ∀ (z5 z11 : Option I) (K : List Cell), K = [.lst ((L ++ hosL pre ++ hdW n :: stL n.state).map lI)] → Ps (eachL (.tup (.cons (.nm 12) (.cons (.nm 13) (.cons (.nm 9) .nil)))) (evSs Φ W B31_1) (n.diary.map noI) [x0, some (.obj 0), some (pI n.path), some (.str n.name), some (.int n.begun), z5, some (.tup (n.diary.map noI)), some (stI n.state), x8, y9, x10, z11, y12, y13] K) (Beh Φ W .nil (Rnd (fun τ M => (∃ s, hs = pre ++ [n] ++ s) ∧ ∃ y2 y3 y4 y5 y6 y7 y9 y11 y12 y13, τ = [x0, some (.obj 0), y2, y3, y4, y5, y6, y7, x8, y9, x10, y11, y12, y13] ∧ M = [.lst ((L ++ hosL (pre ++ [n])).map lI)]) Q Q)) := by
      rintro z5 z11 K rfl
      refine loop31n o.d (by simp only [List.length_append, List.length_cons]; omega) ?_
      intro y9 y12 y13
      repeat' (first | array_get_dec)
      refine ⟨⟨s, by simp [hes]⟩, _, _, _, _, _, _, _, _, _, _, rfl, ?_⟩
      rw [hosA]
      unfold hoL
      simp
    have heq : ∀ {z : List Str}, I.lst (I.str (Str.ofString "house") :: z.map .str) = lI ("house" :: z) := fun {z} => rfl
    cases hst : n.state with
    | none =>
      rw [hst] at fin
      simp only [stI] at fin ⊢
      repeat' (first | array_get_dec)
      refine fin _ _ _ ?_
      simp [lI, hdW, stL, nT]
    | some st =>
      rw [hst] at fin
      simp only [stI] at fin ⊢
      have so := o.so st hst
      have r1 := so.r
      have r2 := so.w
      have r3 := so.o
      have rl := so.l
      unfold num at r1 r2 r3
      repeat' (first | array_get_dec)
      refine Rs.po_ixL (at_digit st.called) ?_
      repeat' (first | array_get_dec)
      refine compL_all (f := I.int) (f' := fun n => I.str (nT n)) (by omega) (fun y hy => ?_) ?_
      · have hy := so.s y hy
        unfold num at hy
        repeat' (first | array_get_dec)
        exact ⟨rfl, rfl⟩
      · repeat' (first | array_get_dec)
        refine Rs.po_addL rfl rfl (by simp; omega) ?_
        repeat' (first | array_get_dec)
        refine fin _ _ _ ?_
        simp [lI, hdW, stL, nT, stW, stNs]
  · rintro τ M ⟨_, y2, y3, y4, y5, y6, y7, y9, y11, y12, y13, rfl, rfl⟩
    exact hq _ _ _ _ _ _ _ _ _ _
end
end K75

namespace K75
open PySem PySem.Spec PyProof.Rows L2 Rs
local macro_rules | `(tactic| array_get_dec) => `(tactic| first
  | with_reducible refine Rs.pe_op ?_
  | with_reducible refine Rs.pe_cons ?_
  | ((with_reducible apply Rs.pe_var); rfl)
  | with_reducible refine Rs.pe_const ?_
  | with_reducible refine Rs.pe_nil ?_
  | with_reducible refine Rs.pe_glob ?_
  | with_reducible refine Rs.po_add ?_
  | with_reducible refine Rs.po_sub ?_
  | with_reducible refine Rs.po_mul (by omega) (by omega) ?_
  | with_reducible refine Rs.po_mod (by omega) ?_
  | with_reducible refine Rs.po_fdiv (by omega) (by omega) ?_
  | with_reducible refine Rs.po_pow6 ?_
  | with_reducible refine Rs.po_pow18 ?_
  | with_reducible refine Rs.po_neg ?_
  | with_reducible refine Rs.po_lt ?_
  | with_reducible refine Rs.po_le ?_
  | with_reducible refine Rs.po_gt ?_
  | with_reducible refine Rs.po_ge ?_
  | with_reducible refine Rs.po_eqI ?_
  | with_reducible refine Rs.po_neI ?_
  | with_reducible refine Rs.po_eqS (by first | assumption | exact strOk_of (by decide +kernel)) (by first | assumption | exact strOk_of (by decide +kernel)) ?_
  | with_reducible refine Rs.po_neS (by first | assumption | exact strOk_of (by decide +kernel)) (by first | assumption | exact strOk_of (by decide +kernel)) ?_
  | ((with_reducible apply Rs.po_isN); rfl)
  | ((with_reducible apply Rs.po_notN); rfl)
  | with_reducible refine Rs.po_isB ?_
  | ((with_reducible apply Rs.po_isT); rfl)
  | ((with_reducible apply Rs.po_ixT); first | assumption | exact Rs.at0 | exact Rs.at1 | exact Rs.at2 | exact Rs.at3 | exact Rs.at4 | rfl)
  | ((with_reducible apply Rs.po_ixL); first | assumption | exact Rs.at0 | exact Rs.at1 | exact Rs.at2 | exact Rs.at3 | exact Rs.at4 | rfl)
  | ((with_reducible apply Rs.po_ixW); first | assumption | exact Rs.at0 | exact Rs.at1 | exact Rs.at2 | exact Rs.at3 | exact Rs.at4 | rfl)
  | with_reducible refine Rs.po_lenL ?_
  | with_reducible refine Rs.po_lenT ?_
  | with_reducible refine Rs.po_lenW ?_
  | with_reducible refine Rs.po_lenScr ?_
  | with_reducible refine Rs.po_lenS (by assumption) ?_
  | ((with_reducible apply Rs.po_lenO); rfl)
  | ((with_reducible apply Rs.po_tupL); rfl)
  | with_reducible refine Rs.po_tupT ?_
  | with_reducible refine Rs.po_lstT ?_
  | with_reducible refine Rs.po_intB ?_
  | with_reducible refine Rs.po_intI ?_
  | with_reducible refine Rs.po_abs ?_
  | with_reducible refine Rs.po_strI (by omega) ?_
  | with_reducible refine Rs.po_shScr ?_
  | with_reducible refine Rs.pe_call ?_
  | with_reducible refine Rs.pe_and ?_
  | with_reducible refine Rs.pe_or ?_
  | with_reducible refine Rs.pe_not ?_
  | with_reducible refine Rs.pe_ife ?_
  | with_reducible refine Rs.pe_chain ?_
  | with_reducible refine Rs.pe_meth ?_
  | with_reducible refine Rs.pe_tup ?_
  | with_reducible refine Rs.pe_lst ?_
  | with_reducible refine Rs.tr_bl ?_
  | with_reducible refine Rs.tr_int ?_
  | with_reducible refine Rs.tr_non ?_
  | with_reducible refine Rs.tr_lst ?_
  | with_reducible refine Rs.tr_tup ?_
  | with_reducible refine Rs.if_not ?_
  | ((with_reducible apply Rs.if_tt); rfl)
  | ((with_reducible apply Rs.if_ff); rfl)
  | with_reducible refine Rs.if_tt (by decide) ?_
  | with_reducible refine Rs.if_ff (by decide) ?_
  | with_reducible refine Rs.if_dec (fun _ => ?_) (fun _ => by exfalso; omega)
  | with_reducible refine Rs.if_dec (fun _ => by exfalso; omega) (fun _ => ?_)
  | with_reducible refine Rs.if_dec (fun _ => ?_) (fun _ => ?_)
  | with_reducible refine Rs.ps_app0 ?_
  | with_reducible refine Rs.ps_app1 ?_
  | with_reducible refine Rs.ps_asg ?_
  | with_reducible refine Rs.ps_cond ?_
  | with_reducible refine Rs.ps_ret ?_
  | with_reducible refine Rs.ps_nil ?_
  | with_reducible refine Rs.ps_ex ?_
  | with_reducible refine Rs.ps_pass ?_
  | with_reducible refine Rs.ps_retN ?_
  | ((with_reducible apply Rs.po_nm); exact Nat.le_of_ble_eq_true rfl; simp only [List.set_cons_zero, List.set_cons_succ])
  | ((with_reducible apply Rs.fw_mk); exact Nat.le_of_ble_eq_true rfl)
  | with_reducible refine Rs.in_mk ?_
  | with_reducible refine Rs.bl_mk ?_
  | ((with_reducible refine Rs.ce_lst ?_); simp only [List.length_cons, List.length_nil, Nat.reduceAdd, List.cons_append, List.nil_append])
  | ((with_reducible refine Rs.ce_dic ?_); simp only [List.length_cons, List.length_nil, Nat.reduceAdd, List.cons_append, List.nil_append])
  | with_reducible refine Rs.pe_cell ?_
  | with_reducible refine Rs.pe_app ?_
  | with_reducible refine Rs.pe_ext ?_
  | ((with_reducible apply Rs.ob_mk); rfl)
  | ((with_reducible apply Rs.ap_mk); rfl; (first | omega | (simp only [List.length_append, List.length_map, List.length_cons, List.length_nil]; omega)); simp only [List.set_cons_zero, List.set_cons_succ])
  | ((with_reducible apply Rs.ex_mk); rfl; rfl; (first | omega | (simp only [List.length_append, List.length_map, List.length_cons, List.length_nil]; omega)); simp only [List.set_cons_zero, List.set_cons_succ])
  | with_reducible refine Rs.vs_mk ?_
  | ((with_reducible apply Rs.rc_mk); rfl)
  | with_reducible refine Rs.pi_seq ?_
  | with_reducible refine Rs.pi_range ?_
  | with_reducible refine Rs.pi_enum ?_
  | with_reducible refine Rs.si_tup ?_
  | with_reducible refine Rs.si_lst ?_
  | with_reducible refine Rs.si_wtp ?_
  | with_reducible refine Rs.si_scr ?_
  | with_reducible refine Rs.ri_1 (by omega) (by omega) ?_
  | with_reducible refine Rs.ri_2 (by omega) (by omega) ?_
  | with_reducible refine Rs.li_tup ?_
  | with_reducible refine Rs.li_lst ?_
  | with_reducible refine Rs.ps_each ?_
  | with_reducible refine Rs.beh_nx ?_
  | with_reducible refine Rs.beh_ret ?_
  | with_reducible refine Rs.beh_ex ?_
  | with_reducible refine Rs.beh_brk ?_
  | with_reducible refine Rs.beh_cont ?_
  | with_reducible refine Rs.rnd_nx ?_
  | with_reducible refine Rs.rnd_cont ?_
  | with_reducible refine Rs.rnd_brk ?_
  | with_reducible refine Rs.rnd_ret ?_
  | with_reducible refine Rs.rnd_ex ?_
  | with_reducible refine Rs.ps_brk ?_
  | with_reducible refine Rs.ps_cont ?_
  | with_reducible refine Rs.pt_nil ?_
  | with_reducible refine Rs.pe_comp ?_
  | with_reducible refine Rs.pe_callk ?_
  | ((with_reducible apply Rs.kw_mk); rfl; rfl)
  | ((with_reducible apply Rs.pc_item); rfl))
/-! ### D31, D32 -/
theorem lIs_flat (L : List (List Str)) : I.flats (L.map lI) = true := flats_of fun x hx => by
  obtain ⟨l, _, rfl⟩ := List.mem_map.mp hx
  exact flats_strs l
abbrev C31 (h : HaV) (Φ : Oracle) : Prop := ∀ (M : Mem) (Q : I → Mem → Prop) (E : Nat → Mem → Prop), Q (.lst ((haL h).map lI)) M → Pe (Φ 31 [haI h] M) Q E
theorem P31 : T.P 31 = some D31.fn := rfl
set_option maxHeartbeats 4000000 in
theorem k31 {h : HaV} {W k : Nat} (o : HaOk h) (hk : 1 ≤ k) : C31 h (evCall T.P W (k + 1)) := by
  intro M Q E hq
  refine pe_call0 P31 rfl rfl rfl (flats1 (ha_flat h)) ?_
  have c29 : C29 (evCall T.P W k) := fun p M Q E hp hq => pe_put (pathw_ok hp hk) hq
  have c30 : C30 (evCall T.P W k) := fun p M Q E hp hq => pe_put (endw_ok hp hk) hq
  generalize evCall T.P W k = Φ at c29 c30
  show Ps (evSs Φ W D31.body [some (haI h), none, none, none, none, none, none, none, none, none, none, none, none, none] []) _
  unfold D31
  dsimp only
  have hr := o.n
  unfold num at hr
  have hal := o.al
  have hhl := o.hl
  have hhs := hosL_len o.h
  have e0 : ∀ M, Rs.sh M (haI h) = .tup [.int h.hour, .tup (h.houses.map hoI), .tup (h.asks.map asI)] := fun _ => rfl
  repeat' (first | array_get_dec)
  refine Rs.po_ix (e0 _) rfl ?_
  repeat' (first | array_get_dec)
  refine Rs.po_ix (e0 _) rfl ?_
  repeat' (first | array_get_dec)
  refine loop31h (L := [["hour", nT h.hour]]) c29 c30 o.h (by simp only [List.length_singleton]; omega) ?_
  intro y2 y3 y4 y5 y6 y7 y9 y11 y12 y13
  repeat' (first | array_get_dec)
  refine Rs.po_ix (e0 _) rfl ?_
  repeat' (first | array_get_dec)
  refine each_map (Inv := fun pre τ M => (∃ s, h.asks = pre ++ s) ∧ ∃ y2 y5 y8 y9 y10, τ = [some (haI h), some (.obj 0), y2, y3, y4, y5, y6, y7, y8, y9, y10, y11, y12, y13] ∧ M = [.lst ((([["hour", nT h.hour]] : List (List Str)) ++ hosL h.houses ++ pre.map asW).map lI)]) h.asks [] _ _ ⟨⟨h.asks, rfl⟩, _, _, _, _, _, rfl, by simp⟩ ?_ ?_
  · rintro n pre τ M hn ⟨s, hs⟩ ⟨_, y2, y5, y8, y9, y10, rfl, rfl⟩
    have hs : h.asks = pre ++ n :: s := hs
    have hn := o.a n hn
    have h1 := hn.n
    have h2 := hn.s
    have hf := hn.f
    unfold num at h1 h2
    have hpw := hn.pw
    refine ⟨_, rfl, ?_⟩
    simp only [List.set_cons_zero, List.set_cons_succ]
    unfold B31_0
    have hpl : pre.length ≤ h.asks.length := by rw [hs, List.length_append]; omega
    repeat' (first | with_reducible refine c29 _ _ _ _ hpw ?_ | with_reducible refine c30 _ _ _ _ hf ?_ | array_get_dec)
    refine ⟨⟨s, by simp [hs]⟩, _, _, _, _, _, rfl, ?_⟩
    simp [lI, asW, nT]
  · rintro τ M ⟨_, y2, y5, y8, y9, y10, rfl, rfl⟩
    repeat' (first | array_get_dec)
    refine fr_lst rfl (lIs_flat _) ?_
    have : ([["hour", nT h.hour]] : List (List Str)) ++ hosL h.houses ++ ([] ++ h.asks).map asW = haL h := by simp [haL]
    rw [this]
    exact hq
theorem P32 : T.P 32 = some D32.fn := rfl
abbrev C32 (h : HaV) (Φ : Oracle) : Prop := ∀ (M : Mem) (Q : I → Mem → Prop) (E : Nat → Mem → Prop), Q (.str (haT h)) M → Pe (Φ 32 [.lst ((haL h).map lI)] M) Q E
set_option maxHeartbeats 1000000 in
theorem k32 {h : HaV} {W k : Nat} (o : HaOk h) : C32 h (evCall T.P W (k + 1)) := by
  intro M Q E hq
  refine pe_call0 P32 rfl rfl rfl (flats1 (lIs_flat _)) ?_
  generalize evCall T.P W k = Φ
  show Ps (evSs Φ W D32.body [some (.lst ((haL h).map lI)), none] []) _
  unfold D32
  dsimp only
  have hl := haL_len o
  repeat' (first | array_get_dec)
  refine compL_all (f := lI) (f' := fun n => I.str (jn n)) (by omega) (fun y hy => ?_) ?_
  · have hy := haL_wd o y hy
    repeat' (first | array_get_dec)
    refine me_join (M := []) rfl (strsI_strs _) (join_fit (m := 120) (fun x hx => (hy.2.2 x hx).1) sp_len (by have := hy.2.1; omega)) ?_
    exact ⟨rfl, rfl⟩
  · repeat' (first | array_get_dec)
    refine me_join rfl (zs := (haL h).map jn) ?_ (by have := lines_fit (haL_wd o) hl; omega) ?_
    · rw [← strsI_strs ((haL h).map jn), List.map_map]; rfl
    · exact fr_ret rfl hq
/-! ### words that are read -/
theorem Wd.lay {n : Nat} {s : Str} (h : Wd n s) : StrOk s := h.ok
theorem nT_codes {n : Int} (h : num n) : (nT n).cps.toList = TL.numL n.toNat := num_codes h.1
theorem nT_lay {n : Int} (h : num n) : StrOk (nT n) := (num_wd h).ok
theorem zero_lay : StrOk "0" := strOk_of (by decide +kernel)
theorem nT_len {n : Int} (h : num n) : 1 ≤ (nT n).length ∧ (nT n).length ≤ 10 := by
  refine ⟨?_, (num_wd h).1⟩
  have : (nT n).length = (nT n).cps.toList.length := rfl
  rw [this, nT_codes h]
  exact List.length_pos_iff.mpr (TL.numL_ne _)
abbrev C6 (Φ : Oracle) : Prop := ∀ (n most : Int) (M : Mem) (Q : I → Mem → Prop) (E : Nat → Mem → Prop), num n → n ≤ most → Q (.bl true) M → Pe (Φ 6 [.str (nT n), .int most] M) Q E
abbrev C9 (Φ : Oracle) : Prop := ∀ (n : Int) (M : Mem) (Q : I → Mem → Prop) (E : Nat → Mem → Prop), num n → Q (.int n) M → Pe (Φ 9 [.str (nT n)] M) Q E
theorem int_nT {n : Int} {M : Mem} {Q : I → Prop} (h : num n) (hq : Q (.int n)) : Po (opM .int M [.str (nT n)]) Q := po_intT (by have := (nT_len h).2; omega) (num_int h.1 (by have := h.2; omega)) hq
theorem P6 : T.P 6 = some D6.fn := rfl
theorem figs : ("0123456789" : Str).cps.toList = [48, 49, 50, 51, 52, 53, 54, 55, 56, 57] := by decide +kernel
set_option maxHeartbeats 1000000 in
theorem k6 {W k : Nat} : C6 (evCall T.P W (k + 1)) := by
  intro n most M Q E hn hm hq
  refine pe_call0 P6 rfl rfl rfl rfl ?_
  generalize evCall T.P W k = Φ
  show Ps (evSs Φ W D6.body [some (.str (nT n)), some (.int most), none] []) _
  unfold D6
  dsimp only
  obtain ⟨l1, l2⟩ := nT_len hn
  have lay := nT_lay hn
  have z0 := zero_lay
  have l3 : (nT n).length ≤ sizeLine := by rw [sl24]; omega
  obtain ⟨c, r, e, hz⟩ := numL_head n.toNat
  have ec : (nT n).cps.toList = c :: r := by rw [nT_codes hn, e]
  have hdig : ∀ x ∈ (nT n).cps.toList, 48 ≤ x ∧ x ≤ 57 := by rw [nT_codes hn]; exact TL.numL_digits n.toNat
  have hc1 : StrOk ⟨#[c]⟩ := strOk_of (by
    have := hdig c (by rw [ec]; exact List.mem_cons_self)
    simp; omega)
  have rest : Ps (evSs Φ W (.cons (.ret (.and (.op .all (.cons (.comp [2] (.op .inn (.cons (.var 2) (.cons (.glob "FIGURES" (.str "0123456789")) .nil))) (.nm 2) (.seq (.var 0)) .nil) .nil)) (.op .le (.cons (.op .int (.cons (.var 0) .nil)) (.cons (.var 1) .nil))))) .nil) [some (.str (nT n)), some (.int most), none] []) (FrO M Q E) := by
    repeat' (first | array_get_dec)
    refine si_str ?_
    repeat' (first | array_get_dec)
    refine compL_all (f := fun c => I.str ⟨#[c]⟩) (f' := fun c => I.bl (decide (c ∈ ("0123456789" : Str).cps.toList))) (by rw [show (nT n).cps.toList.length = (nT n).length from rfl]; omega) (fun y hy => ?_) ?_
    · repeat' (first | array_get_dec)
      refine po_inS ?_
      exact ⟨rfl, rfl⟩
    · repeat' (first | array_get_dec)
      refine po_all (bs := (nT n).cps.toList.map fun c => decide (c ∈ ("0123456789" : Str).cps.toList)) rfl (by rw [List.map_map]; rfl) ?_
      have : ((nT n).cps.toList.map fun c => decide (c ∈ ("0123456789" : Str).cps.toList)).all id = true := by
        rw [List.all_map, List.all_eq_true]
        intro x hx
        have := hdig x hx
        simp only [Function.comp, id, figs]
        rw [decide_eq_true_eq]
        simp only [List.mem_cons, List.not_mem_nil, or_false]
        omega
      rw [this]
      repeat' (first | array_get_dec)
      refine int_nT hn ?_
      repeat' (first | array_get_dec)
      refine fr_ret rfl ?_
      rw [decide_eq_true hm]
      exact hq
  repeat' (first | array_get_dec)
  refine po_ixS (c := c) (by omega) (by rw [ec]; exact at_head) ?_
  by_cases hc : c = 48
  · have hn0 : n = 0 := by have := hz hc; have := hn.1; omega
    subst hn0 hc
    have h1 : (⟨#[48]⟩ : Str) = "0" := by decide +kernel
    have h2 : nT 0 = "0" := by decide +kernel
    repeat' (first | with_reducible refine Rs.if_tt (decide_eq_true h1) ?_ | with_reducible refine Rs.if_tt (decide_eq_true h2) ?_ | with_reducible exact rest | array_get_dec)
  · have h1 : ¬ (⟨#[c]⟩ : Str) = "0" := fun z => hc (by
      have := congrArg (fun s : Str => s.cps.toList) z
      have e2 : ("0" : Str).cps.toList = [48] := by decide +kernel
      simp only [e2] at this
      simpa using this)
    repeat' (first | with_reducible refine Rs.if_ff (decide_eq_false h1) ?_ | with_reducible exact rest | array_get_dec)
theorem P9 : T.P 9 = some D9.fn := rfl
theorem k9 {W k : Nat} (c6 : C6 (evCall T.P W k)) : C9 (evCall T.P W (k + 1)) := by
  intro n M Q E hn hq
  refine pe_call0 P9 rfl rfl rfl rfl ?_
  generalize evCall T.P W k = Φ at c6
  show Ps (evSs Φ W D9.body [some (.str (nT n))] []) _
  unfold D9
  dsimp only
  have hn2 : n ≤ 1000000006 := hn.2
  repeat' (first | with_reducible refine c6 _ _ _ _ _ hn hn2 ?_ | array_get_dec)
  refine int_nT hn ?_
  exact fr_ret rfl hq
end K75

namespace K75
open PySem PySem.Spec PyProof.Rows L2 Rs
local macro_rules | `(tactic| array_get_dec) => `(tactic| first
  | with_reducible refine Rs.pe_op ?_
  | with_reducible refine Rs.pe_cons ?_
  | ((with_reducible apply Rs.pe_var); rfl)
  | with_reducible refine Rs.pe_const ?_
  | with_reducible refine Rs.pe_nil ?_
  | with_reducible refine Rs.pe_glob ?_
  | with_reducible refine Rs.po_add ?_
  | with_reducible refine Rs.po_sub ?_
  | with_reducible refine Rs.po_mul (by omega) (by omega) ?_
  | with_reducible refine Rs.po_mod (by omega) ?_
  | with_reducible refine Rs.po_fdiv (by omega) (by omega) ?_
  | with_reducible refine Rs.po_pow6 ?_
  | with_reducible refine Rs.po_pow18 ?_
  | with_reducible refine Rs.po_neg ?_
  | with_reducible refine Rs.po_lt ?_
  | with_reducible refine Rs.po_le ?_
  | with_reducible refine Rs.po_gt ?_
  | with_reducible refine Rs.po_ge ?_
  | with_reducible refine Rs.po_eqI ?_
  | with_reducible refine Rs.po_neI ?_
  | with_reducible refine Rs.po_eqS (by first | assumption | exact strOk_of (by decide +kernel)) (by first | assumption | exact strOk_of (by decide +kernel)) ?_
  | with_reducible refine Rs.po_neS (by first | assumption | exact strOk_of (by decide +kernel)) (by first | assumption | exact strOk_of (by decide +kernel)) ?_
  | ((with_reducible apply Rs.po_isN); rfl)
  | ((with_reducible apply Rs.po_notN); rfl)
  | with_reducible refine Rs.po_isB ?_
  | ((with_reducible apply Rs.po_isT); rfl)
  | ((with_reducible apply Rs.po_ixT); first | assumption | exact Rs.at0 | exact Rs.at1 | exact Rs.at2 | exact Rs.at3 | exact Rs.at4 | rfl)
  | ((with_reducible apply Rs.po_ixL); first | assumption | exact Rs.at0 | exact Rs.at1 | exact Rs.at2 | exact Rs.at3 | exact Rs.at4 | rfl)
  | ((with_reducible apply Rs.po_ixW); first | assumption | exact Rs.at0 | exact Rs.at1 | exact Rs.at2 | exact Rs.at3 | exact Rs.at4 | rfl)
  | with_reducible refine Rs.po_lenL ?_
  | with_reducible refine Rs.po_lenT ?_
  | with_reducible refine Rs.po_lenW ?_
  | with_reducible refine Rs.po_lenScr ?_
  | with_reducible refine Rs.po_lenS (by assumption) ?_
  | ((with_reducible apply Rs.po_lenO); rfl)
  | ((with_reducible apply Rs.po_tupL); rfl)
  | with_reducible refine Rs.po_tupT ?_
  | with_reducible refine Rs.po_lstT ?_
  | with_reducible refine Rs.po_intB ?_
  | with_reducible refine Rs.po_intI ?_
  | with_reducible refine Rs.po_abs ?_
  | with_reducible refine Rs.po_strI (by omega) ?_
  | with_reducible refine Rs.po_shScr ?_
  | with_reducible refine Rs.pe_call ?_
  | with_reducible refine Rs.pe_and ?_
  | with_reducible refine Rs.pe_or ?_
  | with_reducible refine Rs.pe_not ?_
  | with_reducible refine Rs.pe_ife ?_
  | with_reducible refine Rs.pe_chain ?_
  | with_reducible refine Rs.pe_meth ?_
  | with_reducible refine Rs.pe_tup ?_
  | with_reducible refine Rs.pe_lst ?_
  | with_reducible refine Rs.tr_bl ?_
  | with_reducible refine Rs.tr_int ?_
  | with_reducible refine Rs.tr_non ?_
  | with_reducible refine Rs.tr_lst ?_
  | with_reducible refine Rs.tr_tup ?_
  | with_reducible refine Rs.if_not ?_
  | ((with_reducible apply Rs.if_tt); rfl)
  | ((with_reducible apply Rs.if_ff); rfl)
  | with_reducible refine Rs.if_tt (by decide) ?_
  | with_reducible refine Rs.if_ff (by decide) ?_
  | with_reducible refine Rs.if_dec (fun _ => ?_) (fun _ => by exfalso; omega)
  | with_reducible refine Rs.if_dec (fun _ => by exfalso; omega) (fun _ => ?_)
  | with_reducible refine Rs.if_dec (fun _ => ?_) (fun _ => ?_)
  | with_reducible refine Rs.ps_app0 ?_
  | with_reducible refine Rs.ps_app1 ?_
  | with_reducible refine Rs.ps_asg ?_
  | with_reducible refine Rs.ps_cond ?_
  | with_reducible refine Rs.ps_ret ?_
  | with_reducible refine Rs.ps_nil ?_
  | with_reducible refine Rs.ps_ex ?_
  | with_reducible refine Rs.ps_pass ?_
  | with_reducible refine Rs.ps_retN ?_
  | ((with_reducible apply Rs.po_nm); exact Nat.le_of_ble_eq_true rfl; simp only [List.set_cons_zero, List.set_cons_succ])
  | ((with_reducible apply Rs.fw_mk); exact Nat.le_of_ble_eq_true rfl)
  | with_reducible refine Rs.in_mk ?_
  | with_reducible refine Rs.bl_mk ?_
  | ((with_reducible refine Rs.ce_lst ?_); simp only [List.length_cons, List.length_nil, Nat.reduceAdd, List.cons_append, List.nil_append])
  | ((with_reducible refine Rs.ce_dic ?_); simp only [List.length_cons, List.length_nil, Nat.reduceAdd, List.cons_append, List.nil_append])
  | with_reducible refine Rs.pe_cell ?_
  | with_reducible refine Rs.pe_app ?_
  | with_reducible refine Rs.pe_ext ?_
  | ((with_reducible apply Rs.ob_mk); rfl)
  | ((with_reducible apply Rs.ap_mk); rfl; (first | omega | (simp only [List.length_append, List.length_map, List.length_cons, List.length_nil]; omega)); simp only [List.set_cons_zero, List.set_cons_succ])
  | ((with_reducible apply Rs.ex_mk); rfl; rfl; (first | omega | (simp only [List.length_append, List.length_map, List.length_cons, List.length_nil]; omega)); simp only [List.set_cons_zero, List.set_cons_succ])
  | with_reducible refine Rs.vs_mk ?_
  | ((with_reducible apply Rs.rc_mk); rfl)
  | with_reducible refine Rs.pi_seq ?_
  | with_reducible refine Rs.pi_range ?_
  | with_reducible refine Rs.pi_enum ?_
  | with_reducible refine Rs.si_tup ?_
  | with_reducible refine Rs.si_lst ?_
  | with_reducible refine Rs.si_wtp ?_
  | with_reducible refine Rs.si_scr ?_
  | with_reducible refine Rs.ri_1 (by omega) (by omega) ?_
  | with_reducible refine Rs.ri_2 (by omega) (by omega) ?_
  | with_reducible refine Rs.li_tup ?_
  | with_reducible refine Rs.li_lst ?_
  | with_reducible refine Rs.ps_each ?_
  | with_reducible refine Rs.beh_nx ?_
  | with_reducible refine Rs.beh_ret ?_
  | with_reducible refine Rs.beh_ex ?_
  | with_reducible refine Rs.beh_brk ?_
  | with_reducible refine Rs.beh_cont ?_
  | with_reducible refine Rs.rnd_nx ?_
  | with_reducible refine Rs.rnd_cont ?_
  | with_reducible refine Rs.rnd_brk ?_
  | with_reducible refine Rs.rnd_ret ?_
  | with_reducible refine Rs.rnd_ex ?_
  | with_reducible refine Rs.ps_brk ?_
  | with_reducible refine Rs.ps_cont ?_
  | with_reducible refine Rs.pt_nil ?_
  | with_reducible refine Rs.pe_comp ?_
  | with_reducible refine Rs.pe_callk ?_
  | ((with_reducible apply Rs.kw_mk); rfl; rfl)
  | ((with_reducible apply Rs.pc_item); rfl))
/-! ### paths, names, ends read -/
theorem dot_S : (Str.ofString ".") = SX.S [46] := by decide +kernel
theorem col_S : (Str.ofString ":") = SX.S [58] := by decide +kernel
theorem dash_lay : StrOk "-" := strOk_of (by decide +kernel)
theorem nT_no {n : Int} (h : num n) {c : Nat} (hc : c < 48 ∨ 57 < c) : c ∉ (nT n).cps.toList := by
  rw [nT_codes h]
  exact TL.numL_free hc
theorem nT_dash {n : Int} (h : num n) : ¬ nT n = "-" := fun e => by
  have h1 := nT_no h (c := 45) (.inl (by decide))
  rw [e] at h1
  exact h1 (by decide +kernel)
theorem pathT_join {x : Int} {p : List Int} : pathT (x :: p) = Txt.join "." ((x :: p).map nT) := (join_dots (p.map nT) (nT x)).symm
theorem path_dash {x : Int} {p : List Int} (h : PW (x :: p)) : ¬ pathT (x :: p) = "-" := fun e => by
  have h1 : (45 : Nat) ∈ (pathT (x :: p)).cps.toList := by rw [e]; decide +kernel
  rw [pathT_join] at h1
  rcases mem_join h1 with h1 | ⟨w, hw, h1⟩
  · revert h1; decide +kernel
  · obtain ⟨n, hn, rfl⟩ := List.mem_map.mp hw
    exact nT_no (h.num n hn) (.inl (by decide)) h1
theorem path_split {x : Int} {p : List Int} (h : PW (x :: p)) : Txt.split (pathT (x :: p)) "." = (x :: p).map nT := by
  rw [pathT_join]
  refine split_join dot_S (by decide) (by simp) fun w hw => ?_
  obtain ⟨n, hn, rfl⟩ := List.mem_map.mp hw
  exact nT_no (h.num n hn) (.inl (by decide))
theorem dot_ne : (("." : Str).length == 0) = false := by decide +kernel
theorem col_ne : ((":" : Str).length == 0) = false := by decide +kernel
theorem P7 : T.P 7 = some D7.fn := rfl
theorem P8 : T.P 8 = some D8.fn := rfl
theorem P10 : T.P 10 = some D10.fn := rfl
theorem P11 : T.P 11 = some D11.fn := rfl
theorem P12 : T.P 12 = some D12.fn := rfl
theorem P13 : T.P 13 = some D13.fn := rfl
theorem P0 : T.P 0 = some D0.fn := rfl
abbrev C7 (Φ : Oracle) : Prop := ∀ (p : List Int) (M : Mem) (Q : I → Mem → Prop) (E : Nat → Mem → Prop), PW p → Q (.bl true) M → Pe (Φ 7 [.str (pathT p)] M) Q E
abbrev C8 (Φ : Oracle) : Prop := ∀ (p : List Int) (M : Mem) (Q : I → Mem → Prop) (E : Nat → Mem → Prop), PW p → Q (pI p) M → Pe (Φ 8 [.str (pathT p)] M) Q E
abbrev C10 (Φ : Oracle) : Prop := ∀ (p cs : List Int) (M : Mem) (Q : I → Mem → Prop) (E : Nat → Mem → Prop), PW p → (p.length : Int) ∈ cs → Q (pI p) M → Pe (Φ 10 [.str (pathT p), .wtp (cs.map .int)] M) Q E
abbrev C0 (Φ : Oracle) : Prop := ∀ (w : Str) (M : Mem) (Q : I → Mem → Prop) (E : Nat → Mem → Prop), w ∈ NAMES → Q (.bl true) M → Pe (Φ 0 [.str w] M) Q E
abbrev C11 (Φ : Oracle) : Prop := ∀ (w : Str) (M : Mem) (Q : I → Mem → Prop) (E : Nat → Mem → Prop), w ∈ NAMES → Q (.str w) M → Pe (Φ 11 [.str w] M) Q E
abbrev C12 (Φ : Oracle) : Prop := ∀ (e : EndV) (M : Mem) (Q : I → Mem → Prop) (E : Nat → Mem → Prop), EndOk e → Q (eI e) M → Pe (Φ 12 [.str (endT e)] M) Q E
abbrev C13 (Φ : Oracle) : Prop := ∀ (w : Str) (ws : List Str) (M : Mem) (Q : I → Mem → Prop) (E : Nat → Mem → Prop), StrOk w → Q .non M → Pe (Φ 13 [lI (w :: ws), .str w, .int ((w :: ws).length : Nat)] M) Q E
set_option maxHeartbeats 1000000 in
theorem k7 {W k : Nat} (c6 : C6 (evCall T.P W k)) : C7 (evCall T.P W (k + 1)) := by
  intro p M Q E hp hq
  refine pe_call0 P7 rfl rfl rfl rfl ?_
  generalize evCall T.P W k = Φ at c6
  show Ps (evSs Φ W D7.body [some (.str (pathT p)), none] []) _
  unfold D7
  dsimp only
  have lay := (pathT_wd hp).lay
  have len := (pathT_wd hp).1
  have d0 := dash_lay
  cases p with
  | nil =>
    have h1 : pathT [] = "-" := rfl
    repeat' (first | with_reducible refine Rs.if_tt (decide_eq_true h1) ?_ | array_get_dec)
    exact fr_ret rfl hq
  | cons x p =>
    have h1 := path_dash hp
    repeat' (first | with_reducible refine Rs.if_ff (decide_eq_false h1) ?_ | array_get_dec)
    refine me_split dot_ne (by omega) ?_
    rw [path_split hp, List.map_map]
    repeat' (first | array_get_dec)
    refine compL_all (f := I.str ∘ nT) (f' := fun _ => I.bl true) (by have := hp.l; omega) (fun y hy => ?_) ?_
    · have hn := hp.num y hy
      have hb : y ≤ 9 := by have := (hp.b y hy).2; omega
      show Pc (compP Φ _ _ _ _ _ (.str (nT y)) _) _
      repeat' (first | with_reducible refine c6 _ _ _ _ _ hn hb ?_ | array_get_dec)
      exact ⟨rfl, rfl⟩
    · repeat' (first | array_get_dec)
      refine po_all (bs := (x :: p).map fun _ => true) rfl (by rw [List.map_map]; rfl) ?_
      have : ((x :: p).map fun _ => true).all id = true := by simp
      rw [this]
      exact fr_ret rfl hq
set_option maxHeartbeats 1000000 in
theorem k8 {W k : Nat} : C8 (evCall T.P W (k + 1)) := by
  intro p M Q E hp hq
  refine pe_call0 P8 rfl rfl rfl rfl ?_
  generalize evCall T.P W k = Φ
  show Ps (evSs Φ W D8.body [some (.str (pathT p)), none] []) _
  unfold D8
  dsimp only
  have lay := (pathT_wd hp).lay
  have len := (pathT_wd hp).1
  have d0 := dash_lay
  cases p with
  | nil =>
    have h1 : pathT [] = "-" := rfl
    repeat' (first | with_reducible refine Rs.if_tt (decide_eq_true h1) ?_ | array_get_dec)
    exact fr_ret rfl hq
  | cons x p =>
    have h1 := path_dash hp
    repeat' (first | with_reducible refine Rs.if_ff (decide_eq_false h1) ?_ | array_get_dec)
    refine me_split dot_ne (by omega) ?_
    rw [path_split hp, List.map_map]
    repeat' (first | array_get_dec)
    refine compL_all (f := I.str ∘ nT) (f' := I.int) (by have := hp.l; omega) (fun y hy => ?_) ?_
    · have hn := hp.num y hy
      show Pc (compP Φ _ _ _ _ _ (.str (nT y)) _) _
      repeat' (first | array_get_dec)
      refine int_nT hn ?_
      exact ⟨rfl, rfl⟩
    · repeat' (first | array_get_dec)
      exact fr_ret (flats_ints (x :: p)) hq
theorem k10 {W k : Nat} (c7 : C7 (evCall T.P W k)) (c8 : C8 (evCall T.P W k)) : C10 (evCall T.P W (k + 1)) := by
  intro p cs M Q E hp hc hq
  refine pe_call0 P10 rfl rfl rfl (by show (true && (I.flats (cs.map .int) && true)) = true; rw [flats_ints]; rfl) ?_
  generalize evCall T.P W k = Φ at c7 c8
  show Ps (evSs Φ W D10.body [some (.str (pathT p)), some (.wtp (cs.map .int))] []) _
  unfold D10
  dsimp only
  repeat' (first | with_reducible refine c7 _ _ _ _ hp ?_ | with_reducible refine c8 _ _ _ _ hp ?_ | array_get_dec)
  have e : Rs.sh ([] : Mem) (pI p) = .tup (p.map .int) := rfl
  show Po (opM .len [] [.tup (p.map .int)]) _
  repeat' (first | array_get_dec)
  refine po_ninTI (l := cs) (.inr rfl) ?_
  rw [List.length_map]
  repeat' (first | with_reducible refine Rs.if_ff (decide_eq_true hc ▸ rfl) ?_ | with_reducible refine Rs.if_tt (decide_eq_true hc) ?_ | with_reducible refine c8 _ _ _ _ hp ?_ | array_get_dec)
  exact fr_ret (p_flat p) hq
set_option maxHeartbeats 1000000 in
theorem k0 {W k : Nat} : C0 (evCall T.P W (k + 1)) := by
  intro w M Q E hw hq
  have hl : 1 ≤ w.length ∧ w.length ≤ 8 ∧ ∀ c ∈ w.cps.toList, c ∈ ("abcdefghijklmnopqrstuvwxyz" : Str).cps.toList := (by decide +kernel : ∀ w ∈ NAMES, 1 ≤ w.length ∧ w.length ≤ 8 ∧ ∀ c ∈ w.cps.toList, c ∈ ("abcdefghijklmnopqrstuvwxyz" : Str).cps.toList) w hw
  obtain ⟨l1, l2, hc⟩ := hl
  refine pe_call0 P0 rfl rfl rfl rfl ?_
  generalize evCall T.P W k = Φ
  show Ps (evSs Φ W D0.body [some (.str w), none] []) _
  unfold D0
  dsimp only
  have l3 : w.length ≤ sizeLine := by rw [sl24]; omega
  repeat' (first | array_get_dec)
  refine si_str ?_
  repeat' (first | array_get_dec)
  refine compL_all (f := fun c => I.str ⟨#[c]⟩) (f' := fun c => I.bl (decide (c ∈ ("abcdefghijklmnopqrstuvwxyz" : Str).cps.toList))) (by rw [show w.cps.toList.length = w.length from rfl]; omega) (fun y hy => ?_) ?_
  · repeat' (first | array_get_dec)
    refine po_inS ?_
    exact ⟨rfl, rfl⟩
  · repeat' (first | array_get_dec)
    refine po_all (bs := w.cps.toList.map fun c => decide (c ∈ ("abcdefghijklmnopqrstuvwxyz" : Str).cps.toList)) rfl (by rw [List.map_map]; rfl) ?_
    have : (w.cps.toList.map fun c => decide (c ∈ ("abcdefghijklmnopqrstuvwxyz" : Str).cps.toList)).all id = true := by
      rw [List.all_map, List.all_eq_true]
      intro x hx
      exact decide_eq_true (hc x hx)
    rw [this]
    exact fr_ret rfl hq
theorem k11 {W k : Nat} (c0 : C0 (evCall T.P W k)) : C11 (evCall T.P W (k + 1)) := by
  intro w M Q E hw hq
  refine pe_call0 P11 rfl rfl rfl rfl ?_
  generalize evCall T.P W k = Φ at c0
  show Ps (evSs Φ W D11.body [some (.str w)] []) _
  unfold D11
  dsimp only
  repeat' (first | with_reducible refine c0 _ _ _ _ hw ?_ | array_get_dec)
  exact fr_ret rfl hq
theorem k13 {W k : Nat} : C13 (evCall T.P W (k + 1)) := by
  intro w ws M Q E hw hq
  refine pe_call0 P13 rfl rfl rfl (by show (I.flats ((w :: ws).map .str) && true) = true; rw [flats_strs]; rfl) ?_
  generalize evCall T.P W k = Φ
  show Ps (evSs Φ W D13.body [some (.lst (.str w :: ws.map .str)), some (.str w), some (.int ((w :: ws).length : Nat))] []) _
  unfold D13
  dsimp only
  have e : (((.str w : I) :: ws.map .str).length : Int) = ((w :: ws).length : Nat) := by simp
  have h1 : decide (w = w) = true := decide_eq_true rfl
  repeat' (first | with_reducible refine Rs.if_tt h1 ?_ | array_get_dec)
  exact hq
end K75

namespace K75
open PySem PySem.Spec PyProof.Rows L2 Rs
local macro_rules | `(tactic| array_get_dec) => `(tactic| first
  | with_reducible refine Rs.pe_op ?_
  | with_reducible refine Rs.pe_cons ?_
  | ((with_reducible apply Rs.pe_var); rfl)
  | with_reducible refine Rs.pe_const ?_
  | with_reducible refine Rs.pe_nil ?_
  | with_reducible refine Rs.pe_glob ?_
  | with_reducible refine Rs.po_add ?_
  | with_reducible refine Rs.po_sub ?_
  | with_reducible refine Rs.po_mul (by omega) (by omega) ?_
  | with_reducible refine Rs.po_mod (by omega) ?_
  | with_reducible refine Rs.po_fdiv (by omega) (by omega) ?_
  | with_reducible refine Rs.po_pow6 ?_
  | with_reducible refine Rs.po_pow18 ?_
  | with_reducible refine Rs.po_neg ?_
  | with_reducible refine Rs.po_lt ?_
  | with_reducible refine Rs.po_le ?_
  | with_reducible refine Rs.po_gt ?_
  | with_reducible refine Rs.po_ge ?_
  | with_reducible refine Rs.po_eqI ?_
  | with_reducible refine Rs.po_neI ?_
  | with_reducible refine Rs.po_eqS (by first | assumption | exact strOk_of (by decide +kernel)) (by first | assumption | exact strOk_of (by decide +kernel)) ?_
  | with_reducible refine Rs.po_neS (by first | assumption | exact strOk_of (by decide +kernel)) (by first | assumption | exact strOk_of (by decide +kernel)) ?_
  | ((with_reducible apply Rs.po_isN); rfl)
  | ((with_reducible apply Rs.po_notN); rfl)
  | with_reducible refine Rs.po_isB ?_
  | ((with_reducible apply Rs.po_isT); rfl)
  | ((with_reducible apply Rs.po_ixT); first | assumption | exact Rs.at0 | exact Rs.at1 | exact Rs.at2 | exact Rs.at3 | exact Rs.at4 | rfl)
  | ((with_reducible apply Rs.po_ixL); first | assumption | exact Rs.at0 | exact Rs.at1 | exact Rs.at2 | exact Rs.at3 | exact Rs.at4 | rfl)
  | ((with_reducible apply Rs.po_ixW); first | assumption | exact Rs.at0 | exact Rs.at1 | exact Rs.at2 | exact Rs.at3 | exact Rs.at4 | rfl)
  | with_reducible refine Rs.po_lenL ?_
  | with_reducible refine Rs.po_lenT ?_
  | with_reducible refine Rs.po_lenW ?_
  | with_reducible refine Rs.po_lenScr ?_
  | with_reducible refine Rs.po_lenS (by assumption) ?_
  | ((with_reducible apply Rs.po_lenO); rfl)
  | ((with_reducible apply Rs.po_tupL); rfl)
  | with_reducible refine Rs.po_tupT ?_
  | with_reducible refine Rs.po_lstT ?_
  | with_reducible refine Rs.po_intB ?_
  | with_reducible refine Rs.po_intI ?_
  | with_reducible refine Rs.po_abs ?_
  | with_reducible refine Rs.po_strI (by omega) ?_
  | with_reducible refine Rs.po_shScr ?_
  | with_reducible refine Rs.pe_call ?_
  | with_reducible refine Rs.pe_and ?_
  | with_reducible refine Rs.pe_or ?_
  | with_reducible refine Rs.pe_not ?_
  | with_reducible refine Rs.pe_ife ?_
  | with_reducible refine Rs.pe_chain ?_
  | with_reducible refine Rs.pe_meth ?_
  | with_reducible refine Rs.pe_tup ?_
  | with_reducible refine Rs.pe_lst ?_
  | with_reducible refine Rs.tr_bl ?_
  | with_reducible refine Rs.tr_int ?_
  | with_reducible refine Rs.tr_non ?_
  | with_reducible refine Rs.tr_lst ?_
  | with_reducible refine Rs.tr_tup ?_
  | with_reducible refine Rs.if_not ?_
  | ((with_reducible apply Rs.if_tt); rfl)
  | ((with_reducible apply Rs.if_ff); rfl)
  | with_reducible refine Rs.if_tt (by decide) ?_
  | with_reducible refine Rs.if_ff (by decide) ?_
  | with_reducible refine Rs.if_dec (fun _ => ?_) (fun _ => by exfalso; omega)
  | with_reducible refine Rs.if_dec (fun _ => by exfalso; omega) (fun _ => ?_)
  | with_reducible refine Rs.if_dec (fun _ => ?_) (fun _ => ?_)
  | with_reducible refine Rs.ps_app0 ?_
  | with_reducible refine Rs.ps_app1 ?_
  | with_reducible refine Rs.ps_asg ?_
  | with_reducible refine Rs.ps_cond ?_
  | with_reducible refine Rs.ps_ret ?_
  | with_reducible refine Rs.ps_nil ?_
  | with_reducible refine Rs.ps_ex ?_
  | with_reducible refine Rs.ps_pass ?_
  | with_reducible refine Rs.ps_retN ?_
  | ((with_reducible apply Rs.po_nm); exact Nat.le_of_ble_eq_true rfl; simp only [List.set_cons_zero, List.set_cons_succ])
  | ((with_reducible apply Rs.fw_mk); exact Nat.le_of_ble_eq_true rfl)
  | with_reducible refine Rs.in_mk ?_
  | with_reducible refine Rs.bl_mk ?_
  | ((with_reducible refine Rs.ce_lst ?_); simp only [List.length_cons, List.length_nil, Nat.reduceAdd, List.cons_append, List.nil_append])
  | ((with_reducible refine Rs.ce_dic ?_); simp only [List.length_cons, List.length_nil, Nat.reduceAdd, List.cons_append, List.nil_append])
  | with_reducible refine Rs.pe_cell ?_
  | with_reducible refine Rs.pe_app ?_
  | with_reducible refine Rs.pe_ext ?_
  | ((with_reducible apply Rs.ob_mk); rfl)
  | ((with_reducible apply Rs.ap_mk); rfl; (first | omega | (simp only [List.length_append, List.length_map, List.length_cons, List.length_nil]; omega)); simp only [List.set_cons_zero, List.set_cons_succ])
  | ((with_reducible apply Rs.ex_mk); rfl; rfl; (first | omega | (simp only [List.length_append, List.length_map, List.length_cons, List.length_nil]; omega)); simp only [List.set_cons_zero, List.set_cons_succ])
  | with_reducible refine Rs.vs_mk ?_
  | ((with_reducible apply Rs.rc_mk); rfl)
  | with_reducible refine Rs.pi_seq ?_
  | with_reducible refine Rs.pi_range ?_
  | with_reducible refine Rs.pi_enum ?_
  | with_reducible refine Rs.si_tup ?_
  | with_reducible refine Rs.si_lst ?_
  | with_reducible refine Rs.si_wtp ?_
  | with_reducible refine Rs.si_scr ?_
  | with_reducible refine Rs.ri_1 (by omega) (by omega) ?_
  | with_reducible refine Rs.ri_2 (by omega) (by omega) ?_
  | with_reducible refine Rs.li_tup ?_
  | with_reducible refine Rs.li_lst ?_
  | with_reducible refine Rs.ps_each ?_
  | with_reducible refine Rs.beh_nx ?_
  | with_reducible refine Rs.beh_ret ?_
  | with_reducible refine Rs.beh_ex ?_
  | with_reducible refine Rs.beh_brk ?_
  | with_reducible refine Rs.beh_cont ?_
  | with_reducible refine Rs.rnd_nx ?_
  | with_reducible refine Rs.rnd_cont ?_
  | with_reducible refine Rs.rnd_brk ?_
  | with_reducible refine Rs.rnd_ret ?_
  | with_reducible refine Rs.rnd_ex ?_
  | with_reducible refine Rs.ps_brk ?_
  | with_reducible refine Rs.ps_cont ?_
  | with_reducible refine Rs.pt_nil ?_
  | with_reducible refine Rs.pe_comp ?_
  | with_reducible refine Rs.pe_callk ?_
  | ((with_reducible apply Rs.kw_mk); rfl; rfl)
  | ((with_reducible apply Rs.pc_item); rfl))
theorem end_split {w : Str} {a b : Int} (hw : w ∈ ENDS) (ha : num a) (hb : num b) : Txt.split (endT (some (w, a, b))) ":" = [w, nT a, nT b] := by
  have : endT (some (w, a, b)) = Txt.join ":" [w, nT a, nT b] := by
    rw [join_cons, join_cons, join_one]
    show w ++ ":" ++ nT a ++ ":" ++ nT b = _
    simp only [cat3]
  rw [this]
  refine split_join col_S (by decide) (by simp) fun x hx => ?_
  simp only [List.mem_cons, List.not_mem_nil, or_false] at hx
  rcases hx with rfl | rfl | rfl
  · exact (by decide +kernel : ∀ w ∈ ENDS, 58 ∉ w.cps.toList) _ hw
  · exact nT_no ha (.inr (by decide))
  · exact nT_no hb (.inr (by decide))
theorem end_dash {w : Str} {a b : Int} (hw : w ∈ ENDS) (ha : num a) (hb : num b) : ¬ endT (some (w, a, b)) = "-" := fun e => by
  have h := end_split hw ha hb
  rw [e] at h
  have h3 : (Txt.split "-" ":").length = 3 := congrArg List.length h
  exact absurd h3 (by decide +kernel)
theorem ends_in {w : Str} (h : w ∈ ENDS) : w ∈ (["good", "bad", "off"] : List Str) := h
set_option maxHeartbeats 1000000 in
theorem k12 {W k : Nat} (c9 : C9 (evCall T.P W k)) : C12 (evCall T.P W (k + 1)) := by
  intro e M Q E he hq
  refine pe_call0 P12 rfl rfl rfl rfl ?_
  generalize evCall T.P W k = Φ at c9
  show Ps (evSs Φ W D12.body [some (.str (endT e)), none] []) _
  unfold D12
  dsimp only
  have lay := (endT_wd he).lay
  have len := (endT_wd he).1
  have d0 := dash_lay
  cases e with
  | none =>
    have h1 : endT none = "-" := rfl
    repeat' (first | with_reducible refine Rs.if_tt (decide_eq_true h1) ?_ | array_get_dec)
    exact fr_ret rfl hq
  | some t =>
    obtain ⟨w, a, b⟩ := t
    obtain ⟨hw, ha, hb⟩ := he w a b rfl
    have h1 := end_dash hw ha hb
    have hw : w ∈ (["good", "bad", "off"] : List Str) := hw
    repeat' (first | with_reducible refine Rs.if_ff (decide_eq_false h1) ?_ | array_get_dec)
    refine me_split col_ne (by omega) ?_
    rw [end_split hw ha hb]
    repeat' (first | array_get_dec)
    refine po_ninTS (l := ["good", "bad", "off"]) (.inr rfl) ?_
    repeat' (first | with_reducible refine Rs.if_tt (decide_eq_true hw) ?_ | with_reducible refine c9 _ _ _ _ ha ?_ | with_reducible refine c9 _ _ _ _ hb ?_ | array_get_dec)
    exact fr_ret rfl hq
theorem P14 : T.P 14 = some D14.fn := rfl
theorem P15 : T.P 15 = some D15.fn := rfl
theorem P17 : T.P 17 = some D17.fn := rfl
abbrev C14 (Φ : Oracle) : Prop := ∀ (s : StV) (M : Mem) (Q : I → Mem → Prop) (E : Nat → Mem → Prop), StOk s → Q (stI (some s)) M → Pe (Φ 14 [lI (stW s)] M) Q E
abbrev C15 (Φ : Oracle) : Prop := ∀ (s : NoV) (M : Mem) (Q : I → Mem → Prop) (E : Nat → Mem → Prop), NoOk s → Q (noI s) M → Pe (Φ 15 [lI (noW s)] M) Q E
abbrev C17 (Φ : Oracle) : Prop := ∀ (s : AsV) (M : Mem) (Q : I → Mem → Prop) (E : Nat → Mem → Prop), AsOk s → Q (asI s) M → Pe (Φ 17 [lI (asW s)] M) Q E
theorem lI_flat (l : List Str) : I.flats [lI l] = true := flats1 (flats_strs l)
theorem note_lay : StrOk "note" := strOk_of (by decide +kernel)
set_option maxHeartbeats 1000000 in
theorem k15 {W k : Nat} (c9 : C9 (evCall T.P W k)) (c13 : C13 (evCall T.P W k)) : C15 (evCall T.P W (k + 1)) := by
  intro n M Q E hn hq
  refine pe_call0 P15 rfl rfl rfl (lI_flat _) ?_
  generalize evCall T.P W k = Φ at c9 c13
  show Ps (evSs Φ W D15.body [some (.lst [.str "note", .str (nT n.1), .str n.2.1, .str (nT n.2.2)])] []) _
  unfold D15
  dsimp only
  have c : ∀ M Q E, Q .non M → Pe (Φ 13 [.lst [.str "note", .str (nT n.1), .str n.2.1, .str (nT n.2.2)], .str "note", .int 4] M) Q E := fun M Q E h => c13 "note" [nT n.1, n.2.1, nT n.2.2] M Q E note_lay h
  have h1 := hn.h
  have h2 := hn.n
  have hw : n.2.1 ∈ (["tell", "do", "done", "undo", "undone"] : List Str) := hn.w
  repeat' (first | with_reducible refine c _ _ _ ?_ | array_get_dec)
  refine po_ninTS (l := ["tell", "do", "done", "undo", "undone"]) (.inr rfl) ?_
  repeat' (first | with_reducible refine Rs.if_tt (decide_eq_true hw) ?_ | with_reducible refine c9 _ _ _ _ h1 ?_ | with_reducible refine c9 _ _ _ _ h2 ?_ | array_get_dec)
  exact fr_ret rfl hq
theorem ask_lay : StrOk "ask" := strOk_of (by decide +kernel)
theorem as_in {a : AsV} (o : AsOk a) : (a.path.length : Int) ∈ ([2, 4, 6] : List Int) := o.p.l
set_option maxHeartbeats 1000000 in
theorem k17 {W k : Nat} (c9 : C9 (evCall T.P W k)) (c10 : C10 (evCall T.P W k)) (c11 : C11 (evCall T.P W k)) (c12 : C12 (evCall T.P W k)) (c13 : C13 (evCall T.P W k)) : C17 (evCall T.P W (k + 1)) := by
  intro a M Q E o hq
  refine pe_call0 P17 rfl rfl rfl (lI_flat _) ?_
  generalize evCall T.P W k = Φ at c9 c10 c11 c12 c13
  show Ps (evSs Φ W D17.body [some (.lst [.str "ask", .str (pathT a.path), .str a.who, .str (nT a.number), .str (nT a.sent), .str (endT a.fin)]), none] []) _
  unfold D17
  dsimp only
  have c : ∀ M Q E, Q .non M → Pe (Φ 13 [.lst [.str "ask", .str (pathT a.path), .str a.who, .str (nT a.number), .str (nT a.sent), .str (endT a.fin)], .str "ask", .int 6] M) Q E := fun M Q E h => c13 "ask" [pathT a.path, a.who, nT a.number, nT a.sent, endT a.fin] M Q E ask_lay h
  have c10 : ∀ M Q E, Q (pI a.path) M → Pe (Φ 10 [.str (pathT a.path), .wtp [.int 2, .int 4, .int 6]] M) Q E := fun M Q E h => c10 _ [2, 4, 6] _ _ _ o.pw o.p.l h
  have h1 := o.n
  have h2 := o.s
  have hw := o.w
  have hf := o.f
  repeat' (first | with_reducible refine c _ _ _ ?_ | with_reducible refine c9 _ _ _ _ h1 ?_ | with_reducible refine c9 _ _ _ _ h2 ?_ | with_reducible refine c10 _ _ _ ?_ | with_reducible refine c11 _ _ _ _ hw ?_ | with_reducible refine c12 _ _ _ _ hf ?_ | array_get_dec)
  refine po_addT (by simp) ?_
  exact fr_ret (as_flat a) hq
theorem cut5 (a b c d e : I) (l : List I) : cut (a :: b :: c :: d :: e :: l) (some 5) none = l := by
  unfold cut
  have e1 : HT.sIx (a :: b :: c :: d :: e :: l).length 0 (some 5) = 5 := by
    rw [show (5 : Int) = ((5 : Nat) : Int) from rfl, HT.sIx_nat]
    simp only [List.length_cons]; omega
  rw [e1]
  simp [HT.sIx]
theorem dig01 (b : Bool) : nT (if b = true then 1 else 0) = (if b then "1" else "0" : Str) := by
  cases b <;> decide +kernel
theorem state_lay : StrOk "state" := strOk_of (by decide +kernel)
set_option maxHeartbeats 2000000 in
theorem k14 {W k : Nat} (c9 : C9 (evCall T.P W k)) : C14 (evCall T.P W (k + 1)) := by
  intro s M Q E o hq
  refine pe_call0 P14 rfl rfl rfl (lI_flat _) ?_
  generalize evCall T.P W k = Φ at c9
  obtain ⟨dg, hd⟩ : ∃ dg : Str, dg = nT (if s.called = true then 1 else 0) := ⟨_, rfl⟩
  have hdg : dg ∈ (["0", "1"] : List Str) ∧ (decide (dg = "1") = s.called) ∧ StrOk dg := by
    rw [hd, dig01]
    cases s.called
    · exact ⟨by simp, by decide +kernel, strOk_of (by decide +kernel)⟩
    · exact ⟨by simp, by decide +kernel, strOk_of (by decide +kernel)⟩
  have ew : lI (stW s) = .lst (.str "state" :: .str (nT s.room) :: .str (nT s.wants) :: .str (nT s.rounds) :: .str dg :: s.slots.map (I.str ∘ nT)) := by
    rw [hd]
    simp [lI, stW, stNs]
  rw [ew]
  obtain ⟨hd1, hd2, hd3⟩ := hdg
  show Ps (evSs Φ W D14.body [some (.lst (.str "state" :: .str (nT s.room) :: .str (nT s.wants) :: .str (nT s.rounds) :: .str dg :: s.slots.map (I.str ∘ nT))), none, none] []) _
  unfold D14
  dsimp only
  have r1 := o.r
  have r2 := o.w
  have r3 := o.o
  have hl := state_lay
  have one : StrOk "1" := strOk_of (by decide +kernel)
  have h1 : decide ((Str.ofString "state") = Str.ofString "state") = true := decide_eq_true rfl
  have hlen : ¬ ((.str "state" :: .str (nT s.room) :: .str (nT s.wants) :: .str (nT s.rounds) :: .str dg :: s.slots.map (I.str ∘ nT) : List I).length : Int) < 5 := by
    simp only [List.length_cons]; omega
  repeat' (first | with_reducible refine Rs.if_tt h1 ?_ | with_reducible refine Rs.if_ff (decide_eq_false hlen) ?_ | array_get_dec)
  refine po_ninTS (l := ["0", "1"]) (.inl rfl) ?_
  repeat' (first | with_reducible refine Rs.if_tt (decide_eq_true hd1) ?_ | array_get_dec)
  refine Rs.po_slL rfl ?_
  rw [cut5]
  repeat' (first | array_get_dec)
  refine compL_all (f := I.str ∘ nT) (f' := I.int) (by have := o.l; omega) (fun y hy => ?_) ?_
  · have hn := o.s y hy
    show Pc (compP Φ _ _ _ _ _ (.str (nT y)) _) _
    repeat' (first | with_reducible refine c9 _ _ _ _ hn ?_ | array_get_dec)
    exact ⟨rfl, rfl⟩
  · repeat' (first | with_reducible refine c9 _ _ _ _ r1 ?_ | with_reducible refine c9 _ _ _ _ r2 ?_ | with_reducible refine c9 _ _ _ _ r3 ?_ | array_get_dec)
    rw [hd2]
    exact fr_ret (stI_flat (some s)) hq
end K75

namespace K75
open PySem PySem.Spec PyProof.Rows L2 Rs
local macro_rules | `(tactic| array_get_dec) => `(tactic| first
  | with_reducible refine Rs.pe_op ?_
  | with_reducible refine Rs.pe_cons ?_
  | ((with_reducible apply Rs.pe_var); rfl)
  | with_reducible refine Rs.pe_const ?_
  | with_reducible refine Rs.pe_nil ?_
  | with_reducible refine Rs.pe_glob ?_
  | with_reducible refine Rs.po_add ?_
  | with_reducible refine Rs.po_sub ?_
  | with_reducible refine Rs.po_mul (by omega) (by omega) ?_
  | with_reducible refine Rs.po_mod (by omega) ?_
  | with_reducible refine Rs.po_fdiv (by omega) (by omega) ?_
  | with_reducible refine Rs.po_pow6 ?_
  | with_reducible refine Rs.po_pow18 ?_
  | with_reducible refine Rs.po_neg ?_
  | with_reducible refine Rs.po_lt ?_
  | with_reducible refine Rs.po_le ?_
  | with_reducible refine Rs.po_gt ?_
  | with_reducible refine Rs.po_ge ?_
  | with_reducible refine Rs.po_eqI ?_
  | with_reducible refine Rs.po_neI ?_
  | with_reducible refine Rs.po_eqS (by first | assumption | exact strOk_of (by decide +kernel)) (by first | assumption | exact strOk_of (by decide +kernel)) ?_
  | with_reducible refine Rs.po_neS (by first | assumption | exact strOk_of (by decide +kernel)) (by first | assumption | exact strOk_of (by decide +kernel)) ?_
  | ((with_reducible apply Rs.po_isN); rfl)
  | ((with_reducible apply Rs.po_notN); rfl)
  | with_reducible refine Rs.po_isB ?_
  | ((with_reducible apply Rs.po_isT); rfl)
  | ((with_reducible apply Rs.po_ixT); first | assumption | exact Rs.at0 | exact Rs.at1 | exact Rs.at2 | exact Rs.at3 | exact Rs.at4 | rfl)
  | ((with_reducible apply Rs.po_ixL); first | assumption | exact Rs.at0 | exact Rs.at1 | exact Rs.at2 | exact Rs.at3 | exact Rs.at4 | rfl)
  | ((with_reducible apply Rs.po_ixW); first | assumption | exact Rs.at0 | exact Rs.at1 | exact Rs.at2 | exact Rs.at3 | exact Rs.at4 | rfl)
  | with_reducible refine Rs.po_lenL ?_
  | with_reducible refine Rs.po_lenT ?_
  | with_reducible refine Rs.po_lenW ?_
  | with_reducible refine Rs.po_lenScr ?_
  | with_reducible refine Rs.po_lenS (by assumption) ?_
  | ((with_reducible apply Rs.po_lenO); rfl)
  | ((with_reducible apply Rs.po_tupL); rfl)
  | with_reducible refine Rs.po_tupT ?_
  | with_reducible refine Rs.po_lstT ?_
  | with_reducible refine Rs.po_intB ?_
  | with_reducible refine Rs.po_intI ?_
  | with_reducible refine Rs.po_abs ?_
  | with_reducible refine Rs.po_strI (by omega) ?_
  | with_reducible refine Rs.po_shScr ?_
  | with_reducible refine Rs.pe_call ?_
  | with_reducible refine Rs.pe_and ?_
  | with_reducible refine Rs.pe_or ?_
  | with_reducible refine Rs.pe_not ?_
  | with_reducible refine Rs.pe_ife ?_
  | with_reducible refine Rs.pe_chain ?_
  | with_reducible refine Rs.pe_meth ?_
  | with_reducible refine Rs.pe_tup ?_
  | with_reducible refine Rs.pe_lst ?_
  | with_reducible refine Rs.tr_bl ?_
  | with_reducible refine Rs.tr_int ?_
  | with_reducible refine Rs.tr_non ?_
  | with_reducible refine Rs.tr_lst ?_
  | with_reducible refine Rs.tr_tup ?_
  | with_reducible refine Rs.if_not ?_
  | ((with_reducible apply Rs.if_tt); rfl)
  | ((with_reducible apply Rs.if_ff); rfl)
  | with_reducible refine Rs.if_tt (by decide) ?_
  | with_reducible refine Rs.if_ff (by decide) ?_
  | with_reducible refine Rs.if_dec (fun _ => ?_) (fun _ => by exfalso; omega)
  | with_reducible refine Rs.if_dec (fun _ => by exfalso; omega) (fun _ => ?_)
  | with_reducible refine Rs.if_dec (fun _ => ?_) (fun _ => ?_)
  | with_reducible refine Rs.ps_app0 ?_
  | with_reducible refine Rs.ps_app1 ?_
  | with_reducible refine Rs.ps_asg ?_
  | with_reducible refine Rs.ps_cond ?_
  | with_reducible refine Rs.ps_ret ?_
  | with_reducible refine Rs.ps_nil ?_
  | with_reducible refine Rs.ps_ex ?_
  | with_reducible refine Rs.ps_pass ?_
  | with_reducible refine Rs.ps_retN ?_
  | ((with_reducible apply Rs.po_nm); exact Nat.le_of_ble_eq_true rfl; simp only [List.set_cons_zero, List.set_cons_succ])
  | ((with_reducible apply Rs.fw_mk); exact Nat.le_of_ble_eq_true rfl)
  | with_reducible refine Rs.in_mk ?_
  | with_reducible refine Rs.bl_mk ?_
  | ((with_reducible refine Rs.ce_lst ?_); simp only [List.length_cons, List.length_nil, Nat.reduceAdd, List.cons_append, List.nil_append])
  | ((with_reducible refine Rs.ce_dic ?_); simp only [List.length_cons, List.length_nil, Nat.reduceAdd, List.cons_append, List.nil_append])
  | with_reducible refine Rs.pe_cell ?_
  | with_reducible refine Rs.pe_app ?_
  | with_reducible refine Rs.pe_ext ?_
  | ((with_reducible apply Rs.ob_mk); rfl)
  | ((with_reducible apply Rs.ap_mk); rfl; (first | omega | (simp only [List.length_append, List.length_map, List.length_cons, List.length_nil]; omega)); simp only [List.set_cons_zero, List.set_cons_succ])
  | ((with_reducible apply Rs.ex_mk); rfl; rfl; (first | omega | (simp only [List.length_append, List.length_map, List.length_cons, List.length_nil]; omega)); simp only [List.set_cons_zero, List.set_cons_succ])
  | with_reducible refine Rs.vs_mk ?_
  | ((with_reducible apply Rs.rc_mk); rfl)
  | with_reducible refine Rs.pi_seq ?_
  | with_reducible refine Rs.pi_range ?_
  | with_reducible refine Rs.pi_enum ?_
  | with_reducible refine Rs.si_tup ?_
  | with_reducible refine Rs.si_lst ?_
  | with_reducible refine Rs.si_wtp ?_
  | with_reducible refine Rs.si_scr ?_
  | with_reducible refine Rs.ri_1 (by omega) (by omega) ?_
  | with_reducible refine Rs.ri_2 (by omega) (by omega) ?_
  | with_reducible refine Rs.li_tup ?_
  | with_reducible refine Rs.li_lst ?_
  | with_reducible refine Rs.ps_each ?_
  | with_reducible refine Rs.beh_nx ?_
  | with_reducible refine Rs.beh_ret ?_
  | with_reducible refine Rs.beh_ex ?_
  | with_reducible refine Rs.beh_brk ?_
  | with_reducible refine Rs.beh_cont ?_
  | with_reducible refine Rs.rnd_nx ?_
  | with_reducible refine Rs.rnd_cont ?_
  | with_reducible refine Rs.rnd_brk ?_
  | with_reducible refine Rs.rnd_ret ?_
  | with_reducible refine Rs.rnd_ex ?_
  | with_reducible refine Rs.ps_brk ?_
  | with_reducible refine Rs.ps_cont ?_
  | with_reducible refine Rs.pt_nil ?_
  | with_reducible refine Rs.pe_comp ?_
  | with_reducible refine Rs.pe_callk ?_
  | ((with_reducible apply Rs.kw_mk); rfl; rfl)
  | ((with_reducible apply Rs.pc_item); rfl))
theorem P16 : T.P 16 = some D16.fn := rfl
theorem P18 : T.P 18 = some D18.fn := rfl
theorem P19 : T.P 19 = some D19.fn := rfl
theorem at_ln {L : List (List Str)} {i : Int} {k : Nat} {l : List Str} (e : i = (k : Int)) (h : L[k]? = some l) : atI (L.map lI) i = some (lI l) := at_int e (by rw [List.getElem?_map, h]; rfl)
/-- a house stands in lines -/
structure HoAt (L : List (List Str)) (b : Nat) (h : HoV) : Prop where
  l0 : L[b]? = some (hdW h)
  ls : ∀ s, h.state = some s → L[b + 1]? = some (stW s)
  ln : ∀ i n, h.diary[i]? = some n → L[b + 1 + (stL h.state).length + i]? = some (noW n)
  le : L.length = b + 1 + (stL h.state).length + h.diary.length ∨ ∃ w ws, L[b + 1 + (stL h.state).length + h.diary.length]? = some (w :: ws) ∧ w ≠ "note" ∧ StrOk w
abbrev C16 (Φ : Oracle) : Prop := ∀ (L : List (List Str)) (b : Nat) (h : HoV) (M : Mem) (Q : I → Mem → Prop) (E : Nat → Mem → Prop), HoAt L b h → HoOk h → L.length ≤ 1000 → Q (.tup [hoI h, .int ((b + (hoL h).length : Nat) : Int)]) M → Pe (Φ 16 [.lst (L.map lI), .int (b : Int)] M) Q E
theorem take_snoc2 {α : Type} {l : List α} {i : Nat} {x : α} (h : l[i]? = some x) : l.take (i + 1) = l.take i ++ [x] := by
  rw [List.take_succ, h]; rfl
theorem house_lay : StrOk "house" := strOk_of (by decide +kernel)
set_option maxHeartbeats 4000000 in
theorem k16 {W k : Nat} (hW : 2000 ≤ W) (c9 : C9 (evCall T.P W k)) (c10 : C10 (evCall T.P W k)) (c11 : C11 (evCall T.P W k)) (c12 : C12 (evCall T.P W k)) (c13 : C13 (evCall T.P W k)) (c14 : C14 (evCall T.P W k)) (c15 : C15 (evCall T.P W k)) : C16 (evCall T.P W (k + 1)) := by
  intro L b h M Q E H o hL hq
  refine pe_call0 P16 rfl rfl rfl (by show (I.flats (L.map lI) && true) = true; rw [lIs_flat]; rfl) ?_
  generalize evCall T.P W k = Φ at c9 c10 c11 c12 c13 c14 c15
  show Ps (evSs Φ W D16.body [some (.lst (L.map lI)), some (.int (b : Int)), none, none, none, none] []) _
  unfold D16
  dsimp only
  have c : ∀ M Q E, Q .non M → Pe (Φ 13 [lI (hdW h), .str "house", .int 5] M) Q E := fun M Q E hh => c13 "house" [pathT h.path, h.name, nT h.begun, endT h.fin] M Q E house_lay hh
  have c10 : ∀ M Q E, Q (pI h.path) M → Pe (Φ 10 [.str (pathT h.path), .wtp [.int 0, .int 2, .int 4]] M) Q E := fun M Q E hh => c10 _ [0, 2, 4] _ _ _ o.pw o.p.l hh
  have h1 := o.b
  have hw := o.n
  have hf := o.f
  have dl := o.dl
  have a0 : atI (L.map lI) (b : Int) = some (lI (hdW h)) := at_ln rfl H.l0
  have b0 : b < L.length := (List.getElem?_eq_some_iff.mp H.l0).1
  have w0 : ∀ M, Rs.sh M (lI (hdW h)) = .lst [.str "house", .str (pathT h.path), .str h.name, .str (nT h.begun), .str (endT h.fin)] := fun _ => rfl
  repeat' (first | with_reducible refine c _ _ _ ?_ | array_get_dec)
  refine Rs.po_ix (w0 _) rfl ?_
  repeat' (first | with_reducible refine c10 _ _ _ ?_ | array_get_dec)
  refine Rs.po_ix (w0 _) rfl ?_
  repeat' (first | with_reducible refine c11 _ _ _ _ hw ?_ | array_get_dec)
  refine Rs.po_ix (w0 _) rfl ?_
  repeat' (first | with_reducible refine c9 _ _ _ _ h1 ?_ | array_get_dec)
  refine Rs.po_ix (w0 _) rfl ?_
  repeat' (first | with_reducible refine c12 _ _ _ _ hf ?_ | array_get_dec)
  -- behind the state
  have rest : ∀ (st : I) (at_ : Int), st = stI h.state → at_ = ((b + 1 + (stL h.state).length : Nat) : Int) → Ps (evSs Φ W (.cons (.asg (.nm 5) (.cell (.disp false .nil))) (.cons (.loop (.and (.op .lt (.cons (.var 1) (.cons (.op .len (.cons (.var 0) .nil)) .nil))) (.op .eq (.cons (.op .ix (.cons (.op .ix (.cons (.var 0) (.cons (.var 1) .nil))) (.cons (.const (.int 0)) .nil))) (.cons (.const (.str "note")) .nil)))) B16_0) (.cons (.ret (.disp true (.cons (.op .add (.cons (.var 3) (.cons (.disp true (.cons (.op .tuple (.cons (.var 5) .nil)) (.cons (.var 4) .nil))) .nil))) (.cons (.var 1) .nil)))) .nil)))
      [some (.lst (L.map lI)), some (.int at_), some (lI (hdW h)), some (.tup [pI h.path, .str h.name, .int h.begun, eI h.fin]), some st, none] []) (FrO M Q E) := by
    rintro st at_ rfl rfl
    generalize hB : b + 1 + (stL h.state).length = B at *
    have Hn := H.ln
    have He := H.le
    rw [hB] at Hn He
    repeat' (first | array_get_dec)
    refine ps_loop (loop_inv (Inv := fun τ M => ∃ j, j ≤ h.diary.length ∧ τ = [some (.lst (L.map lI)), some (.int ((B + j : Nat) : Int)), some (lI (hdW h)), some (.tup [pI h.path, .str h.name, .int h.begun, eI h.fin]), some (stI h.state), some (.obj 0)] ∧ M = [.lst ((h.diary.take j).map noI)])
      (fun τ M => match τ with | _ :: some (.int a) :: _ => 1500 - a.toNat | _ => 0) W _ _ ⟨0, Nat.zero_le _, rfl, rfl⟩ (by dsimp only; omega) ?_)
    rintro τ M ⟨j, hj, rfl, rfl⟩
    by_cases hlt : j < h.diary.length
    · obtain ⟨n, hn⟩ : ∃ n, h.diary[j]? = some n := ⟨_, List.getElem?_eq_getElem hlt⟩
      have l1 := Hn j n hn
      have l2 : B + j < L.length := (List.getElem?_eq_some_iff.mp l1).1
      have a1 : atI (L.map lI) ((B + j : Nat) : Int) = some (lI (noW n)) := at_ln rfl l1
      have t1 : ((B + j : Nat) : Int) < ((L.map lI).length : Int) := by rw [List.length_map]; omega
      have n1 := o.d n (List.mem_of_getElem? hn)
      have q1 : Rs.sh ([.lst ((h.diary.take j).map noI)] : Mem) (lI (noW n)) = .lst [.str "note", .str (nT n.1), .str n.2.1, .str (nT n.2.2)] := rfl
      have nl := note_lay
      have t2 : decide ((Str.ofString "note") = Str.ofString "note") = true := decide_eq_true rfl
      repeat' (first | with_reducible refine Rs.if_tt (decide_eq_true t1) ?_ | array_get_dec)
      refine Rs.po_ix q1 rfl ?_
      repeat' (first | with_reducible refine Rs.if_tt t2 ?_ | array_get_dec)
      unfold B16_0
      have hl : ((h.diary.take j).map noI).length < 16777216 := by rw [List.length_map, List.length_take]; omega
      repeat' (first | with_reducible refine c15 _ _ _ _ n1 ?_ | array_get_dec)
      refine ⟨⟨j + 1, hlt, by simp [Int.add_assoc], ?_⟩, ?_⟩
      · rw [take_snoc2 hn]
        simp
      · show 1500 - (((B + j : Nat) : Int) + 1).toNat < 1500 - ((B + j : Nat) : Int).toNat
        omega
    · have hj : j = h.diary.length := by omega
      subst hj
      have fin : Ps (evSs Φ W (.cons (.ret (.disp true (.cons (.op .add (.cons (.var 3) (.cons (.disp true (.cons (.op .tuple (.cons (.var 5) .nil)) (.cons (.var 4) .nil))) .nil))) (.cons (.var 1) .nil)))) .nil) [some (.lst (L.map lI)), some (.int ((B + h.diary.length : Nat) : Int)), some (lI (hdW h)), some (.tup [pI h.path, .str h.name, .int h.begun, eI h.fin]), some (stI h.state), some (.obj 0)] [.lst ((h.diary.take h.diary.length).map noI)]) (FrO M Q E) := by
        repeat' (first | array_get_dec)
        refine po_addT (by simp) ?_
        repeat' (first | array_get_dec)
        rw [List.take_length]
        refine fr_ret ?_ ?_
        · show ((hoI h).flat && true) = true
          rw [ho_flat]; rfl
        · have : b + (hoL h).length = B + h.diary.length := by
            unfold hoL
            simp only [List.length_cons, List.length_append, List.length_map]
            omega
          rw [← this]
          exact hq
      rcases He with he | ⟨w, ws, he, hw2, hlay⟩
      · have t1 : ¬ ((B + h.diary.length : Nat) : Int) < ((L.map lI).length : Int) := by rw [List.length_map]; omega
        repeat' (first | with_reducible refine Rs.if_ff (decide_eq_false t1) ?_ | with_reducible exact fin | array_get_dec)
      · have l2 : B + h.diary.length < L.length := (List.getElem?_eq_some_iff.mp he).1
        have a1 : atI (L.map lI) ((B + h.diary.length : Nat) : Int) = some (lI (w :: ws)) := at_ln rfl he
        have t1 : ((B + h.diary.length : Nat) : Int) < ((L.map lI).length : Int) := by rw [List.length_map]; omega
        have nl := note_lay
        repeat' (first | with_reducible refine Rs.if_tt (decide_eq_true t1) ?_ | array_get_dec)
        refine Rs.po_ix (x := .lst (.str w :: ws.map .str)) rfl at0 ?_
        repeat' (first | with_reducible refine Rs.if_ff (decide_eq_false hw2) ?_ | with_reducible exact fin | array_get_dec)
  have hq2 := eq_end hf
  have e3 : atI [pI h.path, .str h.name, .int h.begun, eI h.fin] 3 = some (eI h.fin) := rfl
  refine po_eqD hq2 (eI_flat _) rfl ?_
  cases hfin : h.fin with
  | some t =>
    have hst : h.state = none := by
      have := o.s
      cases hs : h.state with
      | none => rfl
      | some s =>
        rw [hs, hfin] at this
        exact absurd (this.mpr (by simp)) (by simp)
    repeat' (first | with_reducible refine Rs.if_ff (Option.isNone_some (a := t)) ?_ | array_get_dec)
    rw [hfin] at rest
    refine rest _ _ ?_ ?_
    · rw [hst]; rfl
    · rw [hst]; simp [stL]
  | none =>
    obtain ⟨s, hst⟩ : ∃ s, h.state = some s := by
      have := o.s.mp hfin
      cases hs : h.state with
      | none => exact absurd hs this
      | some s => exact ⟨s, rfl⟩
    have l1 := H.ls s hst
    have l2 : b + 1 < L.length := (List.getElem?_eq_some_iff.mp l1).1
    have a1 : atI (L.map lI) ((b : Int) + 1) = some (lI (stW s)) := at_ln (by simp) l1
    have t1 : ¬ ((b : Int) + 1 = ((L.map lI).length : Int)) := by rw [List.length_map]; omega
    have so := o.so s hst
    rw [hfin] at rest
    repeat' (first | with_reducible refine Rs.if_tt (Option.isNone_none (α := Str × Int × Int)) ?_ | with_reducible refine Rs.if_ff (decide_eq_false t1) ?_ | with_reducible refine c14 _ _ _ _ so ?_ | array_get_dec)
    refine rest _ _ ?_ ?_
    · rw [hst]
    · rw [hst]; simp [stL]
end K75

namespace K75
open PySem PySem.Spec PyProof.Rows L2 Rs
local macro_rules | `(tactic| array_get_dec) => `(tactic| first
  | with_reducible refine Rs.pe_op ?_
  | with_reducible refine Rs.pe_cons ?_
  | ((with_reducible apply Rs.pe_var); rfl)
  | with_reducible refine Rs.pe_const ?_
  | with_reducible refine Rs.pe_nil ?_
  | with_reducible refine Rs.pe_glob ?_
  | with_reducible refine Rs.po_add ?_
  | with_reducible refine Rs.po_sub ?_
  | with_reducible refine Rs.po_mul (by omega) (by omega) ?_
  | with_reducible refine Rs.po_mod (by omega) ?_
  | with_reducible refine Rs.po_fdiv (by omega) (by omega) ?_
  | with_reducible refine Rs.po_pow6 ?_
  | with_reducible refine Rs.po_pow18 ?_
  | with_reducible refine Rs.po_neg ?_
  | with_reducible refine Rs.po_lt ?_
  | with_reducible refine Rs.po_le ?_
  | with_reducible refine Rs.po_gt ?_
  | with_reducible refine Rs.po_ge ?_
  | with_reducible refine Rs.po_eqI ?_
  | with_reducible refine Rs.po_neI ?_
  | with_reducible refine Rs.po_eqS (by first | assumption | exact strOk_of (by decide +kernel)) (by first | assumption | exact strOk_of (by decide +kernel)) ?_
  | with_reducible refine Rs.po_neS (by first | assumption | exact strOk_of (by decide +kernel)) (by first | assumption | exact strOk_of (by decide +kernel)) ?_
  | ((with_reducible apply Rs.po_isN); rfl)
  | ((with_reducible apply Rs.po_notN); rfl)
  | with_reducible refine Rs.po_isB ?_
  | ((with_reducible apply Rs.po_isT); rfl)
  | ((with_reducible apply Rs.po_ixT); first | assumption | exact Rs.at0 | exact Rs.at1 | exact Rs.at2 | exact Rs.at3 | exact Rs.at4 | rfl)
  | ((with_reducible apply Rs.po_ixL); first | assumption | exact Rs.at0 | exact Rs.at1 | exact Rs.at2 | exact Rs.at3 | exact Rs.at4 | rfl)
  | ((with_reducible apply Rs.po_ixW); first | assumption | exact Rs.at0 | exact Rs.at1 | exact Rs.at2 | exact Rs.at3 | exact Rs.at4 | rfl)
  | with_reducible refine Rs.po_lenL ?_
  | with_reducible refine Rs.po_lenT ?_
  | with_reducible refine Rs.po_lenW ?_
  | with_reducible refine Rs.po_lenScr ?_
  | with_reducible refine Rs.po_lenS (by assumption) ?_
  | ((with_reducible apply Rs.po_lenO); rfl)
  | ((with_reducible apply Rs.po_tupL); rfl)
  | with_reducible refine Rs.po_tupT ?_
  | with_reducible refine Rs.po_lstT ?_
  | with_reducible refine Rs.po_intB ?_
  | with_reducible refine Rs.po_intI ?_
  | with_reducible refine Rs.po_abs ?_
  | with_reducible refine Rs.po_strI (by omega) ?_
  | with_reducible refine Rs.po_shScr ?_
  | with_reducible refine Rs.pe_call ?_
  | with_reducible refine Rs.pe_and ?_
  | with_reducible refine Rs.pe_or ?_
  | with_reducible refine Rs.pe_not ?_
  | with_reducible refine Rs.pe_ife ?_
  | with_reducible refine Rs.pe_chain ?_
  | with_reducible refine Rs.pe_meth ?_
  | with_reducible refine Rs.pe_tup ?_
  | with_reducible refine Rs.pe_lst ?_
  | with_reducible refine Rs.tr_bl ?_
  | with_reducible refine Rs.tr_int ?_
  | with_reducible refine Rs.tr_non ?_
  | with_reducible refine Rs.tr_lst ?_
  | with_reducible refine Rs.tr_tup ?_
  | with_reducible refine Rs.if_not ?_
  | ((with_reducible apply Rs.if_tt); rfl)
  | ((with_reducible apply Rs.if_ff); rfl)
  | with_reducible refine Rs.if_tt (by decide) ?_
  | with_reducible refine Rs.if_ff (by decide) ?_
  | with_reducible refine Rs.if_dec (fun _ => ?_) (fun _ => by exfalso; omega)
  | with_reducible refine Rs.if_dec (fun _ => by exfalso; omega) (fun _ => ?_)
  | with_reducible refine Rs.if_dec (fun _ => ?_) (fun _ => ?_)
  | with_reducible refine Rs.ps_app0 ?_
  | with_reducible refine Rs.ps_app1 ?_
  | with_reducible refine Rs.ps_asg ?_
  | with_reducible refine Rs.ps_cond ?_
  | with_reducible refine Rs.ps_ret ?_
  | with_reducible refine Rs.ps_nil ?_
  | with_reducible refine Rs.ps_ex ?_
  | with_reducible refine Rs.ps_pass ?_
  | with_reducible refine Rs.ps_retN ?_
  | ((with_reducible apply Rs.po_nm); exact Nat.le_of_ble_eq_true rfl; simp only [List.set_cons_zero, List.set_cons_succ])
  | ((with_reducible apply Rs.fw_mk); exact Nat.le_of_ble_eq_true rfl)
  | with_reducible refine Rs.in_mk ?_
  | with_reducible refine Rs.bl_mk ?_
  | ((with_reducible refine Rs.ce_lst ?_); simp only [List.length_cons, List.length_nil, Nat.reduceAdd, List.cons_append, List.nil_append])
  | ((with_reducible refine Rs.ce_dic ?_); simp only [List.length_cons, List.length_nil, Nat.reduceAdd, List.cons_append, List.nil_append])
  | with_reducible refine Rs.pe_cell ?_
  | with_reducible refine Rs.pe_app ?_
  | with_reducible refine Rs.pe_ext ?_
  | ((with_reducible apply Rs.ob_mk); rfl)
  | ((with_reducible apply Rs.ap_mk); rfl; (first | omega | (simp only [List.length_append, List.length_map, List.length_cons, List.length_nil]; omega)); simp only [List.set_cons_zero, List.set_cons_succ])
  | ((with_reducible apply Rs.ex_mk); rfl; rfl; (first | omega | (simp only [List.length_append, List.length_map, List.length_cons, List.length_nil]; omega)); simp only [List.set_cons_zero, List.set_cons_succ])
  | with_reducible refine Rs.vs_mk ?_
  | ((with_reducible apply Rs.rc_mk); rfl)
  | with_reducible refine Rs.pi_seq ?_
  | with_reducible refine Rs.pi_range ?_
  | with_reducible refine Rs.pi_enum ?_
  | with_reducible refine Rs.si_tup ?_
  | with_reducible refine Rs.si_lst ?_
  | with_reducible refine Rs.si_wtp ?_
  | with_reducible refine Rs.si_scr ?_
  | with_reducible refine Rs.ri_1 (by omega) (by omega) ?_
  | with_reducible refine Rs.ri_2 (by omega) (by omega) ?_
  | with_reducible refine Rs.li_tup ?_
  | with_reducible refine Rs.li_lst ?_
  | with_reducible refine Rs.ps_each ?_
  | with_reducible refine Rs.beh_nx ?_
  | with_reducible refine Rs.beh_ret ?_
  | with_reducible refine Rs.beh_ex ?_
  | with_reducible refine Rs.beh_brk ?_
  | with_reducible refine Rs.beh_cont ?_
  | with_reducible refine Rs.rnd_nx ?_
  | with_reducible refine Rs.rnd_cont ?_
  | with_reducible refine Rs.rnd_brk ?_
  | with_reducible refine Rs.rnd_ret ?_
  | with_reducible refine Rs.rnd_ex ?_
  | with_reducible refine Rs.ps_brk ?_
  | with_reducible refine Rs.ps_cont ?_
  | with_reducible refine Rs.pt_nil ?_
  | with_reducible refine Rs.pe_comp ?_
  | with_reducible refine Rs.pe_callk ?_
  | ((with_reducible apply Rs.kw_mk); rfl; rfl)
  | ((with_reducible apply Rs.pc_item); rfl))
/-! ### rising rows -/
theorem ris_at {ps : List (List Int)} (h : Ris ps) {i : Nat} {a b : List Int} (ha : ps[i]? = some a) (hb : ps[i + 1]? = some b) : HT.lexLt a b = true := by
  obtain ⟨h1, e1⟩ := List.getElem?_eq_some_iff.mp ha
  obtain ⟨h2, e2⟩ := List.getElem?_eq_some_iff.mp hb
  have := List.pairwise_iff_getElem.mp h i (i + 1) h1 h2 (by omega)
  rw [e1, e2] at this
  exact this
def rowI (r : List Int × List I) : I := .tup (pI r.1 :: r.2)
abbrev C18 (Φ : Oracle) : Prop := ∀ (rs : List (List Int × List I)) (v : I) (M : Mem) (Q : I → Mem → Prop) (E : Nat → Mem → Prop), Ris (rs.map Prod.fst) → rs.length ≤ 1000 → inArgs [] M 0 [v] = some [.lst (rs.map rowI)] → Q .non M → Pe (Φ 18 [v] M) Q E
set_option maxHeartbeats 1000000 in
theorem k18 {W k : Nat} : C18 (evCall T.P W (k + 1)) := by
  intro rs v M Q E hr hl ha hq
  refine pe_callZ P18 rfl rfl rfl ha ?_
  generalize evCall T.P W k = Φ
  show Ps (evSs Φ W D18.body [some (.lst (rs.map rowI)), none] []) _
  unfold D18
  dsimp only
  have hl2 : (0 : Int) ≤ ((rs.map rowI).length : Int) ∧ ((rs.map rowI).length : Int) < 1000000 := by rw [List.length_map]; omega
  repeat' (first | array_get_dec)
  refine each_map (f := fun k : Nat => I.int (1 + (k : Int))) (Inv := fun pre τ M => ∃ y, τ = [some (.lst (rs.map rowI)), y] ∧ M = []) (List.range (((rs.map rowI).length : Int) - 1).toNat) [] _ _ ⟨_, rfl, rfl⟩ ?_ ?_
  · rintro x pre τ M hx _ ⟨y, rfl, rfl⟩
    have hx := List.mem_range.mp hx
    rw [List.length_map] at hx
    refine ⟨_, rfl, ?_⟩
    simp only [List.set_cons_zero, List.set_cons_succ]
    unfold B18_0
    have i1 : x < rs.length := by omega
    have i2 : x + 1 < rs.length := by omega
    have a1 : atI (rs.map rowI) (1 + (x : Int) - 1) = some (rowI rs[x]) := at_int (k := x) (by omega) (by simp [i1])
    have a2 : atI (rs.map rowI) (1 + (x : Int)) = some (rowI rs[x + 1]) := at_int (k := x + 1) (by omega) (by simp [i2])
    have e1 : Rs.sh ([] : Mem) (rowI rs[x]) = .tup (pI rs[x].1 :: rs[x].2) := rfl
    have e2 : Rs.sh ([] : Mem) (rowI rs[x + 1]) = .tup (pI rs[x + 1].1 :: rs[x + 1].2) := rfl
    have lt := ris_at hr (i := x) (a := rs[x].1) (b := rs[x + 1].1) (by simp [i1]) (by simp [i2])
    repeat' (first | array_get_dec)
    refine Rs.po_ix e1 at0 ?_
    repeat' (first | array_get_dec)
    refine Rs.po_ix e2 at0 ?_
    repeat' (first | array_get_dec)
    refine po_ltTu ?_
    repeat' (first | with_reducible refine Rs.if_tt lt ?_ | array_get_dec)
    exact ⟨_, rfl, rfl⟩
  · rintro τ M ⟨y, rfl, rfl⟩
    repeat' (first | array_get_dec)
    exact hq
/-! ### the same -/
inductive Sm : Nat → I → Prop
  | bl {d : Nat} {b : Bool} : Sm d (.bl b)
  | int {d : Nat} {n : Int} : Sm d (.int n)
  | str {d : Nat} {s : Str} (h : StrOk s) : Sm d (.str s)
  | tup {d : Nat} {xs : List I} (hl : xs.length ≤ 1000) (h : ∀ x ∈ xs, Sm d x) : Sm (d + 1) (.tup xs)
theorem P33 : T.P 33 = some D33.fn := rfl
theorem sm_flat {k : Nat} {v : I} (h : Sm k v) : v.flat = true := by
  induction h with
  | bl => rfl
  | int => rfl
  | str _ => rfl
  | tup hl h ih => exact flats_of ih
set_option maxHeartbeats 1000000 in
theorem k33 {W : Nat} : ∀ (d k : Nat) (v : I) (M : Mem) (Q : I → Mem → Prop) (E : Nat → Mem → Prop), d ≤ k → Sm d v → Q (.bl true) M → Pe (evCall T.P W (k + 1) 33 [v, v] M) Q E := by
  intro d k v M Q E hd hv hq
  refine pe_call0 P33 rfl rfl rfl (by show (v.flat && (v.flat && true)) = true; rw [sm_flat hv]; rfl) ?_
  show Ps (evSs _ W D33.body [some v, some v, none] []) _
  cases hv with
  | bl =>
    rename_i b
    generalize evCall T.P W k = Φ
    unfold D33
    dsimp only
    repeat' (first | array_get_dec)
    refine po_eqD (r := true) (eqD_self (fit_bl _)) rfl rfl ?_
    exact fr_ret rfl hq
  | int =>
    generalize evCall T.P W k = Φ
    unfold D33
    dsimp only
    repeat' (first | array_get_dec)
    refine fr_ret rfl ?_
    simpa using hq
  | str hs =>
    generalize evCall T.P W k = Φ
    unfold D33
    dsimp only
    repeat' (first | array_get_dec)
    refine fr_ret rfl ?_
    simpa using hq
  | tup hl h =>
    rename_i d xs
    obtain ⟨k, rfl⟩ : ∃ k', k = k' + 1 := ⟨k - 1, by omega⟩
    have c33 : ∀ (v : I) (M : Mem) (Q : I → Mem → Prop) (E : Nat → Mem → Prop), Sm d v → Q (.bl true) M → Pe (evCall T.P W (k + 1) 33 [v, v] M) Q E := fun v M Q E hs hq => k33 d k v M Q E (by omega) hs hq
    generalize evCall T.P W (k + 1) = Φ at c33
    unfold D33
    dsimp only
    repeat' (first | array_get_dec)
    refine compL_all (f := fun k : Nat => I.int (k : Int)) (f' := fun _ => I.bl true) (ys := List.range ((xs.length : Int)).toNat) (by simp; omega) (fun y hy => ?_) ?_
    · have hy := List.mem_range.mp hy
      have i1 : y < xs.length := by omega
      have a1 : atI xs (y : Int) = some xs[y] := at_int rfl (by simp [i1])
      have s1 := h xs[y] (List.getElem_mem i1)
      repeat' (first | with_reducible refine c33 _ _ _ _ s1 ?_ | array_get_dec)
      exact ⟨rfl, rfl⟩
    · repeat' (first | array_get_dec)
      refine po_all (bs := (List.range ((xs.length : Int)).toNat).map fun _ => true) rfl (by rw [List.map_map]; rfl) ?_
      have : ((List.range ((xs.length : Int)).toNat).map fun _ => true).all id = true := by simp
      rw [this]
      exact fr_ret rfl hq
end K75

namespace K75
open PySem PySem.Spec PyProof.Rows L2 Rs
local macro_rules | `(tactic| array_get_dec) => `(tactic| first
  | with_reducible refine Rs.pe_op ?_
  | with_reducible refine Rs.pe_cons ?_
  | ((with_reducible apply Rs.pe_var); rfl)
  | with_reducible refine Rs.pe_const ?_
  | with_reducible refine Rs.pe_nil ?_
  | with_reducible refine Rs.pe_glob ?_
  | with_reducible refine Rs.po_add ?_
  | with_reducible refine Rs.po_sub ?_
  | with_reducible refine Rs.po_mul (by omega) (by omega) ?_
  | with_reducible refine Rs.po_mod (by omega) ?_
  | with_reducible refine Rs.po_fdiv (by omega) (by omega) ?_
  | with_reducible refine Rs.po_pow6 ?_
  | with_reducible refine Rs.po_pow18 ?_
  | with_reducible refine Rs.po_neg ?_
  | with_reducible refine Rs.po_lt ?_
  | with_reducible refine Rs.po_le ?_
  | with_reducible refine Rs.po_gt ?_
  | with_reducible refine Rs.po_ge ?_
  | with_reducible refine Rs.po_eqI ?_
  | with_reducible refine Rs.po_neI ?_
  | with_reducible refine Rs.po_eqS (by first | assumption | exact strOk_of (by decide +kernel)) (by first | assumption | exact strOk_of (by decide +kernel)) ?_
  | with_reducible refine Rs.po_neS (by first | assumption | exact strOk_of (by decide +kernel)) (by first | assumption | exact strOk_of (by decide +kernel)) ?_
  | ((with_reducible apply Rs.po_isN); rfl)
  | ((with_reducible apply Rs.po_notN); rfl)
  | with_reducible refine Rs.po_isB ?_
  | ((with_reducible apply Rs.po_isT); rfl)
  | ((with_reducible apply Rs.po_ixT); first | assumption | exact Rs.at0 | exact Rs.at1 | exact Rs.at2 | exact Rs.at3 | exact Rs.at4 | rfl)
  | ((with_reducible apply Rs.po_ixL); first | assumption | exact Rs.at0 | exact Rs.at1 | exact Rs.at2 | exact Rs.at3 | exact Rs.at4 | rfl)
  | ((with_reducible apply Rs.po_ixW); first | assumption | exact Rs.at0 | exact Rs.at1 | exact Rs.at2 | exact Rs.at3 | exact Rs.at4 | rfl)
  | with_reducible refine Rs.po_lenL ?_
  | with_reducible refine Rs.po_lenT ?_
  | with_reducible refine Rs.po_lenW ?_
  | with_reducible refine Rs.po_lenScr ?_
  | with_reducible refine Rs.po_lenS (by assumption) ?_
  | ((with_reducible apply Rs.po_lenO); rfl)
  | ((with_reducible apply Rs.po_tupL); rfl)
  | with_reducible refine Rs.po_tupT ?_
  | with_reducible refine Rs.po_lstT ?_
  | with_reducible refine Rs.po_intB ?_
  | with_reducible refine Rs.po_intI ?_
  | with_reducible refine Rs.po_abs ?_
  | with_reducible refine Rs.po_strI (by omega) ?_
  | with_reducible refine Rs.po_shScr ?_
  | with_reducible refine Rs.pe_call ?_
  | with_reducible refine Rs.pe_and ?_
  | with_reducible refine Rs.pe_or ?_
  | with_reducible refine Rs.pe_not ?_
  | with_reducible refine Rs.pe_ife ?_
  | with_reducible refine Rs.pe_chain ?_
  | with_reducible refine Rs.pe_meth ?_
  | with_reducible refine Rs.pe_tup ?_
  | with_reducible refine Rs.pe_lst ?_
  | with_reducible refine Rs.tr_bl ?_
  | with_reducible refine Rs.tr_int ?_
  | with_reducible refine Rs.tr_non ?_
  | with_reducible refine Rs.tr_lst ?_
  | with_reducible refine Rs.tr_tup ?_
  | with_reducible refine Rs.if_not ?_
  | ((with_reducible apply Rs.if_tt); rfl)
  | ((with_reducible apply Rs.if_ff); rfl)
  | with_reducible refine Rs.if_tt (by decide) ?_
  | with_reducible refine Rs.if_ff (by decide) ?_
  | with_reducible refine Rs.if_dec (fun _ => ?_) (fun _ => by exfalso; omega)
  | with_reducible refine Rs.if_dec (fun _ => by exfalso; omega) (fun _ => ?_)
  | with_reducible refine Rs.if_dec (fun _ => ?_) (fun _ => ?_)
  | with_reducible refine Rs.ps_app0 ?_
  | with_reducible refine Rs.ps_app1 ?_
  | with_reducible refine Rs.ps_asg ?_
  | with_reducible refine Rs.ps_cond ?_
  | with_reducible refine Rs.ps_ret ?_
  | with_reducible refine Rs.ps_nil ?_
  | with_reducible refine Rs.ps_ex ?_
  | with_reducible refine Rs.ps_pass ?_
  | with_reducible refine Rs.ps_retN ?_
  | ((with_reducible apply Rs.po_nm); exact Nat.le_of_ble_eq_true rfl; simp only [List.set_cons_zero, List.set_cons_succ])
  | ((with_reducible apply Rs.fw_mk); exact Nat.le_of_ble_eq_true rfl)
  | with_reducible refine Rs.in_mk ?_
  | with_reducible refine Rs.bl_mk ?_
  | ((with_reducible refine Rs.ce_lst ?_); simp only [List.length_cons, List.length_nil, Nat.reduceAdd, List.cons_append, List.nil_append])
  | ((with_reducible refine Rs.ce_dic ?_); simp only [List.length_cons, List.length_nil, Nat.reduceAdd, List.cons_append, List.nil_append])
  | with_reducible refine Rs.pe_cell ?_
  | with_reducible refine Rs.pe_app ?_
  | with_reducible refine Rs.pe_ext ?_
  | ((with_reducible apply Rs.ob_mk); rfl)
  | ((with_reducible apply Rs.ap_mk); rfl; (first | omega | (simp only [List.length_append, List.length_map, List.length_cons, List.length_nil]; omega)); simp only [List.set_cons_zero, List.set_cons_succ])
  | ((with_reducible apply Rs.ex_mk); rfl; rfl; (first | omega | (simp only [List.length_append, List.length_map, List.length_cons, List.length_nil]; omega)); simp only [List.set_cons_zero, List.set_cons_succ])
  | with_reducible refine Rs.vs_mk ?_
  | ((with_reducible apply Rs.rc_mk); rfl)
  | with_reducible refine Rs.pi_seq ?_
  | with_reducible refine Rs.pi_range ?_
  | with_reducible refine Rs.pi_enum ?_
  | with_reducible refine Rs.si_tup ?_
  | with_reducible refine Rs.si_lst ?_
  | with_reducible refine Rs.si_wtp ?_
  | with_reducible refine Rs.si_scr ?_
  | with_reducible refine Rs.ri_1 (by omega) (by omega) ?_
  | with_reducible refine Rs.ri_2 (by omega) (by omega) ?_
  | with_reducible refine Rs.li_tup ?_
  | with_reducible refine Rs.li_lst ?_
  | with_reducible refine Rs.ps_each ?_
  | with_reducible refine Rs.beh_nx ?_
  | with_reducible refine Rs.beh_ret ?_
  | with_reducible refine Rs.beh_ex ?_
  | with_reducible refine Rs.beh_brk ?_
  | with_reducible refine Rs.beh_cont ?_
  | with_reducible refine Rs.rnd_nx ?_
  | with_reducible refine Rs.rnd_cont ?_
  | with_reducible refine Rs.rnd_brk ?_
  | with_reducible refine Rs.rnd_ret ?_
  | with_reducible refine Rs.rnd_ex ?_
  | with_reducible refine Rs.ps_brk ?_
  | with_reducible refine Rs.ps_cont ?_
  | with_reducible refine Rs.pt_nil ?_
  | with_reducible refine Rs.pe_comp ?_
  | with_reducible refine Rs.pe_callk ?_
  | ((with_reducible apply Rs.kw_mk); rfl; rfl)
  | ((with_reducible apply Rs.pc_item); rfl))
/-! ### a hall read -/
def NotNote (suf : List (List Str)) : Prop := suf = [] ∨ ∃ w ws r, suf = (w :: ws) :: r ∧ w ≠ "note" ∧ StrOk w
theorem ho_at {pre suf : List (List Str)} {h : HoV} (hs : NotNote suf) : HoAt (pre ++ (hoL h ++ suf)) pre.length h := by
  have hl : (hoL h).length = 1 + (stL h.state).length + h.diary.length := by
    unfold hoL
    simp only [List.length_cons, List.length_append, List.length_map]
    omega
  have g : ∀ i, (pre ++ (hoL h ++ suf))[pre.length + i]? = (hoL h ++ suf)[i]? := fun i => by
    rw [List.getElem?_append_right (by omega)]
    congr 1
    omega
  refine ⟨?_, fun s e => ?_, fun i n e => ?_, ?_⟩
  · have := g 0
    rw [Nat.add_zero] at this
    rw [this]; rfl
  · rw [g 1]
    unfold hoL
    rw [e]; rfl
  · rw [Nat.add_assoc, Nat.add_assoc, g]
    unfold hoL
    have : (hdW h :: (stL h.state ++ h.diary.map noW) ++ suf)[1 + ((stL h.state).length + i)]? = (stL h.state ++ (h.diary.map noW ++ suf))[(stL h.state).length + i]? := by
      rw [Nat.add_comm 1]
      simp
    rw [this, List.getElem?_append_right (by omega), Nat.add_sub_cancel_left]
    have hi : i < (h.diary.map noW).length := by rw [List.length_map]; exact (List.getElem?_eq_some_iff.mp e).1
    rw [List.getElem?_append_left hi, List.getElem?_map, e]; rfl
  · rcases hs with rfl | ⟨w, ws, r, rfl, hw, hl2⟩
    · left
      rw [List.append_nil, List.length_append, hl]; omega
    · right
      refine ⟨w, ws, ?_, hw, hl2⟩
      rw [show pre.length + 1 + (stL h.state).length + h.diary.length = pre.length + (hoL h).length by omega, g, List.getElem?_append_right (Nat.le_refl _), Nat.sub_self]; rfl
theorem asks_nn (as : List AsV) : NotNote (as.map asW) := by
  cases as with
  | nil => exact .inl rfl
  | cons a as => exact .inr ⟨_, _, _, rfl, by decide +kernel, ask_lay⟩
theorem hos_nn (hs : List HoV) (as : List AsV) : NotNote (hosL hs ++ as.map asW) := by
  cases hs with
  | nil => exact asks_nn as
  | cons h hs => exact .inr ⟨_, _, _, rfl, by decide +kernel, house_lay⟩
theorem hosL_app (a b : List HoV) : hosL (a ++ b) = hosL a ++ hosL b := by
  induction a with
  | nil => rfl
  | cons x a ih =>
    show hoL x ++ hosL (a ++ b) = hoL x ++ hosL a ++ hosL b
    rw [ih, List.append_assoc]
theorem take_split {α : Type} {l : List α} {j : Nat} {x : α} (h : l[j]? = some x) : l = l.take j ++ x :: l.drop (j + 1) := by
  obtain ⟨hj, e⟩ := List.getElem?_eq_some_iff.mp h
  rw [← e, ← List.drop_eq_getElem_cons hj, List.take_append_drop]
abbrev C19 (h : HaV) (Φ : Oracle) : Prop := ∀ (M : Mem) (Q : I → Mem → Prop) (E : Nat → Mem → Prop), Q (haI h) M → Pe (Φ 19 [.str (haT h)] M) Q E
theorem ten_S : (Str.ofString "\n") = SX.S [10] := by decide +kernel
theorem sp_S : (Str.ofString " ") = SX.S [32] := by decide +kernel
theorem hour_lay : StrOk "hour" := strOk_of (by decide +kernel)
theorem nl_ne : (("\n" : Str).length == 0) = false := by decide +kernel
theorem sp_ne : ((" " : Str).length == 0) = false := by decide +kernel
theorem jn_split {l : List Str} (h : WdL l) : Txt.split (jn l) " " = l := split_join sp_S (by decide) h.1 fun w hw hc => ((h.2.2 w hw).2 32 hc).2.2 rfl
theorem jn_no10 {l : List Str} (h : WdL l) : 10 ∉ (jn l).cps.toList := fun hc => by
  rcases mem_join hc with hc | ⟨x, hx, hc⟩
  · revert hc; decide +kernel
  · exact ((h.2.2 x hx).2 10 hc).2.1 rfl
theorem haT_split {h : HaV} (o : HaOk h) : Txt.split (haT h) "\n" = (haL h).map jn := by
  refine split_join ten_S (by decide) (by simp [haL]) fun w hw => ?_
  obtain ⟨l, hl, rfl⟩ := List.mem_map.mp hw
  exact jn_no10 (haL_wd o l hl)
theorem haT_lay {h : HaV} (o : HaOk h) : StrOk (haT h) := by
  refine lay_join (strOk_of (by decide +kernel)) _ fun x hx => ?_
  obtain ⟨l, hl, rfl⟩ := List.mem_map.mp hx
  exact lay_join (strOk_of (by decide +kernel)) _ fun w hw => ((haL_wd o l hl).2.2 w hw).lay
theorem cut_lo {α : Type} {xs : List α} {k : Nat} (hk : k ≤ xs.length) : cut xs (some (k : Int)) none = xs.drop k := by
  unfold cut
  rw [HT.sIx_nat, Nat.min_eq_left hk]
  show (xs.drop k).take (xs.length - k) = _
  rw [← List.length_drop, List.take_length]
set_option maxHeartbeats 4000000 in
theorem k19 {h : HaV} {W k : Nat} (hW : 2000 ≤ W) (o : HaOk h) (c9 : C9 (evCall T.P W k)) (c13 : C13 (evCall T.P W k)) (c16 : C16 (evCall T.P W k)) (c17 : C17 (evCall T.P W k)) (c18 : C18 (evCall T.P W k)) : C19 h (evCall T.P W (k + 1)) := by
  intro M Q E hq
  refine pe_call0 P19 rfl rfl rfl rfl ?_
  generalize evCall T.P W k = Φ at c9 c13 c16 c17 c18
  show Ps (evSs Φ W D19.body [some (.str (haT h)), none, none, none, none, none, none, none, none] []) _
  unfold D19
  dsimp only
  have hlen := haT_len o
  have hll := haL_len o
  have hn := o.n
  have c : ∀ M Q E, Q .non M → Pe (Φ 13 [lI ["hour", nT h.hour], .str "hour", .int 2] M) Q E := fun M Q E hh => c13 "hour" [nT h.hour] M Q E hour_lay hh
  repeat' (first | array_get_dec)
  refine me_split nl_ne (by omega) ?_
  rw [haT_split o, List.map_map]
  repeat' (first | array_get_dec)
  refine compL_all (f := I.str ∘ jn) (f' := lI) (by omega) (fun y hy => ?_) ?_
  · have hy := haL_wd o y hy
    have hyl := jn_len hy
    show Pc (compP Φ _ _ _ _ _ (.str (jn y)) _) _
    repeat' (first | array_get_dec)
    refine me_split sp_ne (by omega) ?_
    rw [jn_split hy]
    exact ⟨rfl, rfl⟩
  have a0 : atI ((haL h).map lI) 0 = some (lI ["hour", nT h.hour]) := at0 (l := (hosL h.houses ++ h.asks.map asW).map lI)
  have w0 : ∀ M, Rs.sh M (lI ["hour", nT h.hour]) = .lst [.str "hour", .str (nT h.hour)] := fun _ => rfl
  repeat' (first | with_reducible refine c _ _ _ ?_ | array_get_dec)
  refine Rs.po_ix (w0 _) rfl ?_
  repeat' (first | with_reducible refine c9 _ _ _ _ hn ?_ | array_get_dec)
  refine ps_loop (loop_inv (Inv := fun τ M => ∃ j x7, j ≤ h.houses.length ∧ τ = [some (.str (haT h)), some (.lst ((haL h).map lI)), some (.int h.hour), some (.obj 0), some (.int ((1 + (hosL (h.houses.take j)).length : Nat) : Int)), none, none, x7, none] ∧ M = [.lst ((h.houses.take j).map hoI)])
    (fun τ M => match τ with | _ :: _ :: _ :: _ :: some (.int a) :: _ => 1500 - a.toNat | _ => 0) W _ _ ⟨0, none, Nat.zero_le _, rfl, rfl⟩ (by dsimp only; omega) ?_)
  rintro τ M ⟨j, x7, hj, rfl, rfl⟩
  by_cases hlt : j < h.houses.length
  · obtain ⟨x, hx⟩ : ∃ x, h.houses[j]? = some x := ⟨_, List.getElem?_eq_getElem hlt⟩
    have ox := o.h x (List.mem_of_getElem? hx)
    have eL : haL h = ((["hour", nT h.hour] : List Str) :: hosL (h.houses.take j)) ++ (hoL x ++ (hosL (h.houses.drop (j + 1)) ++ h.asks.map asW)) := by
      unfold haL
      conv => lhs; rw [take_split hx]
      rw [hosL_app]
      show _ :: (hosL (h.houses.take j) ++ (hoL x ++ hosL (h.houses.drop (j + 1))) ++ _) = _
      simp only [List.append_assoc, List.cons_append]
    have Hx : HoAt (haL h) (1 + (hosL (h.houses.take j)).length) x := by
      have := ho_at (pre := ["hour", nT h.hour] :: hosL (h.houses.take j)) (h := x) (hos_nn (h.houses.drop (j + 1)) h.asks)
      rw [← eL, List.length_cons, Nat.add_comm] at this
      exact this
    have l0 := Hx.l0
    have l2 : 1 + (hosL (h.houses.take j)).length < (haL h).length := (List.getElem?_eq_some_iff.mp l0).1
    have a1 : atI ((haL h).map lI) ((1 + (hosL (h.houses.take j)).length : Nat) : Int) = some (lI (hdW x)) := at_ln rfl l0
    have t1 : ((1 + (hosL (h.houses.take j)).length : Nat) : Int) < (((haL h).map lI).length : Int) := by rw [List.length_map]; omega
    have q1 : Rs.sh ([.lst ((h.houses.take j).map hoI)] : Mem) (lI (hdW x)) = .lst ((hdW x).map .str) := rfl
    have hh := house_lay
    have t2 : decide ((Str.ofString "house") = Str.ofString "house") = true := decide_eq_true rfl
    have c16 : ∀ M Q E, Q (.tup [hoI x, .int ((1 + (hosL (h.houses.take j)).length + (hoL x).length : Nat) : Int)]) M → Pe (Φ 16 [.lst ((haL h).map lI), .int ((1 + (hosL (h.houses.take j)).length : Nat) : Int)] M) Q E := fun M Q E z => c16 _ _ _ _ _ _ Hx ox (by omega) z
    repeat' (first | with_reducible refine Rs.if_tt (decide_eq_true t1) ?_ | array_get_dec)
    refine Rs.po_ix q1 at0 ?_
    repeat' (first | with_reducible refine Rs.if_tt t2 ?_ | array_get_dec)
    unfold B19_0
    have hl : ((h.houses.take j).map hoI).length < 16777216 := by rw [List.length_map, List.length_take]; have := o.hl; omega
    repeat' (first | with_reducible refine c16 _ _ _ ?_ | array_get_dec)
    refine ⟨_, rfl, ?_⟩
    simp only [List.set_cons_zero, List.set_cons_succ]
    repeat' (first | array_get_dec)
    have e5 : hosL (h.houses.take (j + 1)) = hosL (h.houses.take j) ++ hoL x := by
      rw [take_snoc2 hx, hosL_app]
      simp [hosL]
    have e6 : 0 < (hoL x).length := by unfold hoL; simp
    refine ⟨⟨j + 1, some (hoI x), hlt, ?_, ?_⟩, ?_⟩
    · rw [e5, List.length_append, Nat.add_assoc]
    · rw [take_snoc2 hx]
      simp
    · show 1500 - (((1 + (hosL (h.houses.take j)).length + (hoL x).length : Nat) : Int)).toNat < 1500 - ((1 + (hosL (h.houses.take j)).length : Nat) : Int).toNat
      omega
  · have hj : j = h.houses.length := by omega
    subst hj
    rw [List.take_length]
    have eL : (haL h).length = 1 + (hosL h.houses).length + h.asks.length := by
      unfold haL
      simp only [List.length_cons, List.length_append, List.length_map]
      omega
    have fin : Ps (evSs Φ W (.cons (.asg (.nm 5) (.comp [8] (.call 17 (.cons (.var 8) .nil)) (.nm 8) (.seq (.op (.slice true false) (.cons (.var 1) (.cons (.var 4) .nil)))) .nil)) (.cons (.ex (.call 18 (.cons (.var 3) .nil))) (.cons (.ex (.call 18 (.cons (.var 5) .nil))) (.cons (.ret (.disp true (.cons (.var 2) (.cons (.op .tuple (.cons (.var 3) .nil)) (.cons (.op .tuple (.cons (.var 5) .nil)) .nil))))) .nil)))) [some (.str (haT h)), some (.lst ((haL h).map lI)), some (.int h.hour), some (.obj 0), some (.int ((1 + (hosL h.houses).length : Nat) : Int)), none, none, x7, none] [.lst (h.houses.map hoI)]) (FrO M Q E) := by
      repeat' (first | array_get_dec)
      refine Rs.po_slL rfl ?_
      rw [cut_lo (by rw [List.length_map]; omega)]
      have ed : ((haL h).map lI).drop (1 + (hosL h.houses).length) = h.asks.map (lI ∘ asW) := by
        unfold haL
        rw [Nat.add_comm, List.map_cons, List.drop_succ_cons, List.map_append, List.drop_left' (by rw [List.length_map]), List.map_map]
      rw [ed]
      repeat' (first | array_get_dec)
      refine compL_all (f := lI ∘ asW) (f' := asI) (by have := o.al; omega) (fun y hy => ?_) ?_
      · have hy := o.a y hy
        show Pc (compP Φ _ _ _ _ _ (lI (asW y)) _) _
        repeat' (first | with_reducible refine c17 _ _ _ _ hy ?_ | array_get_dec)
        exact ⟨rfl, rfl⟩
      have s1 : ∀ (M : Mem) Q E, M = [.lst (h.houses.map hoI)] → Q .non M → Pe (Φ 18 [.obj 0] M) Q E := fun M Q E hM hq => by
        subst hM
        refine c18 (h.houses.map fun x => (x.path, [.str x.name, .int x.begun, eI x.fin, .tup (x.diary.map noI), stI x.state])) _ _ _ _ (by rw [List.map_map]; exact o.hr) (by rw [List.length_map]; have := o.hl; omega) ?_ hq
        have : frz [.lst (h.houses.map hoI)] dpt (.obj 0) = some (.lst (h.houses.map hoI)) := frz_lst rfl (hos_flat _)
        show ((frz [.lst (h.houses.map hoI)] dpt (.obj 0)).bind fun u => (some [] : Option (List I)).map (u :: ·)) = _
        rw [this, List.map_map]; rfl
      have s2 : ∀ (M : Mem) Q E, Q .non M → Pe (Φ 18 [.lst (h.asks.map asI)] M) Q E := fun M Q E hq => by
        refine c18 (h.asks.map fun x => (x.path, [.str x.who, .int x.number, .int x.sent, eI x.fin])) _ _ _ _ (by rw [List.map_map]; exact o.ar) (by rw [List.length_map]; have := o.al; omega) ?_ hq
        have : frz M dpt (.lst (h.asks.map asI)) = some (.lst (h.asks.map asI)) := frz_flat _ (ass_flat _)
        show ((frz M dpt (.lst (h.asks.map asI))).bind fun u => (some [] : Option (List I)).map (u :: ·)) = _
        rw [this, List.map_map]; rfl
      repeat' (first | with_reducible refine s1 _ _ _ rfl ?_ | with_reducible refine s2 _ _ _ ?_ | array_get_dec)
      exact fr_ret (ha_flat h) hq
    by_cases ha : h.asks = []
    · have t1 : ¬ ((1 + (hosL h.houses).length : Nat) : Int) < (((haL h).map lI).length : Int) := by rw [List.length_map, eL, ha]; simp
      repeat' (first | with_reducible refine Rs.if_ff (decide_eq_false t1) ?_ | with_reducible exact fin | array_get_dec)
    · obtain ⟨a, as, ea⟩ : ∃ a as, h.asks = a :: as := by
        cases e : h.asks with
        | nil => exact absurd e ha
        | cons a as => exact ⟨a, as, rfl⟩
      have l0 : (haL h)[1 + (hosL h.houses).length]? = some (asW a) := by
        unfold haL
        rw [Nat.add_comm, List.getElem?_cons_succ, List.getElem?_append_right (Nat.le_refl _), Nat.sub_self, ea]; rfl
      have a1 : atI ((haL h).map lI) ((1 + (hosL h.houses).length : Nat) : Int) = some (lI (asW a)) := at_ln rfl l0
      have t1 : ((1 + (hosL h.houses).length : Nat) : Int) < (((haL h).map lI).length : Int) := by rw [List.length_map, eL, ea]; simp; omega
      have q1 : Rs.sh ([.lst (h.houses.map hoI)] : Mem) (lI (asW a)) = .lst ((asW a).map .str) := rfl
      have hh := house_lay
      have ha2 := ask_lay
      have t2 : ¬ ((Str.ofString "ask") = Str.ofString "house") := by decide +kernel
      repeat' (first | with_reducible refine Rs.if_tt (decide_eq_true t1) ?_ | array_get_dec)
      refine Rs.po_ix q1 at0 ?_
      repeat' (first | with_reducible refine Rs.if_ff (decide_eq_false t2) ?_ | with_reducible exact fin | array_get_dec)
end K75

namespace K75
open PySem PySem.Spec PyProof.Rows L2 Rs
local macro_rules | `(tactic| array_get_dec) => `(tactic| first
  | with_reducible refine Rs.pe_op ?_
  | with_reducible refine Rs.pe_cons ?_
  | ((with_reducible apply Rs.pe_var); rfl)
  | with_reducible refine Rs.pe_const ?_
  | with_reducible refine Rs.pe_nil ?_
  | with_reducible refine Rs.pe_glob ?_
  | with_reducible refine Rs.po_add ?_
  | with_reducible refine Rs.po_sub ?_
  | with_reducible refine Rs.po_mul (by omega) (by omega) ?_
  | with_reducible refine Rs.po_mod (by omega) ?_
  | with_reducible refine Rs.po_fdiv (by omega) (by omega) ?_
  | with_reducible refine Rs.po_pow6 ?_
  | with_reducible refine Rs.po_pow18 ?_
  | with_reducible refine Rs.po_neg ?_
  | with_reducible refine Rs.po_lt ?_
  | with_reducible refine Rs.po_le ?_
  | with_reducible refine Rs.po_gt ?_
  | with_reducible refine Rs.po_ge ?_
  | with_reducible refine Rs.po_eqI ?_
  | with_reducible refine Rs.po_neI ?_
  | with_reducible refine Rs.po_eqS (by first | assumption | exact strOk_of (by decide +kernel)) (by first | assumption | exact strOk_of (by decide +kernel)) ?_
  | with_reducible refine Rs.po_neS (by first | assumption | exact strOk_of (by decide +kernel)) (by first | assumption | exact strOk_of (by decide +kernel)) ?_
  | ((with_reducible apply Rs.po_isN); rfl)
  | ((with_reducible apply Rs.po_notN); rfl)
  | with_reducible refine Rs.po_isB ?_
  | ((with_reducible apply Rs.po_isT); rfl)
  | ((with_reducible apply Rs.po_ixT); first | assumption | exact Rs.at0 | exact Rs.at1 | exact Rs.at2 | exact Rs.at3 | exact Rs.at4 | rfl)
  | ((with_reducible apply Rs.po_ixL); first | assumption | exact Rs.at0 | exact Rs.at1 | exact Rs.at2 | exact Rs.at3 | exact Rs.at4 | rfl)
  | ((with_reducible apply Rs.po_ixW); first | assumption | exact Rs.at0 | exact Rs.at1 | exact Rs.at2 | exact Rs.at3 | exact Rs.at4 | rfl)
  | with_reducible refine Rs.po_lenL ?_
  | with_reducible refine Rs.po_lenT ?_
  | with_reducible refine Rs.po_lenW ?_
  | with_reducible refine Rs.po_lenScr ?_
  | with_reducible refine Rs.po_lenS (by assumption) ?_
  | ((with_reducible apply Rs.po_lenO); rfl)
  | ((with_reducible apply Rs.po_tupL); rfl)
  | with_reducible refine Rs.po_tupT ?_
  | with_reducible refine Rs.po_lstT ?_
  | with_reducible refine Rs.po_intB ?_
  | with_reducible refine Rs.po_intI ?_
  | with_reducible refine Rs.po_abs ?_
  | with_reducible refine Rs.po_strI (by omega) ?_
  | with_reducible refine Rs.po_shScr ?_
  | with_reducible refine Rs.pe_call ?_
  | with_reducible refine Rs.pe_and ?_
  | with_reducible refine Rs.pe_or ?_
  | with_reducible refine Rs.pe_not ?_
  | with_reducible refine Rs.pe_ife ?_
  | with_reducible refine Rs.pe_chain ?_
  | with_reducible refine Rs.pe_meth ?_
  | with_reducible refine Rs.pe_tup ?_
  | with_reducible refine Rs.pe_lst ?_
  | with_reducible refine Rs.tr_bl ?_
  | with_reducible refine Rs.tr_int ?_
  | with_reducible refine Rs.tr_non ?_
  | with_reducible refine Rs.tr_lst ?_
  | with_reducible refine Rs.tr_tup ?_
  | with_reducible refine Rs.if_not ?_
  | ((with_reducible apply Rs.if_tt); rfl)
  | ((with_reducible apply Rs.if_ff); rfl)
  | with_reducible refine Rs.if_tt (by decide) ?_
  | with_reducible refine Rs.if_ff (by decide) ?_
  | with_reducible refine Rs.if_dec (fun _ => ?_) (fun _ => by exfalso; omega)
  | with_reducible refine Rs.if_dec (fun _ => by exfalso; omega) (fun _ => ?_)
  | with_reducible refine Rs.if_dec (fun _ => ?_) (fun _ => ?_)
  | with_reducible refine Rs.ps_app0 ?_
  | with_reducible refine Rs.ps_app1 ?_
  | with_reducible refine Rs.ps_asg ?_
  | with_reducible refine Rs.ps_cond ?_
  | with_reducible refine Rs.ps_ret ?_
  | with_reducible refine Rs.ps_nil ?_
  | with_reducible refine Rs.ps_ex ?_
  | with_reducible refine Rs.ps_pass ?_
  | with_reducible refine Rs.ps_retN ?_
  | ((with_reducible apply Rs.po_nm); exact Nat.le_of_ble_eq_true rfl; simp only [List.set_cons_zero, List.set_cons_succ])
  | ((with_reducible apply Rs.fw_mk); exact Nat.le_of_ble_eq_true rfl)
  | with_reducible refine Rs.in_mk ?_
  | with_reducible refine Rs.bl_mk ?_
  | ((with_reducible refine Rs.ce_lst ?_); simp only [List.length_cons, List.length_nil, Nat.reduceAdd, List.cons_append, List.nil_append])
  | ((with_reducible refine Rs.ce_dic ?_); simp only [List.length_cons, List.length_nil, Nat.reduceAdd, List.cons_append, List.nil_append])
  | with_reducible refine Rs.pe_cell ?_
  | with_reducible refine Rs.pe_app ?_
  | with_reducible refine Rs.pe_ext ?_
  | ((with_reducible apply Rs.ob_mk); rfl)
  | ((with_reducible apply Rs.ap_mk); rfl; (first | omega | (simp only [List.length_append, List.length_map, List.length_cons, List.length_nil]; omega)); simp only [List.set_cons_zero, List.set_cons_succ])
  | ((with_reducible apply Rs.ex_mk); rfl; rfl; (first | omega | (simp only [List.length_append, List.length_map, List.length_cons, List.length_nil]; omega)); simp only [List.set_cons_zero, List.set_cons_succ])
  | with_reducible refine Rs.vs_mk ?_
  | ((with_reducible apply Rs.rc_mk); rfl)
  | with_reducible refine Rs.pi_seq ?_
  | with_reducible refine Rs.pi_range ?_
  | with_reducible refine Rs.pi_enum ?_
  | with_reducible refine Rs.si_tup ?_
  | with_reducible refine Rs.si_lst ?_
  | with_reducible refine Rs.si_wtp ?_
  | with_reducible refine Rs.si_scr ?_
  | with_reducible refine Rs.ri_1 (by omega) (by omega) ?_
  | with_reducible refine Rs.ri_2 (by omega) (by omega) ?_
  | with_reducible refine Rs.li_tup ?_
  | with_reducible refine Rs.li_lst ?_
  | with_reducible refine Rs.ps_each ?_
  | with_reducible refine Rs.beh_nx ?_
  | with_reducible refine Rs.beh_ret ?_
  | with_reducible refine Rs.beh_ex ?_
  | with_reducible refine Rs.beh_brk ?_
  | with_reducible refine Rs.beh_cont ?_
  | with_reducible refine Rs.rnd_nx ?_
  | with_reducible refine Rs.rnd_cont ?_
  | with_reducible refine Rs.rnd_brk ?_
  | with_reducible refine Rs.rnd_ret ?_
  | with_reducible refine Rs.rnd_ex ?_
  | with_reducible refine Rs.ps_brk ?_
  | with_reducible refine Rs.ps_cont ?_
  | with_reducible refine Rs.pt_nil ?_
  | with_reducible refine Rs.pe_comp ?_
  | with_reducible refine Rs.pe_callk ?_
  | ((with_reducible apply Rs.kw_mk); rfl; rfl; simp only [List.reverse_cons, List.reverse_nil, List.nil_append, List.cons_append])
  | ((with_reducible apply Rs.pc_item); rfl))
theorem ha_sm {h : HaV} (o : HaOk h) : Sm 5 (haI h) := by
  have hp : ∀ (p : List Int) (d : Nat), p.length ≤ 10 → Sm (d + 1) (pI p) := fun p d hl => .tup (by rw [List.length_map]; omega) fun x hx => by
    obtain ⟨n, _, rfl⟩ := List.mem_map.mp hx
    exact .int
  have he : ∀ (e : EndV) (d : Nat), EndOk e → Sm (d + 1) (eI e) := fun e d ho => by
    cases e with
    | none => exact .tup (by decide) fun x hx => nomatch hx
    | some t =>
      obtain ⟨w, a, b⟩ := t
      have hw := (ends_wd w (ho w a b rfl).1).lay
      refine .tup (by simp) fun x hx => ?_
      simp only [List.mem_cons, List.not_mem_nil, or_false] at hx
      rcases hx with rfl | rfl | rfl
      · exact .str hw
      · exact .int
      · exact .int
  have hs : ∀ (s : Option StV) (d : Nat), (∀ x, s = some x → StOk x) → Sm (d + 2) (stI s) := fun s d ho => by
    cases s with
    | none => exact .tup (by decide) fun x hx => nomatch hx
    | some s =>
      have l := (ho s rfl).l
      refine .tup (by simp) fun x hx => ?_
      simp only [List.mem_cons, List.not_mem_nil, or_false] at hx
      rcases hx with rfl | rfl | rfl | rfl | rfl
      · exact .int
      · exact .tup (by rw [List.length_map]; omega) fun x hx => by
          obtain ⟨n, _, rfl⟩ := List.mem_map.mp hx
          exact .int
      · exact .int
      · exact .int
      · exact .bl
  have hn : ∀ (n : NoV) (d : Nat), NoOk n → Sm (d + 1) (noI n) := fun n d ho => by
    have := (notes_wd _ ho.w).lay
    refine .tup (by simp) fun x hx => ?_
    simp only [List.mem_cons, List.not_mem_nil, or_false] at hx
    rcases hx with rfl | rfl | rfl
    · exact .int
    · exact .str this
    · exact .int
  have hh : ∀ x ∈ h.houses, Sm 3 (hoI x) := fun z hz => by
    have oz := o.h z hz
    have := (names_wd _ oz.n).lay
    have := oz.pw.l
    refine .tup (by simp) fun x hx => ?_
    simp only [List.mem_cons, List.not_mem_nil, or_false] at hx
    rcases hx with rfl | rfl | rfl | rfl | rfl | rfl
    · exact hp _ _ this
    · exact .str (names_wd _ oz.n).lay
    · exact .int
    · exact he _ _ oz.f
    · refine .tup (by rw [List.length_map]; have := oz.dl; omega) fun x hx => ?_
      obtain ⟨n, hn2, rfl⟩ := List.mem_map.mp hx
      exact hn n 0 (oz.d n hn2)
    · exact hs _ 0 oz.so
  have ha : ∀ x ∈ h.asks, Sm 3 (asI x) := fun z hz => by
    have oz := o.a z hz
    have := oz.pw.l
    refine .tup (by simp) fun x hx => ?_
    simp only [List.mem_cons, List.not_mem_nil, or_false] at hx
    rcases hx with rfl | rfl | rfl | rfl | rfl
    · exact hp _ _ this
    · exact .str (names_wd _ oz.w).lay
    · exact .int
    · exact .int
    · exact he _ _ oz.f
  refine .tup (by simp) fun x hx => ?_
  simp only [List.mem_cons, List.not_mem_nil, or_false] at hx
  rcases hx with rfl | rfl | rfl
  · exact .int
  · refine .tup (by rw [List.length_map]; have := o.hl; omega) fun x hx => ?_
    obtain ⟨z, hz, rfl⟩ := List.mem_map.mp hx
    exact hh z hz
  · refine .tup (by rw [List.length_map]; have := o.al; omega) fun x hx => ?_
    obtain ⟨z, hz, rfl⟩ := List.mem_map.mp hx
    exact ha z hz
theorem P34 : T.P 34 = some D34.fn := rfl
set_option maxHeartbeats 2000000 in
theorem law_holds : ∀ ns : List Int, ns.length ≤ 63 → ∃ M, evCall T.P 1000000 40 34 [.scr ns] [] = .ok (.bl true) M := by
  intro ns hns
  suffices h : Pe (evCall T.P 1000000 40 34 [.scr ns] []) (fun v _ => v = .bl true) (fun _ _ => False) by
    obtain ⟨v, M, e, rfl⟩ := pe_get h
    exact ⟨M, e⟩
  refine pe_call0 (k := 39) P34 rfl rfl rfl rfl ?_
  have d1 : ∀ (c : Int) (M : Mem), ∃ ds : List Int, Dr 460 ds ∧ evCall T.P 1000000 39 20 [.int c, .int 460] M = .ok (.lst (ds.map .int)) M := fun c M => draws_ok (m := 460) (by decide) (by decide) (by decide)
  have d2 : ∀ (ds : List Int) (M : Mem), Dr 460 ds → ∃ h : HaV, HaOk h ∧ evCall T.P 1000000 39 28 [.lst (ds.map .int), .int 5] M = .ok (haI h) M := fun ds M D => hall_ok D (by decide) (by decide)
  have c5 : ∀ h, HaOk h → C5 h (evCall T.P 1000000 39) := fun h o => k5 o (by decide)
  have c31 : ∀ h, HaOk h → C31 h (evCall T.P 1000000 39) := fun h o => k31 o (by decide)
  have c32 : ∀ h, HaOk h → C32 h (evCall T.P 1000000 39) := fun h o => k32 o
  have c33 : ∀ h, HaOk h → ∀ (M : Mem) (Q : I → Mem → Prop) (E : Nat → Mem → Prop), Q (.bl true) M → Pe (evCall T.P 1000000 39 33 [haI h, haI h] M) Q E := fun h o M Q E hq => k33 5 38 _ M Q E (by decide) (ha_sm o) hq
  have g9 : ∀ k, C9 (evCall T.P 1000000 (k + 2)) := fun k => k9 k6
  have g10 : ∀ k, C10 (evCall T.P 1000000 (k + 3)) := fun k => k10 (k7 k6) k8
  have g16 : C16 (evCall T.P 1000000 38) := k16 (by decide) (g9 35) (g10 34) (k11 k0) (k12 (g9 34)) k13 (k14 (g9 34)) (k15 (g9 34) k13)
  have g17 : C17 (evCall T.P 1000000 38) := k17 (g9 35) (g10 34) (k11 k0) (k12 (g9 34)) k13
  have c19 : ∀ h, HaOk h → C19 h (evCall T.P 1000000 39) := fun h o => k19 (by decide) o (g9 36) k13 g16 g17 k18
  generalize evCall T.P 1000000 39 = Φ at d1 d2 c5 c31 c32 c33 c19
  show Ps (evSs Φ 1000000 D34.body [some (.scr ns), none, none, none, none] []) _
  unfold D34
  dsimp only
  repeat' (first | array_get_dec)
  have ec : cut (ns.map I.int) none (some 12) = (cut ns none (some 12)).map .int := by
    unfold cut
    rw [List.length_map, List.map_take, List.map_drop]
  rw [ec]
  have hcl : (cut ns none (some 12)).length ≤ 63 := by
    unfold cut
    rw [List.length_take, List.length_drop]; omega
  refine Rs.po_addL rfl rfl (by rw [List.length_map]; simp only [List.length_singleton]; omega) ?_
  repeat' (first | array_get_dec)
  refine each_map (f := I.int) (Inv := fun pre τ M => (∃ y1 y2 y3 y4, τ = [some (.scr ns), y1, y2, y3, y4]) ∧ M = []) (((ns.length : Nat) : Int) :: cut ns none (some 12)) [] _ _ ⟨⟨_, _, _, _, rfl⟩, rfl⟩ ?_ ?_
  · rintro c pre τ M _ _ ⟨⟨y1, y2, y3, y4, rfl⟩, rfl⟩
    refine ⟨_, rfl, ?_⟩
    simp only [List.set_cons_zero, List.set_cons_succ]
    unfold B34_0
    obtain ⟨ds, D, e1⟩ := d1 c []
    obtain ⟨h, o, e2⟩ := d2 ds [] D
    have c5 := c5 h o
    have c31 := c31 h o
    have c32 := c32 h o
    have c33 := c33 h o
    have c19 := c19 h o
    have lay := haT_lay o
    have t1 : decide (haT h = haT h) = true := decide_eq_true rfl
    repeat' (first | with_reducible refine pe_put e1 ?_ | with_reducible refine pe_put e2 ?_ | with_reducible refine c5 _ _ _ ?_ | with_reducible refine c31 _ _ _ ?_ | with_reducible refine c32 _ _ _ ?_ | with_reducible refine c33 _ _ _ ?_ | with_reducible refine c19 _ _ _ ?_ | with_reducible refine Rs.if_tt t1 ?_ | array_get_dec)
    exact ⟨⟨_, _, _, _, rfl⟩, rfl⟩
  · rintro τ M ⟨⟨y1, y2, y3, y4, rfl⟩, rfl⟩
    repeat' (first | array_get_dec)
    exact fr_ret rfl rfl
end K75

namespace K75
open PySem PySem.Spec PyProof.Rows L2 Rs
set_option maxHeartbeats 0 in
theorem all_mk {l : PySem.W.OpenLaw} {w : World} {K : PySem.W.Frag} {h : Heap} {mg : Str → Option Value} {fa : Addr} {f0 f1 f2 f3 f4 f5 f6 f7 f8 f9 f10 f11 f12 f13 f14 f15 f16 f17 f18 f19 f20 f21 f22 f23 f24 f25 f26 f27 f28 f29 f30 f31 f32 f33 f34 : Addr} {od0 od1 od2 od3 od4 od5 od6 od7 od8 od9 od10 od11 od12 od13 od14 od15 od16 od17 od18 od19 od20 od21 od22 od23 od24 od25 od26 od27 od28 od29 od30 od31 od32 od33 od34 : Option Addr} {an0 an1 an2 an3 an4 an5 an6 an7 an8 an9 an10 an11 an12 an13 an14 an15 an16 an17 an18 an19 an20 an21 an22 an23 an24 an25 an26 an27 an28 an29 an30 an31 an32 an33 an34 : Option Addr} {sl0 sl1 sl2 sl3 sl4 sl5 sl6 sl7 sl8 sl9 sl10 sl11 sl12 sl13 sl14 sl15 sl16 sl17 sl18 sl19 sl20 sl21 sl22 sl23 sl24 sl25 sl26 sl27 sl28 sl29 sl30 sl31 sl32 sl33 sl34 : Array (Option Value)} {oc0 oc1 oc2 oc3 oc4 oc5 oc6 oc7 oc8 oc9 oc10 oc11 oc12 oc13 oc14 oc15 oc16 oc17 oc18 oc19 oc20 oc21 oc22 oc23 oc24 oc25 oc26 oc27 oc28 oc29 oc30 oc31 oc32 oc33 oc34 : Value} {kV0 kV1 kV2 kV3 kV4 kV5 kV6 kV7 kV8 kV9 kV10 kV11 kV12 kV13 kV14 kV15 kV16 kV17 kV18 kV19 kV20 kV21 kV22 kV23 kV24 kV25 kV26 kV27 kV28 kV29 kV30 kV31 kV32 kV33 kV34 : Value} {dc0 dc1 dc2 dc3 dc4 dc5 dc6 dc7 dc8 dc9 dc10 dc11 dc12 dc13 dc14 dc15 dc16 dc17 dc18 dc19 dc20 dc21 dc22 dc23 dc24 dc25 dc26 dc27 dc28 dc29 dc30 dc31 dc32 dc33 dc34 : Value} {pm0 pm1 pm2 pm3 pm4 pm5 pm6 pm7 pm8 pm9 pm10 pm11 pm12 pm13 pm14 pm15 pm16 pm17 pm18 pm19 pm20 pm21 pm22 pm23 pm24 pm25 pm26 pm27 pm28 pm29 pm30 pm31 pm32 pm33 pm34 : Value} {cd0 cd1 cd2 cd3 cd4 cd5 cd6 cd7 cd8 cd9 cd10 cd11 cd12 cd13 cd14 cd15 cd16 cd17 cd18 cd19 cd20 cd21 cd22 cd23 cd24 cd25 cd26 cd27 cd28 cd29 cd30 cd31 cd32 cd33 cd34 : Value} {ct0 ct1 ct2 ct3 ct4 ct5 ct6 ct7 ct8 ct9 ct10 ct11 ct12 ct13 ct14 ct15 ct16 ct17 ct18 ct19 ct20 ct21 ct22 ct23 ct24 ct25 ct26 ct27 ct28 ct29 ct30 ct31 ct32 ct33 ct34 : Value} (X : K.In h) (G : h.Ns mainGlobals mg) (hfa : mg "law" = some (.ref fa))
    (a0 : PySem.W.nsIn K mainGlobals "is_word" = some (some (.ref f0))) (l0 : K.lookup f0 = some ⟨oc0, od0, .func (PySem.W.fnOf "is_word" "is_word" (defArgs (top 6)) (defBody (top 6)) (defScope (top 6)) .none kV0 dc0 pm0 an0 cd0 ct0), sl0⟩) (c0 : PySem.W.codeIn K cd0 "is_word" = true) (k0 : PySem.W.keepIn K (.ref f0) = true)
    (a1 : PySem.W.nsIn K mainGlobals "path_text" = some (some (.ref f1))) (l1 : K.lookup f1 = some ⟨oc1, od1, .func (PySem.W.fnOf "path_text" "path_text" (defArgs (top 13)) (defBody (top 13)) (defScope (top 13)) .none kV1 dc1 pm1 an1 cd1 ct1), sl1⟩) (c1 : PySem.W.codeIn K cd1 "path_text" = true) (k1 : PySem.W.keepIn K (.ref f1) = true)
    (a2 : PySem.W.nsIn K mainGlobals "end_text" = some (some (.ref f2))) (l2 : K.lookup f2 = some ⟨oc2, od2, .func (PySem.W.fnOf "end_text" "end_text" (defArgs (top 14)) (defBody (top 14)) (defScope (top 14)) .none kV2 dc2 pm2 an2 cd2 ct2), sl2⟩) (c2 : PySem.W.codeIn K cd2 "end_text" = true) (k2 : PySem.W.keepIn K (.ref f2) = true)
    (a3 : PySem.W.nsIn K mainGlobals "state_line" = some (some (.ref f3))) (l3 : K.lookup f3 = some ⟨oc3, od3, .func (PySem.W.fnOf "state_line" "state_line" (defArgs (top 15)) (defBody (top 15)) (defScope (top 15)) .none kV3 dc3 pm3 an3 cd3 ct3), sl3⟩) (c3 : PySem.W.codeIn K cd3 "state_line" = true) (k3 : PySem.W.keepIn K (.ref f3) = true)
    (a4 : PySem.W.nsIn K mainGlobals "house_lines" = some (some (.ref f4))) (l4 : K.lookup f4 = some ⟨oc4, od4, .func (PySem.W.fnOf "house_lines" "house_lines" (defArgs (top 16)) (defBody (top 16)) (defScope (top 16)) .none kV4 dc4 pm4 an4 cd4 ct4), sl4⟩) (c4 : PySem.W.codeIn K cd4 "house_lines" = true) (k4 : PySem.W.keepIn K (.ref f4) = true)
    (a5 : PySem.W.nsIn K mainGlobals "hall_text" = some (some (.ref f5))) (l5 : K.lookup f5 = some ⟨oc5, od5, .func (PySem.W.fnOf "hall_text" "hall_text" (defArgs (top 17)) (defBody (top 17)) (defScope (top 17)) .none kV5 dc5 pm5 an5 cd5 ct5), sl5⟩) (c5 : PySem.W.codeIn K cd5 "hall_text" = true) (k5 : PySem.W.keepIn K (.ref f5) = true)
    (a6 : PySem.W.nsIn K mainGlobals "writes_number" = some (some (.ref f6))) (l6 : K.lookup f6 = some ⟨oc6, od6, .func (PySem.W.fnOf "writes_number" "writes_number" (defArgs (top 18)) (defBody (top 18)) (defScope (top 18)) .none kV6 dc6 pm6 an6 cd6 ct6), sl6⟩) (c6 : PySem.W.codeIn K cd6 "writes_number" = true) (k6 : PySem.W.keepIn K (.ref f6) = true)
    (a7 : PySem.W.nsIn K mainGlobals "writes_path" = some (some (.ref f7))) (l7 : K.lookup f7 = some ⟨oc7, od7, .func (PySem.W.fnOf "writes_path" "writes_path" (defArgs (top 19)) (defBody (top 19)) (defScope (top 19)) .none kV7 dc7 pm7 an7 cd7 ct7), sl7⟩) (c7 : PySem.W.codeIn K cd7 "writes_path" = true) (k7 : PySem.W.keepIn K (.ref f7) = true)
    (a8 : PySem.W.nsIn K mainGlobals "path_of" = some (some (.ref f8))) (l8 : K.lookup f8 = some ⟨oc8, od8, .func (PySem.W.fnOf "path_of" "path_of" (defArgs (top 20)) (defBody (top 20)) (defScope (top 20)) .none kV8 dc8 pm8 an8 cd8 ct8), sl8⟩) (c8 : PySem.W.codeIn K cd8 "path_of" = true) (k8 : PySem.W.keepIn K (.ref f8) = true)
    (a9 : PySem.W.nsIn K mainGlobals "number_in" = some (some (.ref f9))) (l9 : K.lookup f9 = some ⟨oc9, od9, .func (PySem.W.fnOf "number_in" "number_in" (defArgs (top 21)) (defBody (top 21)) (defScope (top 21)) .none kV9 dc9 pm9 an9 cd9 ct9), sl9⟩) (c9 : PySem.W.codeIn K cd9 "number_in" = true) (k9 : PySem.W.keepIn K (.ref f9) = true)
    (a10 : PySem.W.nsIn K mainGlobals "path_in" = some (some (.ref f10))) (l10 : K.lookup f10 = some ⟨oc10, od10, .func (PySem.W.fnOf "path_in" "path_in" (defArgs (top 22)) (defBody (top 22)) (defScope (top 22)) .none kV10 dc10 pm10 an10 cd10 ct10), sl10⟩) (c10 : PySem.W.codeIn K cd10 "path_in" = true) (k10 : PySem.W.keepIn K (.ref f10) = true)
    (a11 : PySem.W.nsIn K mainGlobals "name_in" = some (some (.ref f11))) (l11 : K.lookup f11 = some ⟨oc11, od11, .func (PySem.W.fnOf "name_in" "name_in" (defArgs (top 23)) (defBody (top 23)) (defScope (top 23)) .none kV11 dc11 pm11 an11 cd11 ct11), sl11⟩) (c11 : PySem.W.codeIn K cd11 "name_in" = true) (k11 : PySem.W.keepIn K (.ref f11) = true)
    (a12 : PySem.W.nsIn K mainGlobals "end_in" = some (some (.ref f12))) (l12 : K.lookup f12 = some ⟨oc12, od12, .func (PySem.W.fnOf "end_in" "end_in" (defArgs (top 24)) (defBody (top 24)) (defScope (top 24)) .none kV12 dc12 pm12 an12 cd12 ct12), sl12⟩) (c12 : PySem.W.codeIn K cd12 "end_in" = true) (k12 : PySem.W.keepIn K (.ref f12) = true)
    (a13 : PySem.W.nsIn K mainGlobals "need_line" = some (some (.ref f13))) (l13 : K.lookup f13 = some ⟨oc13, od13, .func (PySem.W.fnOf "need_line" "need_line" (defArgs (top 25)) (defBody (top 25)) (defScope (top 25)) .none kV13 dc13 pm13 an13 cd13 ct13), sl13⟩) (c13 : PySem.W.codeIn K cd13 "need_line" = true) (k13 : PySem.W.keepIn K (.ref f13) = true)
    (a14 : PySem.W.nsIn K mainGlobals "state_in" = some (some (.ref f14))) (l14 : K.lookup f14 = some ⟨oc14, od14, .func (PySem.W.fnOf "state_in" "state_in" (defArgs (top 26)) (defBody (top 26)) (defScope (top 26)) .none kV14 dc14 pm14 an14 cd14 ct14), sl14⟩) (c14 : PySem.W.codeIn K cd14 "state_in" = true) (k14 : PySem.W.keepIn K (.ref f14) = true)
    (a15 : PySem.W.nsIn K mainGlobals "note_in" = some (some (.ref f15))) (l15 : K.lookup f15 = some ⟨oc15, od15, .func (PySem.W.fnOf "note_in" "note_in" (defArgs (top 27)) (defBody (top 27)) (defScope (top 27)) .none kV15 dc15 pm15 an15 cd15 ct15), sl15⟩) (c15 : PySem.W.codeIn K cd15 "note_in" = true) (k15 : PySem.W.keepIn K (.ref f15) = true)
    (a16 : PySem.W.nsIn K mainGlobals "house_in" = some (some (.ref f16))) (l16 : K.lookup f16 = some ⟨oc16, od16, .func (PySem.W.fnOf "house_in" "house_in" (defArgs (top 28)) (defBody (top 28)) (defScope (top 28)) .none kV16 dc16 pm16 an16 cd16 ct16), sl16⟩) (c16 : PySem.W.codeIn K cd16 "house_in" = true) (k16 : PySem.W.keepIn K (.ref f16) = true)
    (a17 : PySem.W.nsIn K mainGlobals "ask_in" = some (some (.ref f17))) (l17 : K.lookup f17 = some ⟨oc17, od17, .func (PySem.W.fnOf "ask_in" "ask_in" (defArgs (top 29)) (defBody (top 29)) (defScope (top 29)) .none kV17 dc17 pm17 an17 cd17 ct17), sl17⟩) (c17 : PySem.W.codeIn K cd17 "ask_in" = true) (k17 : PySem.W.keepIn K (.ref f17) = true)
    (a18 : PySem.W.nsIn K mainGlobals "need_rising" = some (some (.ref f18))) (l18 : K.lookup f18 = some ⟨oc18, od18, .func (PySem.W.fnOf "need_rising" "need_rising" (defArgs (top 30)) (defBody (top 30)) (defScope (top 30)) .none kV18 dc18 pm18 an18 cd18 ct18), sl18⟩) (c18 : PySem.W.codeIn K cd18 "need_rising" = true) (k18 : PySem.W.keepIn K (.ref f18) = true)
    (a19 : PySem.W.nsIn K mainGlobals "read_hall" = some (some (.ref f19))) (l19 : K.lookup f19 = some ⟨oc19, od19, .func (PySem.W.fnOf "read_hall" "read_hall" (defArgs (top 31)) (defBody (top 31)) (defScope (top 31)) .none kV19 dc19 pm19 an19 cd19 ct19), sl19⟩) (c19 : PySem.W.codeIn K cd19 "read_hall" = true) (k19 : PySem.W.keepIn K (.ref f19) = true)
    (a20 : PySem.W.nsIn K mainGlobals "_law_draws" = some (some (.ref f20))) (l20 : K.lookup f20 = some ⟨oc20, od20, .func (PySem.W.fnOf "_law_draws" "_law_draws" (defArgs (top 33)) (defBody (top 33)) (defScope (top 33)) .none kV20 dc20 pm20 an20 cd20 ct20), sl20⟩) (c20 : PySem.W.codeIn K cd20 "_law_draws" = true) (k20 : PySem.W.keepIn K (.ref f20) = true)
    (a21 : PySem.W.nsIn K mainGlobals "_law_draw" = some (some (.ref f21))) (l21 : K.lookup f21 = some ⟨oc21, od21, .func (PySem.W.fnOf "_law_draw" "_law_draw" (defArgs (top 34)) (defBody (top 34)) (defScope (top 34)) .none kV21 dc21 pm21 an21 cd21 ct21), sl21⟩) (c21 : PySem.W.codeIn K cd21 "_law_draw" = true) (k21 : PySem.W.keepIn K (.ref f21) = true)
    (a22 : PySem.W.nsIn K mainGlobals "_law_number" = some (some (.ref f22))) (l22 : K.lookup f22 = some ⟨oc22, od22, .func (PySem.W.fnOf "_law_number" "_law_number" (defArgs (top 35)) (defBody (top 35)) (defScope (top 35)) .none kV22 dc22 pm22 an22 cd22 ct22), sl22⟩) (c22 : PySem.W.codeIn K cd22 "_law_number" = true) (k22 : PySem.W.keepIn K (.ref f22) = true)
    (a23 : PySem.W.nsIn K mainGlobals "_law_path" = some (some (.ref f23))) (l23 : K.lookup f23 = some ⟨oc23, od23, .func (PySem.W.fnOf "_law_path" "_law_path" (defArgs (top 36)) (defBody (top 36)) (defScope (top 36)) .none kV23 dc23 pm23 an23 cd23 ct23), sl23⟩) (c23 : PySem.W.codeIn K cd23 "_law_path" = true) (k23 : PySem.W.keepIn K (.ref f23) = true)
    (a24 : PySem.W.nsIn K mainGlobals "_law_paths" = some (some (.ref f24))) (l24 : K.lookup f24 = some ⟨oc24, od24, .func (PySem.W.fnOf "_law_paths" "_law_paths" (defArgs (top 37)) (defBody (top 37)) (defScope (top 37)) .none kV24 dc24 pm24 an24 cd24 ct24), sl24⟩) (c24 : PySem.W.codeIn K cd24 "_law_paths" = true) (k24 : PySem.W.keepIn K (.ref f24) = true)
    (a25 : PySem.W.nsIn K mainGlobals "_law_end" = some (some (.ref f25))) (l25 : K.lookup f25 = some ⟨oc25, od25, .func (PySem.W.fnOf "_law_end" "_law_end" (defArgs (top 38)) (defBody (top 38)) (defScope (top 38)) .none kV25 dc25 pm25 an25 cd25 ct25), sl25⟩) (c25 : PySem.W.codeIn K cd25 "_law_end" = true) (k25 : PySem.W.keepIn K (.ref f25) = true)
    (a26 : PySem.W.nsIn K mainGlobals "_law_state" = some (some (.ref f26))) (l26 : K.lookup f26 = some ⟨oc26, od26, .func (PySem.W.fnOf "_law_state" "_law_state" (defArgs (top 39)) (defBody (top 39)) (defScope (top 39)) .none kV26 dc26 pm26 an26 cd26 ct26), sl26⟩) (c26 : PySem.W.codeIn K cd26 "_law_state" = true) (k26 : PySem.W.keepIn K (.ref f26) = true)
    (a27 : PySem.W.nsIn K mainGlobals "_law_diary" = some (some (.ref f27))) (l27 : K.lookup f27 = some ⟨oc27, od27, .func (PySem.W.fnOf "_law_diary" "_law_diary" (defArgs (top 40)) (defBody (top 40)) (defScope (top 40)) .none kV27 dc27 pm27 an27 cd27 ct27), sl27⟩) (c27 : PySem.W.codeIn K cd27 "_law_diary" = true) (k27 : PySem.W.keepIn K (.ref f27) = true)
    (a28 : PySem.W.nsIn K mainGlobals "_law_hall" = some (some (.ref f28))) (l28 : K.lookup f28 = some ⟨oc28, od28, .func (PySem.W.fnOf "_law_hall" "_law_hall" (defArgs (top 41)) (defBody (top 41)) (defScope (top 41)) .none kV28 dc28 pm28 an28 cd28 ct28), sl28⟩) (c28 : PySem.W.codeIn K cd28 "_law_hall" = true) (k28 : PySem.W.keepIn K (.ref f28) = true)
    (a29 : PySem.W.nsIn K mainGlobals "_law_path_word" = some (some (.ref f29))) (l29 : K.lookup f29 = some ⟨oc29, od29, .func (PySem.W.fnOf "_law_path_word" "_law_path_word" (defArgs (top 42)) (defBody (top 42)) (defScope (top 42)) .none kV29 dc29 pm29 an29 cd29 ct29), sl29⟩) (c29 : PySem.W.codeIn K cd29 "_law_path_word" = true) (k29 : PySem.W.keepIn K (.ref f29) = true)
    (a30 : PySem.W.nsIn K mainGlobals "_law_end_word" = some (some (.ref f30))) (l30 : K.lookup f30 = some ⟨oc30, od30, .func (PySem.W.fnOf "_law_end_word" "_law_end_word" (defArgs (top 43)) (defBody (top 43)) (defScope (top 43)) .none kV30 dc30 pm30 an30 cd30 ct30), sl30⟩) (c30 : PySem.W.codeIn K cd30 "_law_end_word" = true) (k30 : PySem.W.keepIn K (.ref f30) = true)
    (a31 : PySem.W.nsIn K mainGlobals "_law_lines" = some (some (.ref f31))) (l31 : K.lookup f31 = some ⟨oc31, od31, .func (PySem.W.fnOf "_law_lines" "_law_lines" (defArgs (top 44)) (defBody (top 44)) (defScope (top 44)) .none kV31 dc31 pm31 an31 cd31 ct31), sl31⟩) (c31 : PySem.W.codeIn K cd31 "_law_lines" = true) (k31 : PySem.W.keepIn K (.ref f31) = true)
    (a32 : PySem.W.nsIn K mainGlobals "_law_text" = some (some (.ref f32))) (l32 : K.lookup f32 = some ⟨oc32, od32, .func (PySem.W.fnOf "_law_text" "_law_text" (defArgs (top 45)) (defBody (top 45)) (defScope (top 45)) .none kV32 dc32 pm32 an32 cd32 ct32), sl32⟩) (c32 : PySem.W.codeIn K cd32 "_law_text" = true) (k32 : PySem.W.keepIn K (.ref f32) = true)
    (a33 : PySem.W.nsIn K mainGlobals "_law_same" = some (some (.ref f33))) (l33 : K.lookup f33 = some ⟨oc33, od33, .func (PySem.W.fnOf "_law_same" "_law_same" (defArgs (top 46)) (defBody (top 46)) (defScope (top 46)) .none kV33 dc33 pm33 an33 cd33 ct33), sl33⟩) (c33 : PySem.W.codeIn K cd33 "_law_same" = true) (k33 : PySem.W.keepIn K (.ref f33) = true)
    (a34 : PySem.W.nsIn K mainGlobals "law" = some (some (.ref f34))) (l34 : K.lookup f34 = some ⟨oc34, od34, .func (PySem.W.fnOf "law" "law" (defArgs (top 47)) (defBody (top 47)) (defScope (top 47)) .none kV34 dc34 pm34 an34 cd34 ct34), sl34⟩) (c34 : PySem.W.codeIn K cd34 "law" = true) (k34 : PySem.W.keepIn K (.ref f34) = true)
    (z0 : PySem.W.nsIn K mainGlobals "len" = some none)
    (z1 : PySem.W.nsIn K mainGlobals "abs" = some none)
    (z2 : PySem.W.nsIn K mainGlobals "sum" = some none)
    (z3 : PySem.W.nsIn K mainGlobals "tuple" = some none)
    (z4 : PySem.W.nsIn K mainGlobals "list" = some none)
    (z5 : PySem.W.nsIn K mainGlobals "int" = some none)
    (z6 : PySem.W.nsIn K mainGlobals "str" = some none)
    (z7 : PySem.W.nsIn K mainGlobals "bool" = some none)
    (z8 : PySem.W.nsIn K mainGlobals "all" = some none)
    (z9 : PySem.W.nsIn K mainGlobals "any" = some none)
    (z10 : PySem.W.nsIn K mainGlobals "isinstance" = some none)
    (z11 : PySem.W.nsIn K mainGlobals "range" = some none)
    (z12 : PySem.W.nsIn K mainGlobals "enumerate" = some none)
    (z13 : PySem.W.nsIn K mainGlobals "zip" = some none)
    (z14 : PySem.W.nsIn K mainGlobals "dict" = some none)
    (z15 : PySem.W.nsIn K mainGlobals "min" = some none)
    (z16 : PySem.W.nsIn K mainGlobals "max" = some none)
    (z17 : PySem.W.nsIn K mainGlobals "sorted" = some none)
    (z18 : PySem.W.nsIn K mainGlobals "set" = some none)
    (z19 : PySem.W.nsIn K mainGlobals "repr" = some none)
    {gv0 : Addr} {go0 : Option Addr} {gi0 : Array Value} {gn0 : Nat} {gs0 : Array (Option Value)} (uA0 : PySem.W.nsIn K mainGlobals "ASK_PATHS" = some (some (.ref gv0))) (uB0 : K.lookup gv0 = some ⟨.type "tuple", go0, .seq gi0 gn0, gs0⟩) (uC0 : gi0.size ≤ sizeLine) (uD0 : Vals [(V.int 2), (V.int 4), (V.int 6)] gi0.toList)
    {gv1 : Addr} {go1 : Option Addr} {gi1 : Array Value} {gn1 : Nat} {gs1 : Array (Option Value)} (uA1 : PySem.W.nsIn K mainGlobals "END_WORDS" = some (some (.ref gv1))) (uB1 : K.lookup gv1 = some ⟨.type "tuple", go1, .seq gi1 gn1, gs1⟩) (uC1 : gi1.size ≤ sizeLine) (uD1 : Vals [(V.str "good"), (V.str "bad"), (V.str "off")] gi1.toList)
    {gv2 : Value} (uA2 : PySem.W.nsIn K mainGlobals "FIGURES" = some (some gv2)) (uD2 : RelV (.str "0123456789") gv2)
    {gv3 : Value} (uA3 : PySem.W.nsIn K mainGlobals "GREATEST" = some (some gv3)) (uD3 : RelV (.int 1000000006) gv3)
    {gv4 : Addr} {go4 : Option Addr} {gi4 : Array Value} {gn4 : Nat} {gs4 : Array (Option Value)} (uA4 : PySem.W.nsIn K mainGlobals "HOUSE_PATHS" = some (some (.ref gv4))) (uB4 : K.lookup gv4 = some ⟨.type "tuple", go4, .seq gi4 gn4, gs4⟩) (uC4 : gi4.size ≤ sizeLine) (uD4 : Vals [(V.int 0), (V.int 2), (V.int 4)] gi4.toList)
    {gv5 : Value} (uA5 : PySem.W.nsIn K mainGlobals "LETTERS" = some (some gv5)) (uD5 : RelV (.str "abcdefghijklmnopqrstuvwxyz") gv5)
    {gv6 : Addr} {go6 : Option Addr} {gi6 : Array Value} {gn6 : Nat} {gs6 : Array (Option Value)} (uA6 : PySem.W.nsIn K mainGlobals "NOTE_WORDS" = some (some (.ref gv6))) (uB6 : K.lookup gv6 = some ⟨.type "tuple", go6, .seq gi6 gn6, gs6⟩) (uC6 : gi6.size ≤ sizeLine) (uD6 : Vals [(V.str "tell"), (V.str "do"), (V.str "done"), (V.str "undo"), (V.str "undone")] gi6.toList)
    : ∃ fd : FuncData, (∀ (s : Shared) (v : Value), BindsTo s fd ⟨[v], []⟩ [("script", v)]) ∧ ∀ base : Heap, K.In base → base.Ns mainGlobals mg → FnOk l.prog w K mg base (L2.CX l.prog w) 40 fa fd ["script"] (spL K) := by
  have e := hfa.symm.trans (PySem.W.mg_of X G a34)
  cases e
  have F0 := fun_mk (st := top 6) l0 c0 k0
  have b0 := F0.binds (ps := ["value"]) fun _ _ _ _ _ _ us hl => match us, hl with | [_], _ => rfl
  have q0 : ∀ ks ord, (0, ks, ord) ∈ T.kws → KBinds K (PySem.W.fnOf "is_word" "is_word" (defArgs (top 6)) (defBody (top 6)) (defScope (top 6)) .none kV0 dc0 pm0 an0 cd0 ct0) D0.ps ks (gK ord) (gK ord) := fun ks ord hm => absurd hm (by simp [T])
  have F1 := fun_mk (st := top 13) l1 c1 k1
  have b1 := F1.binds (ps := ["path"]) fun _ _ _ _ _ _ us hl => match us, hl with | [_], _ => rfl
  have q1 : ∀ ks ord, (1, ks, ord) ∈ T.kws → KBinds K (PySem.W.fnOf "path_text" "path_text" (defArgs (top 13)) (defBody (top 13)) (defScope (top 13)) .none kV1 dc1 pm1 an1 cd1 ct1) D1.ps ks (gK ord) (gK ord) := fun ks ord hm => absurd hm (by simp [T])
  have F2 := fun_mk (st := top 14) l2 c2 k2
  have b2 := F2.binds (ps := ["end"]) fun _ _ _ _ _ _ us hl => match us, hl with | [_], _ => rfl
  have q2 : ∀ ks ord, (2, ks, ord) ∈ T.kws → KBinds K (PySem.W.fnOf "end_text" "end_text" (defArgs (top 14)) (defBody (top 14)) (defScope (top 14)) .none kV2 dc2 pm2 an2 cd2 ct2) D2.ps ks (gK ord) (gK ord) := fun ks ord hm => absurd hm (by simp [T])
  have F3 := fun_mk (st := top 15) l3 c3 k3
  have b3 := F3.binds (ps := ["state"]) fun _ _ _ _ _ _ us hl => match us, hl with | [_], _ => rfl
  have q3 : ∀ ks ord, (3, ks, ord) ∈ T.kws → KBinds K (PySem.W.fnOf "state_line" "state_line" (defArgs (top 15)) (defBody (top 15)) (defScope (top 15)) .none kV3 dc3 pm3 an3 cd3 ct3) D3.ps ks (gK ord) (gK ord) := fun ks ord hm => absurd hm (by simp [T])
  have F4 := fun_mk (st := top 16) l4 c4 k4
  have b4 := F4.binds (ps := ["house"]) fun _ _ _ _ _ _ us hl => match us, hl with | [_], _ => rfl
  have q4 : ∀ ks ord, (4, ks, ord) ∈ T.kws → KBinds K (PySem.W.fnOf "house_lines" "house_lines" (defArgs (top 16)) (defBody (top 16)) (defScope (top 16)) .none kV4 dc4 pm4 an4 cd4 ct4) D4.ps ks (gK ord) (gK ord) := fun ks ord hm => absurd hm (by simp [T])
  have F5 := fun_mk (st := top 17) l5 c5 k5
  have b5 := F5.binds (ps := ["hall"]) fun _ _ _ _ _ _ us hl => match us, hl with | [_], _ => rfl
  have q5 : ∀ ks ord, (5, ks, ord) ∈ T.kws → KBinds K (PySem.W.fnOf "hall_text" "hall_text" (defArgs (top 17)) (defBody (top 17)) (defScope (top 17)) .none kV5 dc5 pm5 an5 cd5 ct5) D5.ps ks (gK ord) (gK ord) := fun ks ord hm => by
    have hm : (ks = (["hall"] : List Str) ∧ ord = ([0] : List Nat)) := by simpa [T] using hm
    rcases hm with ⟨rfl, rfl⟩
    · exact ⟨fun s us ws _ hl => match us, ws, hl with | [], _ :: _, _ => .of_eq rfl | [], [], hl => by revert hl; simp [gK, pick, D5] | _ :: _, _, hl => by revert hl; simp [gK, D5], gK_vals⟩
  have F6 := fun_mk (st := top 18) l6 c6 k6
  have b6 := F6.binds (ps := ["word", "most"]) fun _ _ _ _ _ _ us hl => match us, hl with | [_, _], _ => rfl
  have q6 : ∀ ks ord, (6, ks, ord) ∈ T.kws → KBinds K (PySem.W.fnOf "writes_number" "writes_number" (defArgs (top 18)) (defBody (top 18)) (defScope (top 18)) .none kV6 dc6 pm6 an6 cd6 ct6) D6.ps ks (gK ord) (gK ord) := fun ks ord hm => absurd hm (by simp [T])
  have F7 := fun_mk (st := top 19) l7 c7 k7
  have b7 := F7.binds (ps := ["word"]) fun _ _ _ _ _ _ us hl => match us, hl with | [_], _ => rfl
  have q7 : ∀ ks ord, (7, ks, ord) ∈ T.kws → KBinds K (PySem.W.fnOf "writes_path" "writes_path" (defArgs (top 19)) (defBody (top 19)) (defScope (top 19)) .none kV7 dc7 pm7 an7 cd7 ct7) D7.ps ks (gK ord) (gK ord) := fun ks ord hm => absurd hm (by simp [T])
  have F8 := fun_mk (st := top 20) l8 c8 k8
  have b8 := F8.binds (ps := ["word"]) fun _ _ _ _ _ _ us hl => match us, hl with | [_], _ => rfl
  have q8 : ∀ ks ord, (8, ks, ord) ∈ T.kws → KBinds K (PySem.W.fnOf "path_of" "path_of" (defArgs (top 20)) (defBody (top 20)) (defScope (top 20)) .none kV8 dc8 pm8 an8 cd8 ct8) D8.ps ks (gK ord) (gK ord) := fun ks ord hm => absurd hm (by simp [T])
  have F9 := fun_mk (st := top 21) l9 c9 k9
  have b9 := F9.binds (ps := ["word"]) fun _ _ _ _ _ _ us hl => match us, hl with | [_], _ => rfl
  have q9 : ∀ ks ord, (9, ks, ord) ∈ T.kws → KBinds K (PySem.W.fnOf "number_in" "number_in" (defArgs (top 21)) (defBody (top 21)) (defScope (top 21)) .none kV9 dc9 pm9 an9 cd9 ct9) D9.ps ks (gK ord) (gK ord) := fun ks ord hm => absurd hm (by simp [T])
  have F10 := fun_mk (st := top 22) l10 c10 k10
  have b10 := F10.binds (ps := ["word", "counts"]) fun _ _ _ _ _ _ us hl => match us, hl with | [_, _], _ => rfl
  have q10 : ∀ ks ord, (10, ks, ord) ∈ T.kws → KBinds K (PySem.W.fnOf "path_in" "path_in" (defArgs (top 22)) (defBody (top 22)) (defScope (top 22)) .none kV10 dc10 pm10 an10 cd10 ct10) D10.ps ks (gK ord) (gK ord) := fun ks ord hm => absurd hm (by simp [T])
  have F11 := fun_mk (st := top 23) l11 c11 k11
  have b11 := F11.binds (ps := ["word"]) fun _ _ _ _ _ _ us hl => match us, hl with | [_], _ => rfl
  have q11 : ∀ ks ord, (11, ks, ord) ∈ T.kws → KBinds K (PySem.W.fnOf "name_in" "name_in" (defArgs (top 23)) (defBody (top 23)) (defScope (top 23)) .none kV11 dc11 pm11 an11 cd11 ct11) D11.ps ks (gK ord) (gK ord) := fun ks ord hm => absurd hm (by simp [T])
  have F12 := fun_mk (st := top 24) l12 c12 k12
  have b12 := F12.binds (ps := ["word"]) fun _ _ _ _ _ _ us hl => match us, hl with | [_], _ => rfl
  have q12 : ∀ ks ord, (12, ks, ord) ∈ T.kws → KBinds K (PySem.W.fnOf "end_in" "end_in" (defArgs (top 24)) (defBody (top 24)) (defScope (top 24)) .none kV12 dc12 pm12 an12 cd12 ct12) D12.ps ks (gK ord) (gK ord) := fun ks ord hm => absurd hm (by simp [T])
  have F13 := fun_mk (st := top 25) l13 c13 k13
  have b13 := F13.binds (ps := ["words", "first", "many"]) fun _ _ _ _ _ _ us hl => match us, hl with | [_, _, _], _ => rfl
  have q13 : ∀ ks ord, (13, ks, ord) ∈ T.kws → KBinds K (PySem.W.fnOf "need_line" "need_line" (defArgs (top 25)) (defBody (top 25)) (defScope (top 25)) .none kV13 dc13 pm13 an13 cd13 ct13) D13.ps ks (gK ord) (gK ord) := fun ks ord hm => absurd hm (by simp [T])
  have F14 := fun_mk (st := top 26) l14 c14 k14
  have b14 := F14.binds (ps := ["words"]) fun _ _ _ _ _ _ us hl => match us, hl with | [_], _ => rfl
  have q14 : ∀ ks ord, (14, ks, ord) ∈ T.kws → KBinds K (PySem.W.fnOf "state_in" "state_in" (defArgs (top 26)) (defBody (top 26)) (defScope (top 26)) .none kV14 dc14 pm14 an14 cd14 ct14) D14.ps ks (gK ord) (gK ord) := fun ks ord hm => absurd hm (by simp [T])
  have F15 := fun_mk (st := top 27) l15 c15 k15
  have b15 := F15.binds (ps := ["words"]) fun _ _ _ _ _ _ us hl => match us, hl with | [_], _ => rfl
  have q15 : ∀ ks ord, (15, ks, ord) ∈ T.kws → KBinds K (PySem.W.fnOf "note_in" "note_in" (defArgs (top 27)) (defBody (top 27)) (defScope (top 27)) .none kV15 dc15 pm15 an15 cd15 ct15) D15.ps ks (gK ord) (gK ord) := fun ks ord hm => absurd hm (by simp [T])
  have F16 := fun_mk (st := top 28) l16 c16 k16
  have b16 := F16.binds (ps := ["lines", "at"]) fun _ _ _ _ _ _ us hl => match us, hl with | [_, _], _ => rfl
  have q16 : ∀ ks ord, (16, ks, ord) ∈ T.kws → KBinds K (PySem.W.fnOf "house_in" "house_in" (defArgs (top 28)) (defBody (top 28)) (defScope (top 28)) .none kV16 dc16 pm16 an16 cd16 ct16) D16.ps ks (gK ord) (gK ord) := fun ks ord hm => absurd hm (by simp [T])
  have F17 := fun_mk (st := top 29) l17 c17 k17
  have b17 := F17.binds (ps := ["words"]) fun _ _ _ _ _ _ us hl => match us, hl with | [_], _ => rfl
  have q17 : ∀ ks ord, (17, ks, ord) ∈ T.kws → KBinds K (PySem.W.fnOf "ask_in" "ask_in" (defArgs (top 29)) (defBody (top 29)) (defScope (top 29)) .none kV17 dc17 pm17 an17 cd17 ct17) D17.ps ks (gK ord) (gK ord) := fun ks ord hm => absurd hm (by simp [T])
  have F18 := fun_mk (st := top 30) l18 c18 k18
  have b18 := F18.binds (ps := ["rows"]) fun _ _ _ _ _ _ us hl => match us, hl with | [_], _ => rfl
  have q18 : ∀ ks ord, (18, ks, ord) ∈ T.kws → KBinds K (PySem.W.fnOf "need_rising" "need_rising" (defArgs (top 30)) (defBody (top 30)) (defScope (top 30)) .none kV18 dc18 pm18 an18 cd18 ct18) D18.ps ks (gK ord) (gK ord) := fun ks ord hm => absurd hm (by simp [T])
  have F19 := fun_mk (st := top 31) l19 c19 k19
  have b19 := F19.binds (ps := ["text"]) fun _ _ _ _ _ _ us hl => match us, hl with | [_], _ => rfl
  have q19 : ∀ ks ord, (19, ks, ord) ∈ T.kws → KBinds K (PySem.W.fnOf "read_hall" "read_hall" (defArgs (top 31)) (defBody (top 31)) (defScope (top 31)) .none kV19 dc19 pm19 an19 cd19 ct19) D19.ps ks (gK ord) (gK ord) := fun ks ord hm => by
    have hm : (ks = (["text"] : List Str) ∧ ord = ([0] : List Nat)) := by simpa [T] using hm
    rcases hm with ⟨rfl, rfl⟩
    · exact ⟨fun s us ws _ hl => match us, ws, hl with | [], _ :: _, _ => .of_eq rfl | [], [], hl => by revert hl; simp [gK, pick, D19] | _ :: _, _, hl => by revert hl; simp [gK, D19], gK_vals⟩
  have F20 := fun_mk (st := top 33) l20 c20 k20
  have b20 := F20.binds (ps := ["cell", "many"]) fun _ _ _ _ _ _ us hl => match us, hl with | [_, _], _ => rfl
  have q20 : ∀ ks ord, (20, ks, ord) ∈ T.kws → KBinds K (PySem.W.fnOf "_law_draws" "_law_draws" (defArgs (top 33)) (defBody (top 33)) (defScope (top 33)) .none kV20 dc20 pm20 an20 cd20 ct20) D20.ps ks (gK ord) (gK ord) := fun ks ord hm => absurd hm (by simp [T])
  have F21 := fun_mk (st := top 34) l21 c21 k21
  have b21 := F21.binds (ps := ["draws", "at", "many"]) fun _ _ _ _ _ _ us hl => match us, hl with | [_, _, _], _ => rfl
  have q21 : ∀ ks ord, (21, ks, ord) ∈ T.kws → KBinds K (PySem.W.fnOf "_law_draw" "_law_draw" (defArgs (top 34)) (defBody (top 34)) (defScope (top 34)) .none kV21 dc21 pm21 an21 cd21 ct21) D21.ps ks (gK ord) (gK ord) := fun ks ord hm => absurd hm (by simp [T])
  have F22 := fun_mk (st := top 35) l22 c22 k22
  have b22 := F22.binds (ps := ["draws", "at"]) fun _ _ _ _ _ _ us hl => match us, hl with | [_, _], _ => rfl
  have q22 : ∀ ks ord, (22, ks, ord) ∈ T.kws → KBinds K (PySem.W.fnOf "_law_number" "_law_number" (defArgs (top 35)) (defBody (top 35)) (defScope (top 35)) .none kV22 dc22 pm22 an22 cd22 ct22) D22.ps ks (gK ord) (gK ord) := fun ks ord hm => absurd hm (by simp [T])
  have F23 := fun_mk (st := top 36) l23 c23 k23
  have b23 := F23.binds (ps := ["draws", "at", "counts"]) fun _ _ _ _ _ _ us hl => match us, hl with | [_, _, _], _ => rfl
  have q23 : ∀ ks ord, (23, ks, ord) ∈ T.kws → KBinds K (PySem.W.fnOf "_law_path" "_law_path" (defArgs (top 36)) (defBody (top 36)) (defScope (top 36)) .none kV23 dc23 pm23 an23 cd23 ct23) D23.ps ks (gK ord) (gK ord) := fun ks ord hm => absurd hm (by simp [T])
  have F24 := fun_mk (st := top 37) l24 c24 k24
  have b24 := F24.binds (ps := ["draws", "at", "counts", "many"]) fun _ _ _ _ _ _ us hl => match us, hl with | [_, _, _, _], _ => rfl
  have q24 : ∀ ks ord, (24, ks, ord) ∈ T.kws → KBinds K (PySem.W.fnOf "_law_paths" "_law_paths" (defArgs (top 37)) (defBody (top 37)) (defScope (top 37)) .none kV24 dc24 pm24 an24 cd24 ct24) D24.ps ks (gK ord) (gK ord) := fun ks ord hm => absurd hm (by simp [T])
  have F25 := fun_mk (st := top 38) l25 c25 k25
  have b25 := F25.binds (ps := ["draws", "at", "ended"]) fun _ _ _ _ _ _ us hl => match us, hl with | [_, _, _], _ => rfl
  have q25 : ∀ ks ord, (25, ks, ord) ∈ T.kws → KBinds K (PySem.W.fnOf "_law_end" "_law_end" (defArgs (top 38)) (defBody (top 38)) (defScope (top 38)) .none kV25 dc25 pm25 an25 cd25 ct25) D25.ps ks (gK ord) (gK ord) := fun ks ord hm => absurd hm (by simp [T])
  have F26 := fun_mk (st := top 39) l26 c26 k26
  have b26 := F26.binds (ps := ["draws", "at", "wide"]) fun _ _ _ _ _ _ us hl => match us, hl with | [_, _, _], _ => rfl
  have q26 : ∀ ks ord, (26, ks, ord) ∈ T.kws → KBinds K (PySem.W.fnOf "_law_state" "_law_state" (defArgs (top 39)) (defBody (top 39)) (defScope (top 39)) .none kV26 dc26 pm26 an26 cd26 ct26) D26.ps ks (gK ord) (gK ord) := fun ks ord hm => absurd hm (by simp [T])
  have F27 := fun_mk (st := top 40) l27 c27 k27
  have b27 := F27.binds (ps := ["draws", "at", "many", "wide"]) fun _ _ _ _ _ _ us hl => match us, hl with | [_, _, _, _], _ => rfl
  have q27 : ∀ ks ord, (27, ks, ord) ∈ T.kws → KBinds K (PySem.W.fnOf "_law_diary" "_law_diary" (defArgs (top 40)) (defBody (top 40)) (defScope (top 40)) .none kV27 dc27 pm27 an27 cd27 ct27) D27.ps ks (gK ord) (gK ord) := fun ks ord hm => absurd hm (by simp [T])
  have F28 := fun_mk (st := top 41) l28 c28 k28
  have b28 := F28.binds (ps := ["draws", "most"]) fun _ _ _ _ _ _ us hl => match us, hl with | [_, _], _ => rfl
  have q28 : ∀ ks ord, (28, ks, ord) ∈ T.kws → KBinds K (PySem.W.fnOf "_law_hall" "_law_hall" (defArgs (top 41)) (defBody (top 41)) (defScope (top 41)) .none kV28 dc28 pm28 an28 cd28 ct28) D28.ps ks (gK ord) (gK ord) := fun ks ord hm => absurd hm (by simp [T])
  have F29 := fun_mk (st := top 42) l29 c29 k29
  have b29 := F29.binds (ps := ["path"]) fun _ _ _ _ _ _ us hl => match us, hl with | [_], _ => rfl
  have q29 : ∀ ks ord, (29, ks, ord) ∈ T.kws → KBinds K (PySem.W.fnOf "_law_path_word" "_law_path_word" (defArgs (top 42)) (defBody (top 42)) (defScope (top 42)) .none kV29 dc29 pm29 an29 cd29 ct29) D29.ps ks (gK ord) (gK ord) := fun ks ord hm => absurd hm (by simp [T])
  have F30 := fun_mk (st := top 43) l30 c30 k30
  have b30 := F30.binds (ps := ["end"]) fun _ _ _ _ _ _ us hl => match us, hl with | [_], _ => rfl
  have q30 : ∀ ks ord, (30, ks, ord) ∈ T.kws → KBinds K (PySem.W.fnOf "_law_end_word" "_law_end_word" (defArgs (top 43)) (defBody (top 43)) (defScope (top 43)) .none kV30 dc30 pm30 an30 cd30 ct30) D30.ps ks (gK ord) (gK ord) := fun ks ord hm => absurd hm (by simp [T])
  have F31 := fun_mk (st := top 44) l31 c31 k31
  have b31 := F31.binds (ps := ["its_hall"]) fun _ _ _ _ _ _ us hl => match us, hl with | [_], _ => rfl
  have q31 : ∀ ks ord, (31, ks, ord) ∈ T.kws → KBinds K (PySem.W.fnOf "_law_lines" "_law_lines" (defArgs (top 44)) (defBody (top 44)) (defScope (top 44)) .none kV31 dc31 pm31 an31 cd31 ct31) D31.ps ks (gK ord) (gK ord) := fun ks ord hm => absurd hm (by simp [T])
  have F32 := fun_mk (st := top 45) l32 c32 k32
  have b32 := F32.binds (ps := ["lines"]) fun _ _ _ _ _ _ us hl => match us, hl with | [_], _ => rfl
  have q32 : ∀ ks ord, (32, ks, ord) ∈ T.kws → KBinds K (PySem.W.fnOf "_law_text" "_law_text" (defArgs (top 45)) (defBody (top 45)) (defScope (top 45)) .none kV32 dc32 pm32 an32 cd32 ct32) D32.ps ks (gK ord) (gK ord) := fun ks ord hm => absurd hm (by simp [T])
  have F33 := fun_mk (st := top 46) l33 c33 k33
  have b33 := F33.binds (ps := ["found", "due"]) fun _ _ _ _ _ _ us hl => match us, hl with | [_, _], _ => rfl
  have q33 : ∀ ks ord, (33, ks, ord) ∈ T.kws → KBinds K (PySem.W.fnOf "_law_same" "_law_same" (defArgs (top 46)) (defBody (top 46)) (defScope (top 46)) .none kV33 dc33 pm33 an33 cd33 ct33) D33.ps ks (gK ord) (gK ord) := fun ks ord hm => absurd hm (by simp [T])
  have F34 := fun_mk (st := top 47) l34 c34 k34
  have b34 := F34.binds (ps := ["script"]) fun _ _ _ _ _ _ us hl => match us, hl with | [_], _ => rfl
  have q34 : ∀ ks ord, (34, ks, ord) ∈ T.kws → KBinds K (PySem.W.fnOf "law" "law" (defArgs (top 47)) (defBody (top 47)) (defScope (top 47)) .none kV34 dc34 pm34 an34 cd34 ct34) D34.ps ks (gK ord) (gK ord) := fun ks ord hm => absurd hm (by simp [T])
  refine ⟨_, fun s v => .of_eq rfl, fun base _ _ => law_at (Wn := 1000000) (i := 34) (d := D34) (T := T) ⟨K, fun _ => 0, fun _ => 0⟩ rfl T_ok (fun i d hd => ?_) (fun x hx => ?_) (fun p hp => ?_) rfl rfl (PySem.W.mg_of X G a34) F34 law_holds base⟩
  · match i, hd with
    | 0, hd => cases hd; exact ⟨_, _, F0, PySem.W.mg_of X G a0, b0, q0⟩
    | 1, hd => cases hd; exact ⟨_, _, F1, PySem.W.mg_of X G a1, b1, q1⟩
    | 2, hd => cases hd; exact ⟨_, _, F2, PySem.W.mg_of X G a2, b2, q2⟩
    | 3, hd => cases hd; exact ⟨_, _, F3, PySem.W.mg_of X G a3, b3, q3⟩
    | 4, hd => cases hd; exact ⟨_, _, F4, PySem.W.mg_of X G a4, b4, q4⟩
    | 5, hd => cases hd; exact ⟨_, _, F5, PySem.W.mg_of X G a5, b5, q5⟩
    | 6, hd => cases hd; exact ⟨_, _, F6, PySem.W.mg_of X G a6, b6, q6⟩
    | 7, hd => cases hd; exact ⟨_, _, F7, PySem.W.mg_of X G a7, b7, q7⟩
    | 8, hd => cases hd; exact ⟨_, _, F8, PySem.W.mg_of X G a8, b8, q8⟩
    | 9, hd => cases hd; exact ⟨_, _, F9, PySem.W.mg_of X G a9, b9, q9⟩
    | 10, hd => cases hd; exact ⟨_, _, F10, PySem.W.mg_of X G a10, b10, q10⟩
    | 11, hd => cases hd; exact ⟨_, _, F11, PySem.W.mg_of X G a11, b11, q11⟩
    | 12, hd => cases hd; exact ⟨_, _, F12, PySem.W.mg_of X G a12, b12, q12⟩
    | 13, hd => cases hd; exact ⟨_, _, F13, PySem.W.mg_of X G a13, b13, q13⟩
    | 14, hd => cases hd; exact ⟨_, _, F14, PySem.W.mg_of X G a14, b14, q14⟩
    | 15, hd => cases hd; exact ⟨_, _, F15, PySem.W.mg_of X G a15, b15, q15⟩
    | 16, hd => cases hd; exact ⟨_, _, F16, PySem.W.mg_of X G a16, b16, q16⟩
    | 17, hd => cases hd; exact ⟨_, _, F17, PySem.W.mg_of X G a17, b17, q17⟩
    | 18, hd => cases hd; exact ⟨_, _, F18, PySem.W.mg_of X G a18, b18, q18⟩
    | 19, hd => cases hd; exact ⟨_, _, F19, PySem.W.mg_of X G a19, b19, q19⟩
    | 20, hd => cases hd; exact ⟨_, _, F20, PySem.W.mg_of X G a20, b20, q20⟩
    | 21, hd => cases hd; exact ⟨_, _, F21, PySem.W.mg_of X G a21, b21, q21⟩
    | 22, hd => cases hd; exact ⟨_, _, F22, PySem.W.mg_of X G a22, b22, q22⟩
    | 23, hd => cases hd; exact ⟨_, _, F23, PySem.W.mg_of X G a23, b23, q23⟩
    | 24, hd => cases hd; exact ⟨_, _, F24, PySem.W.mg_of X G a24, b24, q24⟩
    | 25, hd => cases hd; exact ⟨_, _, F25, PySem.W.mg_of X G a25, b25, q25⟩
    | 26, hd => cases hd; exact ⟨_, _, F26, PySem.W.mg_of X G a26, b26, q26⟩
    | 27, hd => cases hd; exact ⟨_, _, F27, PySem.W.mg_of X G a27, b27, q27⟩
    | 28, hd => cases hd; exact ⟨_, _, F28, PySem.W.mg_of X G a28, b28, q28⟩
    | 29, hd => cases hd; exact ⟨_, _, F29, PySem.W.mg_of X G a29, b29, q29⟩
    | 30, hd => cases hd; exact ⟨_, _, F30, PySem.W.mg_of X G a30, b30, q30⟩
    | 31, hd => cases hd; exact ⟨_, _, F31, PySem.W.mg_of X G a31, b31, q31⟩
    | 32, hd => cases hd; exact ⟨_, _, F32, PySem.W.mg_of X G a32, b32, q32⟩
    | 33, hd => cases hd; exact ⟨_, _, F33, PySem.W.mg_of X G a33, b33, q33⟩
    | 34, hd => cases hd; exact ⟨_, _, F34, PySem.W.mg_of X G a34, b34, q34⟩
    | _ + 35, hd => exact nomatch hd
  · simp only [bltsOf, List.mem_cons, List.not_mem_nil, or_false] at hx
    rcases hx with rfl | rfl | rfl | rfl | rfl | rfl | rfl | rfl | rfl | rfl | rfl | rfl | rfl | rfl | rfl | rfl | rfl | rfl | rfl | rfl
    · exact PySem.W.mg_none_of X G z0
    · exact PySem.W.mg_none_of X G z1
    · exact PySem.W.mg_none_of X G z2
    · exact PySem.W.mg_none_of X G z3
    · exact PySem.W.mg_none_of X G z4
    · exact PySem.W.mg_none_of X G z5
    · exact PySem.W.mg_none_of X G z6
    · exact PySem.W.mg_none_of X G z7
    · exact PySem.W.mg_none_of X G z8
    · exact PySem.W.mg_none_of X G z9
    · exact PySem.W.mg_none_of X G z10
    · exact PySem.W.mg_none_of X G z11
    · exact PySem.W.mg_none_of X G z12
    · exact PySem.W.mg_none_of X G z13
    · exact PySem.W.mg_none_of X G z14
    · exact PySem.W.mg_none_of X G z15
    · exact PySem.W.mg_none_of X G z16
    · exact PySem.W.mg_none_of X G z17
    · exact PySem.W.mg_none_of X G z18
    · exact PySem.W.mg_none_of X G z19
  · simp only [T, List.mem_cons, List.not_mem_nil, or_false] at hp
    rcases hp with rfl | rfl | rfl | rfl | rfl | rfl | rfl
    · exact ⟨_, V.ref gv0, PySem.W.mg_of X G uA0, rfl, fun _ _ _ => .wtp (.inr ⟨_, _, _, uB0, rfl, rfl, uC0, uD0⟩) (.cons (.int _) (.cons (.int _) (.cons (.int _) .nil)))⟩
    · exact ⟨_, V.ref gv1, PySem.W.mg_of X G uA1, rfl, fun _ _ _ => .wtp (.inr ⟨_, _, _, uB1, rfl, rfl, uC1, uD1⟩) (.cons (.str _) (.cons (.str _) (.cons (.str _) .nil)))⟩
    · exact ⟨_, _, PySem.W.mg_of X G uA2, uD2, fun _ _ _ => .str _⟩
    · exact ⟨_, _, PySem.W.mg_of X G uA3, uD3, fun _ _ _ => .int _⟩
    · exact ⟨_, V.ref gv4, PySem.W.mg_of X G uA4, rfl, fun _ _ _ => .wtp (.inr ⟨_, _, _, uB4, rfl, rfl, uC4, uD4⟩) (.cons (.int _) (.cons (.int _) (.cons (.int _) .nil)))⟩
    · exact ⟨_, _, PySem.W.mg_of X G uA5, uD5, fun _ _ _ => .str _⟩
    · exact ⟨_, V.ref gv6, PySem.W.mg_of X G uA6, rfl, fun _ _ _ => .wtp (.inr ⟨_, _, _, uB6, rfl, rfl, uC6, uD6⟩) (.cons (.str _) (.cons (.str _) (.cons (.str _) (.cons (.str _) (.cons (.str _) .nil)))))⟩
theorem walk {l : PySem.W.OpenLaw} {q : Program} {loose : List Str} {XP : (Str → Option Value) → Heap → Prop} {YP : World → Heap → Prop} {d : DefRec} {K : Params → PySem.W.Frag} (hn : l.most = some 63) (hdf : d.params.defaults = []) (hY : ∀ (w : World) (h : Heap), YP w h → (K w.params).In h)
    (F : ∀ (w : World) (mg : Str → Option Value) (fa : Addr) (h : Heap), (K w.params).In h → h.Ns mainGlobals mg → mg d.name = some (.ref fa) →
      ∃ fd : FuncData, (∀ (s : Shared) (u : Value), BindsTo s fd ⟨[u], []⟩ [("script", u)]) ∧ ∀ base : Heap, (K w.params).In base → base.Ns mainGlobals mg → FnOk l.prog w (K w.params) mg base (L2.CX l.prog w) 40 fa fd ["script"] (spL (K w.params))) :
    PySem.W.WalkO q loose XP YP l.row.toRowW d [] (fun f vs => PySem.call f vs) :=
  L2.walk_of (n := 63) (k := 40) (x := "script") (CX := fun w => L2.CX l.prog w) (sp := fun w => spL (K w.params)) hn (by decide) hdf ⟨rfl, by decide, by decide⟩ hY F (fun _ _ a ns hl hO hS => spL_at hl hO hS) fun _ _ _ _ _ h => cx_none h
end K75
open PySem PySem.W PyProof.Rows
set_option maxRecDepth 100000 in
set_option maxHeartbeats 0 in
theorem PySem.Challenge.cw_errandwide_k75_halls_as_texts_holds : PySem.Challenge.rw_errandwide_k75_halls_as_texts.Holds := by
  w_on; o_law; k_head; (case hw => w_witness2)
  k_fill
  refine K75.walk (l := PySem.Challenge.rw_errandwide_k75_halls_as_texts) rfl rfl (fun w h Y => PySem.W.kIn_of Y) ?F
  case F =>
    intro w mg fa h KX G hmg
    refine' K75.all_mk KX G hmg ?a0 ?l0 ?c0 ?k0 ?a1 ?l1 ?c1 ?k1 ?a2 ?l2 ?c2 ?k2 ?a3 ?l3 ?c3 ?k3 ?a4 ?l4 ?c4 ?k4 ?a5 ?l5 ?c5 ?k5 ?a6 ?l6 ?c6 ?k6 ?a7 ?l7 ?c7 ?k7 ?a8 ?l8 ?c8 ?k8 ?a9 ?l9 ?c9 ?k9 ?a10 ?l10 ?c10 ?k10 ?a11 ?l11 ?c11 ?k11 ?a12 ?l12 ?c12 ?k12 ?a13 ?l13 ?c13 ?k13 ?a14 ?l14 ?c14 ?k14 ?a15 ?l15 ?c15 ?k15 ?a16 ?l16 ?c16 ?k16 ?a17 ?l17 ?c17 ?k17 ?a18 ?l18 ?c18 ?k18 ?a19 ?l19 ?c19 ?k19 ?a20 ?l20 ?c20 ?k20 ?a21 ?l21 ?c21 ?k21 ?a22 ?l22 ?c22 ?k22 ?a23 ?l23 ?c23 ?k23 ?a24 ?l24 ?c24 ?k24 ?a25 ?l25 ?c25 ?k25 ?a26 ?l26 ?c26 ?k26 ?a27 ?l27 ?c27 ?k27 ?a28 ?l28 ?c28 ?k28 ?a29 ?l29 ?c29 ?k29 ?a30 ?l30 ?c30 ?k30 ?a31 ?l31 ?c31 ?k31 ?a32 ?l32 ?c32 ?k32 ?a33 ?l33 ?c33 ?k33 ?a34 ?l34 ?c34 ?k34 ?z0 ?z1 ?z2 ?z3 ?z4 ?z5 ?z6 ?z7 ?z8 ?z9 ?z10 ?z11 ?z12 ?z13 ?z14 ?z15 ?z16 ?z17 ?z18 ?z19 ?uA0 ?uB0 ?uC0 ?uD0 ?uA1 ?uB1 ?uC1 ?uD1 ?uA2 ?uD2 ?uA3 ?uD3 ?uA4 ?uB4 ?uC4 ?uD4 ?uA5 ?uD5 ?uA6 ?uB6 ?uC6 ?uD6
    (case a0 => k_is)
    (case l0 => k_is)
    (case c0 => k_is)
    (case k0 => k_is)
    (case a1 => k_is)
    (case l1 => k_is)
    (case c1 => k_is)
    (case k1 => k_is)
    (case a2 => k_is)
    (case l2 => k_is)
    (case c2 => k_is)
    (case k2 => k_is)
    (case a3 => k_is)
    (case l3 => k_is)
    (case c3 => k_is)
    (case k3 => k_is)
    (case a4 => k_is)
    (case l4 => k_is)
    (case c4 => k_is)
    (case k4 => k_is)
    (case a5 => k_is)
    (case l5 => k_is)
    (case c5 => k_is)
    (case k5 => k_is)
    (case a6 => k_is)
    (case l6 => k_is)
    (case c6 => k_is)
    (case k6 => k_is)
    (case a7 => k_is)
    (case l7 => k_is)
    (case c7 => k_is)
    (case k7 => k_is)
    (case a8 => k_is)
    (case l8 => k_is)
    (case c8 => k_is)
    (case k8 => k_is)
    (case a9 => k_is)
    (case l9 => k_is)
    (case c9 => k_is)
    (case k9 => k_is)
    (case a10 => k_is)
    (case l10 => k_is)
    (case c10 => k_is)
    (case k10 => k_is)
    (case a11 => k_is)
    (case l11 => k_is)
    (case c11 => k_is)
    (case k11 => k_is)
    (case a12 => k_is)
    (case l12 => k_is)
    (case c12 => k_is)
    (case k12 => k_is)
    (case a13 => k_is)
    (case l13 => k_is)
    (case c13 => k_is)
    (case k13 => k_is)
    (case a14 => k_is)
    (case l14 => k_is)
    (case c14 => k_is)
    (case k14 => k_is)
    (case a15 => k_is)
    (case l15 => k_is)
    (case c15 => k_is)
    (case k15 => k_is)
    (case a16 => k_is)
    (case l16 => k_is)
    (case c16 => k_is)
    (case k16 => k_is)
    (case a17 => k_is)
    (case l17 => k_is)
    (case c17 => k_is)
    (case k17 => k_is)
    (case a18 => k_is)
    (case l18 => k_is)
    (case c18 => k_is)
    (case k18 => k_is)
    (case a19 => k_is)
    (case l19 => k_is)
    (case c19 => k_is)
    (case k19 => k_is)
    (case a20 => k_is)
    (case l20 => k_is)
    (case c20 => k_is)
    (case k20 => k_is)
    (case a21 => k_is)
    (case l21 => k_is)
    (case c21 => k_is)
    (case k21 => k_is)
    (case a22 => k_is)
    (case l22 => k_is)
    (case c22 => k_is)
    (case k22 => k_is)
    (case a23 => k_is)
    (case l23 => k_is)
    (case c23 => k_is)
    (case k23 => k_is)
    (case a24 => k_is)
    (case l24 => k_is)
    (case c24 => k_is)
    (case k24 => k_is)
    (case a25 => k_is)
    (case l25 => k_is)
    (case c25 => k_is)
    (case k25 => k_is)
    (case a26 => k_is)
    (case l26 => k_is)
    (case c26 => k_is)
    (case k26 => k_is)
    (case a27 => k_is)
    (case l27 => k_is)
    (case c27 => k_is)
    (case k27 => k_is)
    (case a28 => k_is)
    (case l28 => k_is)
    (case c28 => k_is)
    (case k28 => k_is)
    (case a29 => k_is)
    (case l29 => k_is)
    (case c29 => k_is)
    (case k29 => k_is)
    (case a30 => k_is)
    (case l30 => k_is)
    (case c30 => k_is)
    (case k30 => k_is)
    (case a31 => k_is)
    (case l31 => k_is)
    (case c31 => k_is)
    (case k31 => k_is)
    (case a32 => k_is)
    (case l32 => k_is)
    (case c32 => k_is)
    (case k32 => k_is)
    (case a33 => k_is)
    (case l33 => k_is)
    (case c33 => k_is)
    (case k33 => k_is)
    (case a34 => k_is)
    (case l34 => k_is)
    (case c34 => k_is)
    (case k34 => k_is)
    (case z0 => k_is)
    (case z1 => k_is)
    (case z2 => k_is)
    (case z3 => k_is)
    (case z4 => k_is)
    (case z5 => k_is)
    (case z6 => k_is)
    (case z7 => k_is)
    (case z8 => k_is)
    (case z9 => k_is)
    (case z10 => k_is)
    (case z11 => k_is)
    (case z12 => k_is)
    (case z13 => k_is)
    (case z14 => k_is)
    (case z15 => k_is)
    (case z16 => k_is)
    (case z17 => k_is)
    (case z18 => k_is)
    (case z19 => k_is)
    (case uA0 => k_is)
    (case uB0 => k_is)
    (case uA1 => k_is)
    (case uB1 => k_is)
    (case uA2 => k_is)
    (case uA3 => k_is)
    (case uA4 => k_is)
    (case uB4 => k_is)
    (case uA5 => k_is)
    (case uA6 => k_is)
    (case uB6 => k_is)
    (case uC0 => decide +kernel)
    (case uD0 => exact (.cons ⟨_, rfl⟩ (.cons ⟨_, rfl⟩ (.cons ⟨_, rfl⟩ .nil))))
    (case uC1 => decide +kernel)
    (case uD1 => exact (.cons ⟨_, rfl⟩ (.cons ⟨_, rfl⟩ (.cons ⟨_, rfl⟩ .nil))))
    (case uD2 => exact ⟨_, rfl⟩)
    (case uD3 => exact ⟨_, rfl⟩)
    (case uC4 => decide +kernel)
    (case uD4 => exact (.cons ⟨_, rfl⟩ (.cons ⟨_, rfl⟩ (.cons ⟨_, rfl⟩ .nil))))
    (case uD5 => exact ⟨_, rfl⟩)
    (case uC6 => decide +kernel)
    (case uD6 => exact (.cons ⟨_, rfl⟩ (.cons ⟨_, rfl⟩ (.cons ⟨_, rfl⟩ (.cons ⟨_, rfl⟩ (.cons ⟨_, rfl⟩ .nil))))))
