import PyProof.Rows.All
import Wide.All
import OpenK.AllK
import Wide.FinOn
import HandS.ForMost
import HandS.Wide
import HandS.TupAny
import HandS.IsInst
import HandS.Deep
import HandS.Conv
import HandS.Style
import HandS.Zip
import HandS.Codes
import HandS.RaiseMore
import HandS.Flow
import HandS.CallSlots
import HandS.TryOnly
import KE.GoesEnum
import HandS.WordsExc
import HandS.Small
import PySem.Challenge.RW_errandwide_k07_programs_written
set_option Elab.async false
set_option linter.all false
set_option maxRecDepth 100000
/-! second layer, part a: the language and its evaluator -/
namespace Rs
open PySem PySem.Spec PyProof.Rows L2

/-- values: lists and dicts among them are never written; obj n is the n-th cell -/
inductive I where
  | non | bl (b : Bool) | int (i : Int) | str (s : Str) | tup (xs : List I) | lst (xs : List I)
  | dic (ks : List Key) (xs : List I) | dit (ks : List (List Key)) (xs : List I)
  | scr (ns : List Int) | obj (n : Nat)
  -- a tuple of the written part (a global)
  | wtp (xs : List I)
instance : Inhabited I := ⟨.non⟩
inductive Cell where
  | lst (xs : List I) | dic (ks : List Key) (xs : List I) | dit (ks : List (List Key)) (xs : List I)
  | ins (c : Nat) (fs : List (Str × I))
abbrev Mem := List Cell
abbrev Env := List (Option I)

/-! ### data as the library's -/
mutual
def I.py : I → PyData
  | .non => .none
  | .bl b => .bool b
  | .int i => .int i
  | .str s => .str s
  | .tup xs => .tuple (I.pys xs)
  | .wtp xs => .tuple (I.pys xs)
  | .lst xs => .list (I.pys xs)
  | _ => .none
def I.pys : List I → List PyData
  | [] => []
  | x :: xs => I.py x :: I.pys xs
end
-- data, lists among them 
mutual
def I.pure : I → Bool
  | .non => true
  | .bl _ => true
  | .int _ => true
  | .str _ => true
  | .tup xs => I.pures xs
  | .wtp xs => I.pures xs
  | .lst xs => I.pures xs
  | _ => false
def I.pures : List I → Bool
  | [] => true
  | x :: xs => I.pure x && I.pures xs
end
-- no cell in it 
mutual
def I.flat : I → Bool
  | .obj _ => false
  | .tup xs => I.flats xs
  | .wtp xs => I.flats xs
  | .lst xs => I.flats xs
  | .dic _ xs => I.flats xs
  | .dit _ xs => I.flats xs
  | _ => true
def I.flats : List I → Bool
  | [] => true
  | x :: xs => I.flat x && I.flats xs
end
-- data that nobody can write, whatever was tracked 
mutual
def I.solid : I → Bool
  | .non => true
  | .bl _ => true
  | .int _ => true
  | .str _ => true
  | .tup xs => I.solids xs
  | .wtp xs => I.solids xs
  | _ => false
def I.solids : List I → Bool
  | [] => true
  | x :: xs => I.solid x && I.solids xs
end
mutual
def I.same : I → I → Bool
  | .non, .non => true
  | .bl a, .bl b => decide (a = b)
  | .int a, .int b => decide (a = b)
  | .str a, .str b => decide (a = b)
  | .tup a, .tup b => I.sames a b
  | .wtp a, .wtp b => I.sames a b
  | .lst a, .lst b => I.sames a b
  | .dic j a, .dic k b => decide (j = k) && I.sames a b
  | .dit j a, .dit k b => decide (j = k) && I.sames a b
  | .scr a, .scr b => decide (a = b)
  | .obj a, .obj b => decide (a = b)
  | _, _ => false
def I.sames : List I → List I → Bool
  | [], [] => true
  | x :: xs, y :: ys => I.same x y && I.sames xs ys
  | _, _ => false
end
def I.fit (d : I) : Bool := d.pure && SeqAt.shaped d.py
def eqD (a b : I) : Option Bool := if a.fit && b.fit then some (PyData.eqv a.py b.py) else none

/-! ### cells read -/
/-- a cell's thing, as it is now -/
def sh (M : Mem) : I → I
  | .obj n => match M[n]? with
    | some (.lst xs) => .lst xs
    | some (.dic ks xs) => .dic ks xs
    | some (.dit ks xs) => .dit ks xs
    | _ => .obj n
  | x => x
/-- everything that the cells hold, as it is now -/
def frz (M : Mem) : Nat → I → Option I
  | 0, x => if x.flat then some x else none
  | k + 1, .tup xs => (xs.mapM (frz M k)).map .tup
  | k + 1, .wtp xs => (xs.mapM (frz M k)).map .wtp
  | k + 1, .lst xs => (xs.mapM (frz M k)).map .lst
  | k + 1, .dic ks xs => (xs.mapM (frz M k)).map (.dic ks)
  | k + 1, .dit ks xs => (xs.mapM (frz M k)).map (.dit ks)
  | k + 1, .obj n => match M[n]? with
    | some (.lst xs) => (xs.mapM (frz M k)).map .lst
    | some (.dic ks xs) => (xs.mapM (frz M k)).map (.dic ks)
    | some (.dit ks xs) => (xs.mapM (frz M k)).map (.dit ks)
    | _ => none
  | _ + 1, x => some x
def dpt : Nat := 12

/-! ### operations by values -/
inductive Ty where
  | int | str | tuple | list | bool | dict
  deriving DecidableEq
def Ty.name : Ty → String
  | .int => "int" | .str => "str" | .tuple => "tuple" | .list => "list" | .bool => "bool" | .dict => "dict"
inductive Op where
  | add | sub | mul | fdiv | mod | pow | neg
  | eq | ne | lt | le | gt | ge | isN | notN | inn | notin | isB (neg b : Bool)
  | ix | slice (lo hi : Bool) | rev | revT
  | len | abs | sum | tuple | list | int | str | bool | all | any | repr
  | min | max | sorted
  | isT (t : Ty)
  deriving DecidableEq
/-- methods that change nothing -/
inductive Mth where
  | join | split | get1 | get2 | index
  deriving DecidableEq

def I.ty : I → Option Ty
  | .bl _ => some .bool
  | .int _ => some .int
  | .str _ => some .str
  | .tup _ => some .tuple
  | .wtp _ => some .tuple
  | .lst _ => some .list
  | .dic _ _ => some .dict
  | .dit _ _ => some .dict
  | _ => none
def isTy : I → Ty → Option Bool
  | .non, _ => some false
  | d, t => match d.ty with
    | some u => some (decide (u = t) || (decide (u = .bool) && decide (t = .int)))
    | none => none
def intsI : List I → Option (List Int)
  | [] => some []
  | .int x :: ds => (intsI ds).map (x :: ·)
  | _ :: _ => none
def boolsI : List I → Option (List Bool)
  | [] => some []
  | .bl x :: ds => (boolsI ds).map (x :: ·)
  | _ :: _ => none
def strsI : List I → Option (List Str)
  | [] => some []
  | .str x :: ds => (strsI ds).map (x :: ·)
  | _ :: _ => none

def truth : I → Option Bool
  | .non => some false
  | .bl b => some b
  | .int n => some (n != 0)
  | .str s => if s.length ≤ sizeLine then some ((s.length : Int) != 0) else none
  | .tup xs => some (!xs.isEmpty)
  | .wtp xs => some (!xs.isEmpty)
  | .lst xs => some (!xs.isEmpty)
  | _ => none
def addD : I → I → Option I
  | .int a, .int b => some (.int (a + b))
  | .str a, .str b => if a.length + b.length ≤ sizeLine then some (.str (a ++ b)) else none
  | .tup a, .tup b => if a.length + b.length ≤ sizeLine then some (.tup (a ++ b)) else none
  | .lst a, .lst b => if a.length + b.length ≤ sizeLine then some (.lst (a ++ b)) else none
  | _, _ => none
def subD : I → I → Option I
  | .int a, .int b => some (.int (a - b))
  | _, _ => none
def mulD : I → I → Option I
  | .int a, .int b => if a.natAbs.log2 + b.natAbs.log2 < 1000000 then some (.int (a * b)) else none
  | .lst a, .int k => if -(2 ^ 63) ≤ k ∧ k < 2 ^ 63 ∧ a.length * k.toNat ≤ sizeLine then some (.lst (List.replicate k.toNat a).flatten) else none
  | _, _ => none
def fdivD : I → I → Option I
  | .int a, .int b => if 0 < b ∧ b.natAbs.log2 < 9000 then some (.int (a / b)) else none
  | _, _ => none
def modD : I → I → Option I
  | .int a, .int b => if 0 < b then some (.int (a % b)) else none
  | _, _ => none
def powD : I → I → Option I
  | .int a, .int b => if 0 ≤ b ∧ b ≤ 1000000 ∧ a.natAbs < 2 ^ 64 then some (.int (a ^ b.toNat)) else none
  | _, _ => none
def negD : I → Option I
  | .int a => some (.int (-a))
  | _ => none
def cmpI (f : Int → Int → Bool) (g : List Nat → List Nat → Option Bool) : I → I → Option I
  | .int a, .int b => some (.bl (f a b))
  | .str a, .str b => (g a.cps.toList b.cps.toList).map .bl
  | _, _ => none
def isN : I → Option I
  | .non => some (.bl true)
  | .obj _ => some (.bl false)
  | _ => some (.bl false)
/-- is True, is not False .. : of truths alone -/
def isBo (b : Bool) : I → Option Bool
  | .bl c => some (decide (c = b))
  | _ => none
def keyI : I → Option Key
  | .int n => some (.inl n)
  | .str s => some (.inr s)
  | _ => none
def keysI : List I → Option (List Key)
  | [] => some []
  | x :: xs => match keyI x, keysI xs with
    | some k, some ks => some (k :: ks)
    | _, _ => none
/-- a dict's value at a key -/
def atK {κ β : Type} [DecidableEq κ] : List κ → List β → κ → Option β
  | k :: ks, x :: xs, j => if k = j then some x else atK ks xs j
  | _, _, _ => none
/-- data without parts -/
def I.scal : I → Bool
  | .non => true
  | .bl _ => true
  | .int _ => true
  | .str _ => true
  | _ => false
def I.v : I → V
  | .bl b => .bl b
  | .int i => .int i
  | .str s => .str s
  | _ => .non
def inT (x : I) (ys : List I) : Option Bool := if x.scal && ys.all I.scal then some (inV x.v (ys.map I.v)) else none
def innD : I → I → Option Bool
  | .str s, .str z => if s.length = 1 then some (decide (s.cps.getD 0 0 ∈ z.cps.toList)) else none
  | x, .lst ys => if x.fit && (I.lst ys).fit then some ((I.pys ys).any fun z => PyData.eqv z x.py) else none
  | x, .tup ys => inT x ys
  | x, .wtp ys => inT x ys
  | x, .dic ks vs => match keyI x with
    | some k => some (atK ks vs k).isSome
    | none => none
  | .tup x, .dit ks vs => match keysI x with
    | some k => some (atK ks vs k).isSome
    | none => none
  | _, _ => none
def dicD (ks : List Key) (vs : List I) (x : I) : Option I := match keyI x with
  | some k => atK ks vs k
  | none => none
def ixD : I → I → Option I
  | .scr ns, .int k => (atI ns k).map .int
  | .lst xs, .int k => atI xs k
  | .tup xs, .int k => atI xs k
  | .wtp xs, .int k => atI xs k
  | .str z, .int k => if z.length ≤ sizeLine then (atI z.cps.toList k).map fun c => .str ⟨#[c]⟩ else none
  | .dic ks vs, x => dicD ks vs x
  | .dit ks vs, .tup x => match keysI x with
    | some k => atK ks vs k
    | none => none
  | _, _ => none
def cut {α : Type} (xs : List α) (lo hi : Option Int) : List α := (xs.drop (HT.sIx xs.length 0 lo)).take (HT.sIx xs.length xs.length hi - HT.sIx xs.length 0 lo)
def sliceD : I → Option Int → Option Int → Option I
  | .lst xs, lo, hi => some (.lst (cut xs lo hi))
  | .tup xs, lo, hi => some (.tup (cut xs lo hi))
  | .str z, lo, hi => if z.length ≤ sizeLine then some (.str (cutS z lo hi)) else none
  | .scr ns, lo, hi => some (.lst (cut (ns.map .int) lo hi))
  | _, _, _ => none
def lenD : I → Option I
  | .scr ns => some (.int ns.length)
  | .lst xs => some (.int xs.length)
  | .tup xs => some (.int xs.length)
  | .wtp xs => some (.int xs.length)
  | .dic ks _ => some (.int ks.length)
  | .str s => if s.length ≤ sizeLine then some (.int s.length) else none
  | _ => none
def revD : I → Option I
  | .lst xs => some (.lst xs.reverse)
  | _ => none
def revT : I → Option I
  | .tup xs => some (.tup xs.reverse)
  | _ => none
def intI : I → Option Int
  | .int n => some n
  | _ => none
def strI : I → Option Str
  | .str n => some n
  | _ => none

def opD : Op → List I → Option I
  | .add, [a, b] => addD a b
  | .sub, [a, b] => subD a b
  | .mul, [a, b] => mulD a b
  | .fdiv, [a, b] => fdivD a b
  | .mod, [a, b] => modD a b
  | .pow, [a, b] => powD a b
  | .neg, [a] => negD a
  | .eq, [a, b] => (eqD a b).map .bl
  | .ne, [a, b] => (eqD a b).map fun r => .bl (!r)
  | .lt, [a, b] => cmpI (fun i j => decide (i < j)) (fun i j => some (decide (i < j))) a b
  | .le, [a, b] => cmpI (fun i j => decide (i ≤ j)) (fun _ _ => none) a b
  | .gt, [a, b] => cmpI (fun i j => decide (j < i)) (fun _ _ => none) a b
  | .ge, [a, b] => cmpI (fun i j => decide (j ≤ i)) (fun _ _ => none) a b
  | .isN, [a] => isN a
  | .notN, [a] => (isN a).bind fun r => match r with
    | .bl b => some (.bl (!b))
    | _ => none
  | .isB ng b, [a] => (isBo b a).map fun r => .bl (if ng then !r else r)
  | .inn, [a, b] => (innD a b).map .bl
  | .notin, [a, b] => (innD a b).map fun r => .bl (!r)
  | .ix, [a, b] => ixD a b
  | .slice false false, [a] => sliceD a none none
  | .slice true false, [a, b] => match b with
    | .int lo => sliceD a (some lo) none
    | _ => none
  | .slice false true, [a, b] => match b with
    | .int hi => sliceD a none (some hi)
    | _ => none
  | .rev, [a] => revD a
  | .revT, [a] => revT a
  | .len, [a] => lenD a
  | .abs, [a] => match a with
    | .int n => some (.int (if n < 0 then -n else n))
    | _ => none
  | .sum, [a] => match a with
    | .lst xs => (intsI xs).map fun ns => .int ns.sum
    | _ => none
  | .tuple, [a] => match a with
    | .lst xs => some (.tup xs)
    | .tup xs => some (.tup xs)
    | _ => none
  | .list, [a] => match a with
    | .lst xs => some (.lst xs)
    | .tup xs => some (.lst xs)
    | _ => none
  | .int, [a] => match a with
    | .int n => some (.int n)
    | .bl b => some (.int (if b then 1 else 0))
    | _ => none
  | .str, [a] => match a with
    | .int n => if n.natAbs.log2 < 1920 then some (.str (toString n)) else none
    | .str s => some (.str s)
    | _ => none
  | .bool, [a] => match a with
    | .int n => some (.bl (n != 0))
    | .bl b => some (.bl b)
    | _ => none
  | .all, [a] => match a with
    | .lst xs => (boolsI xs).map fun bs => .bl (bs.all id)
    | _ => none
  | .any, [a] => match a with
    | .lst xs => (boolsI xs).map fun bs => .bl (bs.any id)
    | _ => none
  | .min, [a, b] => match a, b with
    | .int m, .int n => some (.int (if n < m then n else m))
    | _, _ => none
  | .max, [a, b] => match a, b with
    | .int m, .int n => some (.int (if m < n then n else m))
    | _, _ => none
  | .isT t, [a] => (isTy a t).map .bl
  | _, _ => none
/-- operations that look at all that their parts hold -/
def Op.deep : Op → Bool
  | .eq => true | .ne => true | .inn => true | .notin => true | .repr => true
  | _ => false
/-- operations whose list is a new one -/
def Op.makes : Op → Bool
  | .add => true | .mul => true | .slice _ _ => true | .rev => true | .list => true | .sorted => true
  | _ => false
def prep (o : Op) (M : Mem) (vs : List I) : Option (List I) := if o.deep then vs.mapM (frz M dpt) else some (vs.map (sh M))
def opM (o : Op) (M : Mem) (vs : List I) : Option I := (prep o M vs).bind (opD o)

/-- the receiver of a method -/
def recv : Mth → I → Bool
  | .join, .str _ => true
  | .split, .str _ => true
  | .get1, .dic _ _ => true
  | .get2, .dic _ _ => true
  | .index, .lst _ => true
  | _, _ => false
/-- the first place of a thing -/
def firstAt (ds : List PyData) (d : PyData) : Option Nat := ds.findIdx? fun z => PyData.eqv z d
def mthD (M : Mem) : Mth → I → List I → Option I
  | .join, .str s, [b] => match sh M b with
    | .lst ys => (strsI ys).bind fun zs => if (zs.map (·.length)).sum + zs.length * s.length ≤ 16777216 then some (.str (Txt.join s zs)) else none
    | _ => none
  | .split, .str s, [.str t] => if (t.length == 0) = false ∧ s.length + 2 ≤ sizeLine then some (.lst ((Txt.split s t).map .str)) else none
  | .get1, a, [b] => match sh M a with
    | .dic ks vs => (keyI b).map fun k => (atK ks vs k).getD .non
    | _ => none
  | .get2, a, [b, c] => match sh M a with
    | .dic ks vs => (keyI b).map fun k => (atK ks vs k).getD c
    | _ => none
  | .index, a, [b] => match frz M dpt a, frz M dpt b with
    | some (.lst ys), some z => if (I.lst ys).fit && z.fit then (firstAt (I.pys ys) z.py).map fun (n : Nat) => I.int (n : Int) else none
    | _, _ => none
  | _, _, _ => none

/-! ### results -/
inductive R (α : Type) where
  | ok (a : α) (M : Mem) | ex (c : Nat) (M : Mem) | no
def R.bind {α β : Type} (r : R α) (f : α → Mem → R β) : R β := match r with
  | .ok a M => f a M
  | .ex c M => .ex c M
  | .no => .no
def R.of {α : Type} (o : Option α) (M : Mem) : R α := match o with
  | some a => .ok a M
  | none => .no
/-- what may not raise -/
def R.calm {α : Type} : R α → R α
  | .ok a M => .ok a M
  | _ => .no
abbrev Oracle := Nat → List I → Mem → R I

/-! ### the language -/
mutual
inductive C where
  | const (x : I)
  | glob (x : Str) (v : I)
  | var (i : Nat)
  | op (o : Op) (as : Cs)
  | disp (t : Bool) (as : Cs)
  | cell (c : C)
  | dict (t : Bool)
  | call (f : Nat) (as : Cs)
  | callk (f : Nat) (ord : List Nat) (as : Cs)
  | and (a b : C)
  | or (a b : C)
  | not (a : C)
  | ife (t a b : C)
  | chain (o p : Op) (a b c : C)
  | sl2 (a b c : C)
  | meth (m : Mth) (o : C) (as : Cs)
  | comp (own : List Nat) (elt : C) (g : Tg) (it : It) (ifs : Cs)
  | app (o a : C)
  | pop (o : C)
  | ext (o a : C)
inductive Cs where
  | nil
  | cons (c : C) (cs : Cs)
/-- targets -/
inductive Tg where
  | nm (i : Nat)
  | tup (ts : Tgs)
inductive Tgs where
  | nil
  | cons (t : Tg) (ts : Tgs)
/-- what a loop walks -/
inductive It where
  | seq (c : C)
  | range (as : Cs)
  | enum (c : C)
  | zip (a b : C)
end
mutual
inductive S where
  | asg (g : Tg) (e : C)
  | ex (c : C)
  | aug (i : Nat) (o : Op) (c : C)
  | seti (o ix e : C)
  | cond (t : C) (a b : Ss)
  | loop (t : C) (b : Ss)
  | each (g : Tg) (it : It) (b : Ss)
  | ret (e : C)
  | retN
  | pass
  | brk
  | cont
  | raise (c : Nat)
  | stuck
inductive Ss where
  | nil
  | cons (s : S) (ss : Ss)
end

/-! ### the evaluator -/
def asgI (i : Nat) (v : I) (τ : Env) : Option Env := if i < τ.length then some (τ.set i (some v)) else none
mutual
def asgT : Tg → I → Env → Option Env
  | .nm i, v, τ => asgI i v τ
  | .tup ts, .tup xs, τ => asgTs ts xs τ
  | .tup ts, .wtp xs, τ => asgTs ts xs τ
  | .tup _, _, _ => none
def asgTs : Tgs → List I → Env → Option Env
  | .nil, [], τ => some τ
  | .cons t ts, v :: vs, τ => (asgT t v τ).bind fun τ1 => asgTs ts vs τ1
  | _, _, _ => none
end
def wipeE (own : List Nat) (τ : Env) : Env := own.foldr (fun i τ => τ.set i none) τ

/-- what one walks: items that stay, or a cell's list -/
inductive Src where
  | vals (xs : List I) | cell (n : Nat)
def seqItems (M : Mem) : I → Option Src
  | .tup xs => some (.vals xs)
  | .wtp xs => some (.vals xs)
  | .str s => some (.vals (s.cps.toList.map fun c => .str ⟨#[c]⟩))
  | .scr ns => some (.vals (ns.map .int))
  | .lst xs => some (.vals xs)
  | .obj n => match M[n]? with
    | some (.lst _) => some (.cell n)
    | _ => none
  | _ => none
def rangeItems : List I → Option (List I)
  | [.int n] => if -(2 ^ 62) ≤ n ∧ n < 2 ^ 62 then some ((List.range n.toNat).map fun k : Nat => .int (k : Int)) else none
  | [.int a, .int b] => if -(2 ^ 62) ≤ a ∧ a < 2 ^ 62 ∧ -(2 ^ 62) ≤ b ∧ b < 2 ^ 62 then some ((List.range (b - a).toNat).map fun k : Nat => .int (a + (k : Int))) else none
  | _ => none
def listItems : I → Option (List I)
  | .tup xs => some xs
  | .lst xs => some xs
  | _ => none
def sameKind : I → I → Bool
  | .tup _, .tup _ => true
  | .lst _, .lst _ => true
  | _, _ => false
def enumI : Nat → List I → List I
  | _, [] => []
  | k, x :: xs => .tup [.int (k : Int), x] :: enumI (k + 1) xs
def zipI : List I → List I → List I
  | x :: xs, y :: ys => .tup [x, y] :: zipI xs ys
  | _, _ => []

def compL (g : I → Mem → R (Option I)) : List I → List I → Mem → R (List I)
  | [], acc, M => .ok acc M
  | v :: vs, acc, M => match g v M with
    | .ok (some d) M1 => if acc.length < sizeLine then compL g vs (acc ++ [d]) M1 else .no
    | .ok none M1 => compL g vs acc M1
    | _ => .no
def cellItem (M : Mem) (n i : Nat) : Option (Option I) := match M[n]? with
  | some (.lst xs) => some xs[i]?
  | _ => none
def compG (nth : Mem → Nat → Option (Option I)) (g : I → Mem → R (Option I)) : Nat → Nat → List I → Mem → R (List I)
  | 0, _, _, _ => .no
  | w + 1, i, acc, M => match nth M i with
    | some none => .ok acc M
    | some (some v) => match g v M with
      | .ok (some d) M1 => if acc.length < sizeLine then compG nth g w (i + 1) (acc ++ [d]) M1 else .no
      | .ok none M1 => compG nth g w (i + 1) acc M1
      | _ => .no
    | none => .no
/-- a display -/
def dispD (t : Bool) (vs : List I) : Option I := if vs.length ≤ 1000 then some (if t then .tup vs else .lst vs) else none
def toCell : I → Option Cell
  | .lst xs => some (.lst xs)
  | .dic ks xs => some (.dic ks xs)
  | .dit ks xs => some (.dit ks xs)
  | _ => none
mutual
def evE (Φ : Oracle) : C → Env → Mem → R I
  | .const x, _, M => .ok x M
  | .glob _ v, _, M => .ok v M
  | .var i, τ, M => match τ[i]? with
    | some (some x) => .ok x M
    | _ => .no
  | .op o as, τ, M => (evEs Φ as τ M).bind fun vs M1 => .of (opM o M1 vs) M1
  | .disp t as, τ, M => (evEs Φ as τ M).bind fun vs M1 => .of (dispD t vs) M1
  | .cell c, τ, M => (evE Φ c τ M).bind fun v M1 => match toCell v with
    | some cc => .ok (.obj M1.length) (M1 ++ [cc])
    | none => .no
  | .dict t, _, M => .ok (if t then .dit [] [] else .dic [] []) M
  | .call f as, τ, M => (evEs Φ as τ M).bind fun vs M1 => Φ f vs M1
  | .callk f ord as, τ, M => (evEs Φ as τ M).bind fun vs M1 => match ord.mapM fun j => vs[j]? with
    | some us => if us.length = vs.length then Φ f us M1 else .no
    | none => .no
  | .and a b, τ, M => (evE Φ a τ M).bind fun v M1 => match truth (sh M1 v) with
    | some true => evE Φ b τ M1
    | some false => .ok v M1
    | none => .no
  | .or a b, τ, M => (evE Φ a τ M).bind fun v M1 => match truth (sh M1 v) with
    | some true => .ok v M1
    | some false => evE Φ b τ M1
    | none => .no
  | .not a, τ, M => (evE Φ a τ M).bind fun v M1 => .of ((truth (sh M1 v)).map fun b => .bl !b) M1
  | .ife t a b, τ, M => (evE Φ t τ M).bind fun v M1 => match truth (sh M1 v) with
    | some true => evE Φ a τ M1
    | some false => evE Φ b τ M1
    | none => .no
  | .chain o p a b c, τ, M => (evE Φ a τ M).bind fun x M1 => (evE Φ b τ M1).bind fun y M2 => match opM o M2 [x, y] with
    | some (.bl true) => (evE Φ c τ M2).bind fun z M3 => .of (opM p M3 [y, z]) M3
    | some (.bl false) => .ok (.bl false) M2
    | _ => .no
  | .sl2 a b c, τ, M => (evE Φ a τ M).bind fun x M1 => (evE Φ b τ M1).bind fun y M2 => match y with
    | .int lo => (evE Φ c τ M2).bind fun z M3 => match z with
      | .int hi => .of (sliceD (sh M3 x) (some lo) (some hi)) M3
      | _ => .no
    | _ => .no
  | .meth m o as, τ, M => (evE Φ o τ M).bind fun v M1 => if recv m (sh M1 v) then (evEs Φ as τ M1).bind fun vs M2 => .of (mthD M2 m v vs) M2 else .no
  | .comp own elt g it ifs, τ, M => (evIt Φ it τ M).bind fun src M1 =>
    let f : I → Mem → R (Option I) := fun v M2 => match asgT g v (wipeE own τ) with
      | some τ2 => match evT Φ ifs τ2 M2 with
        | .ok true M3 => match evE Φ elt τ2 M3 with
          | .ok d M4 => .ok (some d) M4
          | _ => .no
        | .ok false M3 => .ok none M3
        | _ => .no
      | none => .no
    match src with
    | .vals xs => (compL f xs [] M1).bind fun r M2 => .ok (.lst r) M2
    | .cell n => (compG (cellItem · n) f 1000000 0 [] M1).bind fun r M2 => .ok (.lst r) M2
  | .app o a, τ, M => (evE Φ o τ M).bind fun v M1 => match v with
    | .obj n => match M1[n]? with
      | some (.lst _) => (evE Φ a τ M1).bind fun d M2 => match M2[n]? with
        | some (.lst xs) => if xs.length < sizeLine then .ok .non (M2.set n (.lst (xs ++ [d]))) else .no
        | _ => .no
      | _ => .no
    | _ => .no
  | .pop o, τ, M => (evE Φ o τ M).bind fun v M1 => match v with
    | .obj n => match M1[n]? with
      | some (.lst xs) => match xs.getLast? with
        | some d => .ok d (M1.set n (.lst xs.dropLast))
        | none => .no
      | _ => .no
    | _ => .no
  | .ext o a, τ, M => (evE Φ o τ M).bind fun v M1 => match v with
    | .obj n => match M1[n]? with
      | some (.lst _) => (evE Φ a τ M1).bind fun d M2 => match M2[n]? with
        | some (.lst xs) => match sh M2 d with
          | .lst ys => if xs.length + ys.length ≤ sizeLine then .ok .non (M2.set n (.lst (xs ++ ys))) else .no
          | _ => .no
        | _ => .no
      | _ => .no
    | _ => .no
def evEs (Φ : Oracle) : Cs → Env → Mem → R (List I)
  | .nil, _, M => .ok [] M
  | .cons c cs, τ, M => (evE Φ c τ M).bind fun v M1 => (evEs Φ cs τ M1).bind fun vs M2 => .ok (v :: vs) M2
/-- tests of a comprehension, one behind the other -/
def evT (Φ : Oracle) : Cs → Env → Mem → R Bool
  | .nil, _, M => .ok true M
  | .cons c cs, τ, M => (evE Φ c τ M).bind fun v M1 => match truth (sh M1 v) with
    | some true => evT Φ cs τ M1
    | some false => .ok false M1
    | none => .no
def evIt (Φ : Oracle) : It → Env → Mem → R Src
  | .seq c, τ, M => (evE Φ c τ M).bind fun v M1 => .of (seqItems M1 v) M1
  | .range as, τ, M => (evEs Φ as τ M).bind fun vs M1 => .of ((rangeItems vs).map .vals) M1
  | .enum c, τ, M => (evE Φ c τ M).bind fun v M1 => .of ((listItems v).map fun xs => .vals (enumI 0 xs)) M1
  | .zip a b, τ, M => (evE Φ a τ M).bind fun v M1 => (evE Φ b τ M1).bind fun u M2 => match listItems v, listItems u with
    | some xs, some ys => if sameKind v u then .ok (.vals (zipI xs ys)) M2 else .no
    | _, _ => .no
end

/-- one item of a comprehension -/
def compP (Φ : Oracle) (own : List Nat) (elt : C) (g : Tg) (ifs : Cs) (τ : Env) : I → Mem → R (Option I) := fun v M2 => match asgT g v (wipeE own τ) with
      | some τ2 => match evT Φ ifs τ2 M2 with
        | .ok true M3 => match evE Φ elt τ2 M3 with
          | .ok d M4 => .ok (some d) M4
          | _ => .no
        | .ok false M3 => .ok none M3
        | _ => .no
      | none => .no

/-! ### statements -/
inductive Out where
  | nx (τ : Env) (M : Mem)
  | ret (v : I) (M : Mem)
  | brk (τ : Env) (M : Mem)
  | cont (τ : Env) (M : Mem)
  | ex (c : Nat) (τ : Env) (M : Mem)
/-- .. behind an expression's result -/
def R.out {α : Type} (r : R α) (τ : Env) (f : α → Mem → Option Out) : Option Out := match r with
  | .ok a M => f a M
  | .ex c M => some (.ex c τ M)
  | .no => none
def loopW (t : Env → Mem → R I) (b : Env → Mem → Option Out) : Nat → Env → Mem → Option Out
  | 0, _, _ => none
  | n + 1, τ, M => (t τ M).out τ fun v M1 => match truth (sh M1 v) with
    | some true => match b τ M1 with
      | some (.nx τ2 M2) => loopW t b n τ2 M2
      | some (.cont τ2 M2) => loopW t b n τ2 M2
      | some (.brk τ2 M2) => some (.nx τ2 M2)
      | r => r
    | some false => some (.nx τ M1)
    | none => none
def eachL (g : Tg) (b : Env → Mem → Option Out) : List I → Env → Mem → Option Out
  | [], τ, M => some (.nx τ M)
  | v :: vs, τ, M => match asgT g v τ with
    | some τ1 => match b τ1 M with
      | some (.nx τ2 M2) => eachL g b vs τ2 M2
      | some (.cont τ2 M2) => eachL g b vs τ2 M2
      | some (.brk τ2 M2) => some (.nx τ2 M2)
      | r => r
    | none => none
def eachG (nth : Mem → Nat → Option (Option I)) (g : Tg) (b : Env → Mem → Option Out) : Nat → Nat → Env → Mem → Option Out
  | 0, _, _, _ => none
  | w + 1, i, τ, M => match nth M i with
    | some none => some (.nx τ M)
    | some (some v) => match asgT g v τ with
      | some τ1 => match b τ1 M with
        | some (.nx τ2 M2) => eachG nth g b w (i + 1) τ2 M2
        | some (.cont τ2 M2) => eachG nth g b w (i + 1) τ2 M2
        | some (.brk τ2 M2) => some (.nx τ2 M2)
        | r => r
      | none => none
    | none => none
def putAt (xs : List I) (k : Int) (d : I) : Option (List I) := (ixN xs.length k).map fun j => xs.set j d
def putV {κ : Type} [DecidableEq κ] : List κ → List I → κ → I → List I
  | k :: ks, x :: xs, j, d => (if k = j then d else x) :: putV ks xs j d
  | _, xs, _, _ => xs
def putK {κ : Type} [DecidableEq κ] (ks : List κ) (xs : List I) (j : κ) (d : I) : List κ × List I :=
  if (ks.any fun k => decide (k = j)) = true then (ks, putV ks xs j d) else (ks ++ [j], xs ++ [d])
def setC : Cell → I → I → Option Cell
  | .lst xs, .int k, d => (putAt xs k d).map .lst
  | .dic ks xs, x, d => match keyI x with
    | some k => if ks.length < sizeLine then some (.dic (putK ks xs k d).1 (putK ks xs k d).2) else none
    | none => none
  | .dit ks xs, .tup x, d => match keysI x with
    | some k => if ks.length < sizeLine then some (.dit (putK ks xs k d).1 (putK ks xs k d).2) else none
    | none => none
  | _, _, _ => none
mutual
def evS (Φ : Oracle) (W : Nat) : S → Env → Mem → Option Out
  | .asg g e, τ, M => (evE Φ e τ M).out τ fun v M1 => (asgT g v τ).map fun τ2 => .nx τ2 M1
  | .ex c, τ, M => (evE Φ c τ M).out τ fun _ M1 => some (.nx τ M1)
  | .aug i o c, τ, M => match τ[i]? with
    | some (some (.int x)) => (evE Φ c τ M).out τ fun v M1 => match v with
      | .int y => match o with
        | .add => some (.nx (τ.set i (some (.int (x + y)))) M1)
        | .sub => some (.nx (τ.set i (some (.int (x - y)))) M1)
        | _ => none
      | _ => none
    | _ => none
  | .seti o ix e, τ, M => (evE Φ e τ M).out τ fun d M1 => (evE Φ o τ M1).out τ fun v M2 => (evE Φ ix τ M2).out τ fun k M3 => match v with
    | .obj n => match M3[n]? with
      | some c => (setC c k d).map fun c' => .nx τ (M3.set n c')
      | none => none
    | _ => none
  | .cond t a b, τ, M => (evE Φ t τ M).out τ fun v M1 => match truth (sh M1 v) with
    | some true => evSs Φ W a τ M1
    | some false => evSs Φ W b τ M1
    | none => none
  | .loop t b, τ, M => loopW (evE Φ t) (evSs Φ W b) W τ M
  | .each g it b, τ, M => (evIt Φ it τ M).out τ fun src M1 => match src with
    | .vals xs => eachL g (evSs Φ W b) xs τ M1
    | .cell n => eachG (cellItem · n) g (evSs Φ W b) W 0 τ M1
  | .ret e, τ, M => (evE Φ e τ M).out τ fun v M1 => some (.ret v M1)
  | .retN, _, M => some (.ret .non M)
  | .pass, τ, M => some (.nx τ M)
  | .brk, τ, M => some (.brk τ M)
  | .cont, τ, M => some (.cont τ M)
  | .raise c, τ, M => some (.ex c τ M)
  | .stuck, _, _ => none
def evSs (Φ : Oracle) (W : Nat) : Ss → Env → Mem → Option Out
  | .nil, τ, M => some (.nx τ M)
  | .cons s ss, τ, M => match evS Φ W s τ M with
    | some (.nx τ1 M1) => evSs Φ W ss τ1 M1
    | r => r
end

/-! ### defs -/
structure Fn where
  np : Nat
  ns : Nat
  body : Ss
  /-- it runs in its caller's cells -/
  full : Bool
  /-- the parameters whose cells it may write -/
  mt : List Nat
def objI : I → Option Nat
  | .obj n => some n
  | _ => none
def Cell.flat : Cell → Bool
  | .lst xs => I.flats xs
  | .dic _ xs => I.flats xs
  | .dit _ xs => I.flats xs
  | .ins _ _ => false
def Cell.solid : Cell → Bool
  | .lst xs => I.solids xs
  | .dic _ xs => I.solids xs
  | .dit _ xs => I.solids xs
  | .ins _ _ => false
/-- the cells ns are not to be looked at -/
def mask (ns : List Nat) (M : Mem) : Mem := ns.foldr (fun n M => M.set n (.ins 0 [])) M
/-- arguments as the callee sees them -/
def inArgs (mt : List Nat) (M : Mem) : Nat → List I → Option (List I)
  | _, [] => some []
  | i, v :: vs => (if mt.contains i then (mt.idxOf? i).map I.obj else frz M dpt v).bind fun u => (inArgs mt M (i + 1) vs).map (u :: ·)
def frzC (M : Mem) : Cell → Option Cell
  | .lst xs => (xs.mapM (frz M dpt)).map .lst
  | .dic ks xs => (xs.mapM (frz M dpt)).map (.dic ks)
  | .dit ks xs => (xs.mapM (frz M dpt)).map (.dit ks)
  | .ins _ _ => none
def putCells : List Nat → List Cell → Mem → Mem
  | n :: ns, c :: cs, M => putCells ns cs (M.set n c)
  | _, _, M => M
def outVal (ns : List Nat) (M1 : Mem) (v : I) : Option I := match (objI v).bind (ns[·]?) with
  | some n => some (.obj n)
  | none => frz (mask (List.range ns.length) M1) dpt v
/-- behind the callee: what it hands back, the cells that it was handed -/
def outRes (ns : List Nat) (lent : Bool) (r : Option I) (M1 : Mem) (M : Mem) : Option (Option I × Mem) :=
  match (M1.take ns.length).mapM (frzC (mask (List.range ns.length) M1)) with
  | some cs => if cs.length = ns.length ∧ (lent = true → cs.all Cell.solid = true) then
      match r with
      | none => some (none, putCells ns cs M)
      | some v => match outVal ns M1 v with
        | some u => if lent = true ∧ u.solid = false ∧ (objI u).isNone then none else some (some u, putCells ns cs M)
        | none => none
    else none
  | none => none
def evCall (P : Nat → Option Fn) (W : Nat) : Nat → Oracle
  | 0, _, _, _ => .no
  | k + 1, f, args, M => match P f with
    | some fn => if args.length = fn.np then
        if fn.full then
          match evSs (evCall P W k) W fn.body (args.map some ++ List.replicate (fn.ns - fn.np) none) M with
          | some (.nx _ M1) => .ok .non M1
          | some (.ret v M1) => .ok v M1
          | some (.ex c _ M1) => .ex c M1
          | _ => .no
        else match fn.mt.mapM fun i => (args[i]?).bind objI with
          | some ns => match ns.mapM (M[·]?), inArgs fn.mt (mask ns M) 0 args with
            | some cs, some us => if ns.Nodup ∧ cs.all Cell.flat = true then
                let lent := !(I.flats ((List.range args.length).filterMap fun i => if fn.mt.contains i then none else args[i]?))
                match evSs (evCall P W k) W fn.body (us.map some ++ List.replicate (fn.ns - fn.np) none) cs with
                | some (.nx _ M1) => match outRes ns lent (some .non) M1 M with
                  | some (some v, M2) => .ok v M2
                  | _ => .no
                | some (.ret v M1) => match outRes ns lent (some v) M1 M with
                  | some (some v, M2) => .ok v M2
                  | _ => .no
                | some (.ex c _ M1) => match outRes ns lent none M1 M with
                  | some (_, M2) => .ex c M2
                  | none => .no
                | _ => .no
              else .no
            | _, _ => .no
          | none => .no
      else .no
    | none => .no
end Rs

/-! second layer, part b: how the abstract heap holds values; how it may go on -/
namespace Rs
open PySem PySem.Spec PyProof.Rows L2

/-- the written part; where the classes stand, and those of exceptions -/
structure Kx where
  K : PySem.W.Frag
  cl : Nat → Addr
  xc : Nat → Addr
/-- neither a cell nor held elsewhere -/
def Fr (F : Addr → Prop) (ι : List Addr) (a : Addr) : Prop := a ∉ ι ∧ ¬ F a
/-- a list that is only read -/
def Scr (K : PySem.W.Frag) (ι : List Addr) (H : Hp) (a : Addr) (xs : List V) : Prop :=
  (∃ o, H a = some (.frz o (.lst xs)) ∧ a ∉ ι) ∨
    ∃ (o : Obj) (its : Array Value) (n : Nat), K.lookup a = some o ∧ o.cls = .type "list" ∧ o.dict = none ∧ o.data = .seq its n ∧ its.size ≤ sizeLine ∧ Vals xs its.toList
theorem Scr.sq {K : PySem.W.Frag} {ι : List Addr} {H : Hp} {a : Addr} {xs : List V} (h : Scr K ι H a xs) : SqL K H a xs := by
  rcases h with ⟨o, h, _⟩ | h
  · exact .inl (.inr ⟨o, h⟩)
  · exact .inr h
mutual
inductive IsI (k : Kx) (F : Addr → Prop) (ι : List Addr) (H : Hp) : V → I → Prop
  | non : IsI k F ι H .non .non
  | bl (b : Bool) : IsI k F ι H (.bl b) (.bl b)
  | int (i : Int) : IsI k F ι H (.int i) (.int i)
  | str (s : Str) : IsI k F ι H (.str s) (.str s)
  | tup {a : Addr} {xs : List V} {ys : List I} : H a = some (.tup xs) → IsIs k F ι H xs ys → IsI k F ι H (.ref a) (.tup ys)
  | wtp {a : Addr} {xs : List V} {ys : List I} : SqT k.K H a xs → IsIs k F ι H xs ys → IsI k F ι H (.ref a) (.wtp ys)
  | lst {a : Addr} {xs : List V} {ys : List I} : H a = some (.lst xs) → Fr F ι a → IsIs k F ι H xs ys → IsI k F ι H (.ref a) (.lst ys)
  | dic {a : Addr} {kvs : List (Key × V)} {ks : List Key} {ys : List I} : H a = some (.dK kvs) → Fr F ι a → kvs.map (·.1) = ks → IsIs k F ι H (kvs.map (·.2)) ys → IsI k F ι H (.ref a) (.dic ks ys)
  | dit {a : Addr} {kvs : List (List Key × V)} {ks : List (List Key)} {ys : List I} : H a = some (.dT kvs) → Fr F ι a → kvs.map (·.1) = ks → IsIs k F ι H (kvs.map (·.2)) ys → IsI k F ι H (.ref a) (.dit ks ys)
  | scr {a : Addr} {ns : List Int} : Scr k.K ι H a (ns.map V.int) → IsI k F ι H (.ref a) (.scr ns)
  | obj {n : Nat} {a : Addr} : ι[n]? = some a → IsI k F ι H (.ref a) (.obj n)
inductive IsIs (k : Kx) (F : Addr → Prop) (ι : List Addr) (H : Hp) : List V → List I → Prop
  | nil : IsIs k F ι H [] []
  | cons {v : V} {vs : List V} {x : I} {xs : List I} : IsI k F ι H v x → IsIs k F ι H vs xs → IsIs k F ι H (v :: vs) (x :: xs)
end
def CellOk (k : Kx) (F : Addr → Prop) (ι : List Addr) (H : Hp) (a : Addr) : Cell → Prop
  | .lst xs => ∃ vs, H a = some (.lst vs) ∧ IsIs k F ι H vs xs
  | .dic ks xs => ∃ kvs, H a = some (.dK kvs) ∧ kvs.map (·.1) = ks ∧ IsIs k F ι H (kvs.map (·.2)) xs
  | .dit ks xs => ∃ kvs, H a = some (.dT kvs) ∧ kvs.map (·.1) = ks ∧ IsIs k F ι H (kvs.map (·.2)) xs
  | .ins c fs => ∃ dx fvs, H a = some (.ins (k.cl c) dx fvs) ∧ H dx = some (.own a) ∧ fvs.map (·.1) = fs.map (·.1) ∧ IsIs k F ι H (fvs.map (·.2)) (fs.map (·.2))
structure CsOk (k : Kx) (F : Addr → Prop) (ι : List Addr) (H : Hp) (M : Mem) : Prop where
  li : ι.length = M.length
  nd : ι.Nodup
  fd : ∀ a, F a → H a ≠ none
  ce : ∀ (n : Nat) (c : Cell) (a : Addr), M[n]? = some c → ι[n]? = some a → CellOk k F ι H a c
/-- how the heap goes on: only cells may change -/
structure Stp (k : Kx) (ι : List Addr) (H : Hp) (ι' : List Addr) (H' : Hp) : Prop where
  ip : ι <+: ι'
  kp : ∀ a o, H a = some o → a ∉ ι → H' a = some o
  tp : ∀ a xs, SqT k.K H a xs → SqT k.K H' a xs
  tt : ∀ a xs, H a = some (.tup xs) → H' a = some (.tup xs)
  ow : ∀ a x, H a = some (.own x) → H' a = some (.own x)
  dm : ∀ a, H' a = none → H a = none
  nw : ∀ a ∈ ι', a ∈ ι ∨ H a = none
structure SOk (k : Kx) (F : Addr → Prop) (ι : List Addr) (H : Hp) (σ : L2.St) (τ : Env) (M : Mem) : Prop where
  len : σ.length = τ.length
  sl : ∀ (i : Nat) (x : I), τ[i]? = some (some x) → ∃ v, σ[i]? = some (some v) ∧ IsI k F ι H v x
  cs : CsOk k F ι H M

section
variable {k : Kx} {F F' : Addr → Prop} {ι ι' ι'' : List Addr} {H H' H'' : Hp} {M M' : Mem} {σ : L2.St} {τ : Env}
theorem Stp.refl : Stp k ι H ι H := ⟨List.prefix_refl _, fun _ _ h _ => h, fun _ _ h => h, fun _ _ h => h, fun _ _ h => h, fun _ h => h, fun _ h => .inl h⟩
theorem Stp.trans (a : Stp k ι H ι' H') (b : Stp k ι' H' ι'' H'') : Stp k ι H ι'' H'' :=
  ⟨a.ip.trans b.ip, fun x o h n => b.kp x o (a.kp x o h n) fun m => (a.nw x m).elim n fun z => (by rw [h] at z; cases z),
   fun x xs h => b.tp x xs (a.tp x xs h), fun x xs h => b.tt x xs (a.tt x xs h), fun x y h => b.ow x y (a.ow x y h), fun x h => a.dm x (b.dm x h), fun x m => (b.nw x m).elim (fun z => a.nw x z) fun z => .inr (a.dm x z)⟩
theorem upd_some {H : Hp} {p : Addr} {o : HO} {a : Addr} {u : HO} (h : H a = some u) (hp : H p = none) : upd H p o a = some u := by
  rw [upd_ne (ne_of_none h hp)]; exact h
theorem SqT.upd {K : PySem.W.Frag} {H : Hp} {p : Addr} {o : HO} (hp : H p = none) {a : Addr} {xs : List V} (h : SqT K H a xs) : SqT K (L2.upd H p o) a xs := by
  rcases h with (h | ⟨ob, h⟩) | h
  · exact .inl (.inl (upd_some h hp))
  · exact .inl (.inr ⟨ob, upd_some h hp⟩)
  · exact .inr h
theorem Stp.new {p : Addr} {o : HO} (hp : H p = none) : Stp k ι H ι (upd H p o) :=
  ⟨List.prefix_refl _, fun _ _ h _ => upd_some h hp, fun _ _ h => SqT.upd hp h, fun _ _ h => upd_some h hp, fun _ _ h => upd_some h hp, fun a h => by
    by_cases e : a = p
    · rw [e]; exact hp
    · rw [upd_ne e] at h; exact h, fun _ h => .inl h⟩
/-- .. as a new cell -/
theorem Stp.newC {p : Addr} {o : HO} (hp : H p = none) : Stp k ι H (ι ++ [p]) (upd H p o) :=
  ⟨List.prefix_append _ _, fun _ _ h _ => upd_some h hp, fun _ _ h => SqT.upd hp h, fun _ _ h => upd_some h hp, fun _ _ h => upd_some h hp, fun a h => by
    by_cases e : a = p
    · rw [e]; exact hp
    · rw [upd_ne e] at h; exact h, fun a h => by
    rcases List.mem_append.mp h with h | h
    · exact .inl h
    · rw [List.mem_singleton.mp h]; exact .inr hp⟩
/-- things that cells hold -/
def Wr : HO → Prop
  | .lst _ => True
  | .dK _ => True
  | .dT _ => True
  | .ins _ _ _ => True
  | _ => False
theorem wr_ne {o u : HO} {p a : Addr} (hp : H p = some o) (hw : Wr o) (h : H a = some u) (hu : ¬ Wr u) : a ≠ p := fun e => by
  rw [e, hp] at h
  cases h
  exact hu hw
theorem SqT.put {K : PySem.W.Frag} {p : Addr} {o o' : HO} (hp : H p = some o) (hw : Wr o) {a : Addr} {xs : List V} (h : SqT K H a xs) : SqT K (L2.upd H p o') a xs := by
  rcases h with (h | ⟨ob, h⟩) | h
  · exact .inl (.inl (by rw [upd_ne (wr_ne hp hw h (fun z => z))]; exact h))
  · exact .inl (.inr ⟨ob, by rw [upd_ne (wr_ne hp hw h (fun z => z))]; exact h⟩)
  · exact .inr h
/-- a cell is written -/
theorem Stp.put {p : Addr} {o o' : HO} (hp : H p = some o) (ho : Wr o) (hw : p ∈ ι) : Stp k ι H ι (upd H p o') :=
  ⟨List.prefix_refl _, fun a u h n => by
    rw [upd_ne (fun e => n (by rw [e]; exact hw))]; exact h, fun _ _ h => SqT.put hp ho h, fun a x h => (by
    rw [upd_ne (wr_ne hp ho h (fun z => z))]; exact h), fun a x h => (by
    rw [upd_ne (wr_ne hp ho h (fun z => z))]; exact h), fun a h => by
    by_cases e : a = p
    · rw [e, upd_same] at h; cases h
    · rw [upd_ne e] at h; exact h, fun _ h => .inl h⟩
theorem get_prefix {n : Nat} {a : Addr} (p : ι <+: ι') (h : ι[n]? = some a) : ι'[n]? = some a := by
  obtain ⟨t, rfl⟩ := p
  have hl := (List.getElem?_eq_some_iff.mp h).1
  rw [List.getElem?_append_left hl]
  exact h
theorem Fr.go (s : Stp k ι H ι' H') {a : Addr} {o : HO} (h : H a = some o) (f : Fr F ι a) : Fr F ι' a := ⟨fun m => (s.nw a m).elim f.1 fun z => (by rw [h] at z; cases z), f.2⟩
theorem Scr.go {a : Addr} {xs : List V} (s : Stp k ι H ι' H') (h : Scr k.K ι H a xs) : Scr k.K ι' H' a xs := by
  rcases h with ⟨o, h, f⟩ | h
  · refine .inl ⟨o, s.kp _ _ h f, fun m => ?_⟩
    rcases s.nw _ m with z | z
    · exact f z
    · rw [h] at z; cases z
  · exact .inr h
mutual
theorem IsI.go (s : Stp k ι H ι' H') : ∀ {v : V} {x : I}, IsI k F ι H v x → IsI k F ι' H' v x
  | _, _, .non => .non
  | _, _, .bl b => .bl b
  | _, _, .int i => .int i
  | _, _, .str s => .str s
  | _, _, .tup h t => .tup (s.tt _ _ h) (IsIs.go s t)
  | _, _, .wtp h t => .wtp (s.tp _ _ h) (IsIs.go s t)
  | _, _, .lst h f t => .lst (s.kp _ _ h f.1) (f.go s h) (IsIs.go s t)
  | _, _, .dic h f e t => .dic (s.kp _ _ h f.1) (f.go s h) e (IsIs.go s t)
  | _, _, .dit h f e t => .dit (s.kp _ _ h f.1) (f.go s h) e (IsIs.go s t)
  | _, _, .scr h => .scr (h.go s)
  | _, _, .obj h => .obj (get_prefix s.ip h)
theorem IsIs.go (s : Stp k ι H ι' H') : ∀ {vs : List V} {xs : List I}, IsIs k F ι H vs xs → IsIs k F ι' H' vs xs
  | _, _, .nil => .nil
  | _, _, .cons h t => .cons (IsI.go s h) (IsIs.go s t)
end
end
end Rs

/-! second layer, part c: values in other surroundings; the state; readings -/
namespace Rs
open PySem PySem.Spec PyProof.Rows L2
section
variable {k : Kx} {F F' : Addr → Prop} {ι ι' ι'' : List Addr} {H H' H'' : Hp} {M M' M'' : Mem} {σ : L2.St} {τ : Env}
theorem IsIs.length : ∀ {vs : List V} {xs : List I}, IsIs k F ι H vs xs → vs.length = xs.length
  | _, _, .nil => rfl
  | _, _, .cons _ t => congrArg (· + 1) (IsIs.length t)
theorem IsIs.append : ∀ {vs us : List V} {xs ys : List I}, IsIs k F ι H vs xs → IsIs k F ι H us ys → IsIs k F ι H (vs ++ us) (xs ++ ys)
  | _, _, _, _, .nil, h => h
  | _, _, _, _, .cons h t, q => .cons h (IsIs.append t q)
theorem IsIs.get : ∀ {vs : List V} {xs : List I} {j : Nat} {x : I}, IsIs k F ι H vs xs → xs[j]? = some x → ∃ v, vs[j]? = some v ∧ IsI k F ι H v x
  | _, _, _, _, .nil, e => by simp at e
  | _, _, 0, _, .cons h _, e => by simp at e; subst e; exact ⟨_, rfl, h⟩
  | _, _, j + 1, x, .cons _ t, e => by
    obtain ⟨v, h1, h2⟩ := IsIs.get (j := j) (x := x) t (by simpa using e)
    exact ⟨v, by simpa using h1, h2⟩
theorem IsIs.drop : ∀ {vs : List V} {xs : List I} (n : Nat), IsIs k F ι H vs xs → IsIs k F ι H (vs.drop n) (xs.drop n)
  | _, _, 0, h => h
  | _, _, _ + 1, .nil => .nil
  | _, _, n + 1, .cons _ t => IsIs.drop n t
theorem IsIs.take : ∀ {vs : List V} {xs : List I} (n : Nat), IsIs k F ι H vs xs → IsIs k F ι H (vs.take n) (xs.take n)
  | _, _, 0, _ => .nil
  | _, _, _ + 1, .nil => .nil
  | _, _, n + 1, .cons h t => .cons h (IsIs.take n t)
theorem IsIs.cut {vs : List V} {xs : List I} (h : IsIs k F ι H vs xs) (lo hi : Option Int) : IsIs k F ι H (cutV vs lo hi) (cut xs lo hi) := by
  unfold cutV Rs.cut
  rw [h.length]
  exact (h.drop _).take _
theorem IsIs.reverse : ∀ {vs : List V} {xs : List I}, IsIs k F ι H vs xs → IsIs k F ι H vs.reverse xs.reverse
  | _, _, .nil => .nil
  | _, _, .cons h t => by
    rw [List.reverse_cons, List.reverse_cons]
    exact (IsIs.reverse t).append (.cons h .nil)
theorem IsIs.set : ∀ {vs : List V} {xs : List I} {v : V} {x : I} (j : Nat), IsIs k F ι H vs xs → IsI k F ι H v x → IsIs k F ι H (vs.set j v) (xs.set j x)
  | _, _, _, _, _, .nil, _ => .nil
  | _, _, _, _, 0, .cons _ t, q => .cons q t
  | _, _, _, _, j + 1, .cons h t, q => .cons h (IsIs.set j t q)
theorem IsIs.dropLast : ∀ {vs : List V} {xs : List I}, IsIs k F ι H vs xs → IsIs k F ι H vs.dropLast xs.dropLast := fun h => by
  rw [List.dropLast_eq_take, List.dropLast_eq_take, h.length]
  exact h.take _
theorem IsIs.mapP {α : Type} {f : α → V} {g : α → I} (h : ∀ a, IsI k F ι H (f a) (g a)) : ∀ xs : List α, IsIs k F ι H (xs.map f) (xs.map g)
  | [] => .nil
  | x :: xs => .cons (h x) (IsIs.mapP h xs)
mutual
theorem IsI.to {F' : Addr → Prop} {ι' : List Addr} (hF : ∀ a, H a ≠ none → Fr F ι a → Fr F' ι' a) (hS : ∀ a o xs, H a = some (.frz o (.lst xs)) → a ∉ ι → a ∉ ι') : ∀ {v : V} {x : I}, IsI k F ι H v x → x.flat = true → IsI k F' ι' H v x
  | _, _, .non, _ => .non
  | _, _, .bl b, _ => .bl b
  | _, _, .int i, _ => .int i
  | _, _, .str s, _ => .str s
  | _, _, .tup h t, f => .tup h (IsIs.to hF hS t (by unfold I.flat at f; exact f))
  | _, _, .wtp h t, f => .wtp h (IsIs.to hF hS t (by unfold I.flat at f; exact f))
  | _, _, .lst h r t, f => .lst h (hF _ (by rw [h]; exact fun z => nomatch z) r) (IsIs.to hF hS t (by unfold I.flat at f; exact f))
  | _, _, .dic h r e t, f => .dic h (hF _ (by rw [h]; exact fun z => nomatch z) r) e (IsIs.to hF hS t (by unfold I.flat at f; exact f))
  | _, _, .dit h r e t, f => .dit h (hF _ (by rw [h]; exact fun z => nomatch z) r) e (IsIs.to hF hS t (by unfold I.flat at f; exact f))
  | _, _, .scr h, _ => .scr (h.imp (fun ⟨o, q, z⟩ => ⟨o, q, hS _ _ _ q z⟩) id)
  | _, _, .obj h, f => by cases f
theorem IsIs.to {F' : Addr → Prop} {ι' : List Addr} (hF : ∀ a, H a ≠ none → Fr F ι a → Fr F' ι' a) (hS : ∀ a o xs, H a = some (.frz o (.lst xs)) → a ∉ ι → a ∉ ι') : ∀ {vs : List V} {xs : List I}, IsIs k F ι H vs xs → I.flats xs = true → IsIs k F' ι' H vs xs
  | _, _, .nil, _ => .nil
  | _, _, .cons h t, f => by
    unfold I.flats at f
    rw [Bool.and_eq_true] at f
    exact .cons (IsI.to hF hS h f.1) (IsIs.to hF hS t f.2)
end
mutual
theorem IsI.F (hF : ∀ a, H a ≠ none → F' a → F a) : ∀ {v : V} {x : I}, IsI k F ι H v x → IsI k F' ι H v x
  | _, _, .non => .non
  | _, _, .bl b => .bl b
  | _, _, .int i => .int i
  | _, _, .str s => .str s
  | _, _, .tup h t => .tup h (IsIs.F hF t)
  | _, _, .wtp h t => .wtp h (IsIs.F hF t)
  | _, _, .lst h r t => .lst h ⟨r.1, fun z => r.2 (hF _ (by rw [h]; exact fun z => nomatch z) z)⟩ (IsIs.F hF t)
  | _, _, .dic h r e t => .dic h ⟨r.1, fun z => r.2 (hF _ (by rw [h]; exact fun z => nomatch z) z)⟩ e (IsIs.F hF t)
  | _, _, .dit h r e t => .dit h ⟨r.1, fun z => r.2 (hF _ (by rw [h]; exact fun z => nomatch z) z)⟩ e (IsIs.F hF t)
  | _, _, .scr h => .scr h
  | _, _, .obj h => .obj h
theorem IsIs.F (hF : ∀ a, H a ≠ none → F' a → F a) : ∀ {vs : List V} {xs : List I}, IsIs k F ι H vs xs → IsIs k F' ι H vs xs
  | _, _, .nil => .nil
  | _, _, .cons h t => .cons (IsI.F hF h) (IsIs.F hF t)
end
mutual
theorem IsI.solid : ∀ {v : V} {x : I}, IsI k F ι H v x → x.solid = true → IsI k F' ι' H v x
  | _, _, .non, _ => .non
  | _, _, .bl b, _ => .bl b
  | _, _, .int i, _ => .int i
  | _, _, .str s, _ => .str s
  | _, _, .tup h t, f => .tup h (IsIs.solid t (by unfold I.solid at f; exact f))
  | _, _, .wtp h t, f => .wtp h (IsIs.solid t (by unfold I.solid at f; exact f))
  | _, _, .lst _ _ _, f => by cases f
  | _, _, .dic _ _ _ _, f => by cases f
  | _, _, .dit _ _ _ _, f => by cases f
  | _, _, .scr _, f => by cases f
  | _, _, .obj _, f => by cases f
theorem IsIs.solid : ∀ {vs : List V} {xs : List I}, IsIs k F ι H vs xs → I.solids xs = true → IsIs k F' ι' H vs xs
  | _, _, .nil, _ => .nil
  | _, _, .cons h t, f => by
    unfold I.solids at f
    rw [Bool.and_eq_true] at f
    exact .cons (IsI.solid h f.1) (IsIs.solid t f.2)
end
theorem mapM_is {f : I → Option I} (h : ∀ x y v, f x = some y → IsI k F ι H v x → IsI k F' ι' H v y) : ∀ {xs ys : List I} {vs : List V}, xs.mapM f = some ys → IsIs k F ι H vs xs → IsIs k F' ι' H vs ys
  | [], ys, vs, e, q => by
    cases e; cases q; exact .nil
  | x :: xs, ys, vs, e, q => by
    rw [List.mapM_cons] at e
    cases e1 : f x with
    | none => rw [e1] at e; cases e
    | some y =>
      cases e2 : xs.mapM f with
      | none => rw [e1, e2] at e; cases e
      | some zs =>
        rw [e1, e2] at e
        cases e
        cases q with
        | cons q t => exact .cons (h _ _ _ e1 q) (mapM_is h e2 t)
/-- what cells hold, read into other surroundings -/
theorem frz_ok {F' : Addr → Prop} {ι' : List Addr} (hF : ∀ a, H a ≠ none → Fr F ι a → Fr F' ι' a) (hS : ∀ a o xs, H a = some (.frz o (.lst xs)) → a ∉ ι → a ∉ ι')
    (hC : ∀ (n : Nat) (c : Cell) (a : Addr), M[n]? = some c → (∀ i fs, c ≠ .ins i fs) → ι[n]? = some a → CellOk k F ι H a c ∧ Fr F' ι' a) :
    ∀ (n : Nat) (x y : I) (v : V), frz M n x = some y → IsI k F ι H v x → IsI k F' ι' H v y
  | 0, x, y, v, e, q => by
    unfold frz at e
    split at e
    · rename_i f
      cases e
      exact q.to hF hS f
    · cases e
  | n + 1, x, y, v, e, q => by
    have ih := frz_ok hF hS hC n
    cases q with
    | non => cases e; exact .non
    | bl b => cases e; exact .bl b
    | int b => cases e; exact .int b
    | str b => cases e; exact .str b
    | scr h => cases e; exact .scr (h.imp (fun ⟨o, q, z⟩ => ⟨o, q, hS _ _ _ q z⟩) id)
    | tup h t =>
      rename_i a xs ys
      have e : (ys.mapM (frz M n)).map I.tup = some y := e
      cases e1 : ys.mapM (frz M n) with
      | none => rw [e1] at e; cases e
      | some zs => rw [e1] at e; cases e; exact .tup h (mapM_is ih e1 t)
    | wtp h t =>
      rename_i a xs ys
      have e : (ys.mapM (frz M n)).map I.wtp = some y := e
      cases e1 : ys.mapM (frz M n) with
      | none => rw [e1] at e; cases e
      | some zs => rw [e1] at e; cases e; exact .wtp h (mapM_is ih e1 t)
    | lst h r t =>
      rename_i a xs ys
      have e : (ys.mapM (frz M n)).map I.lst = some y := e
      cases e1 : ys.mapM (frz M n) with
      | none => rw [e1] at e; cases e
      | some zs => rw [e1] at e; cases e; exact .lst h (hF _ (by rw [h]; exact fun z => nomatch z) r) (mapM_is ih e1 t)
    | dic h r ek t =>
      rename_i a kvs ks ys
      have e : (ys.mapM (frz M n)).map (I.dic ks) = some y := e
      cases e1 : ys.mapM (frz M n) with
      | none => rw [e1] at e; cases e
      | some zs => rw [e1] at e; cases e; exact .dic h (hF _ (by rw [h]; exact fun z => nomatch z) r) ek (mapM_is ih e1 t)
    | dit h r ek t =>
      rename_i a kvs ks ys
      have e : (ys.mapM (frz M n)).map (I.dit ks) = some y := e
      cases e1 : ys.mapM (frz M n) with
      | none => rw [e1] at e; cases e
      | some zs => rw [e1] at e; cases e; exact .dit h (hF _ (by rw [h]; exact fun z => nomatch z) r) ek (mapM_is ih e1 t)
    | obj h =>
      rename_i j a
      unfold frz at e
      split at e
      · rename_i xs e0
        cases e1 : xs.mapM (frz M n) with
        | none => rw [e1] at e; cases e
        | some zs =>
          rw [e1] at e; cases e
          obtain ⟨⟨vs, h1, h2⟩, fr⟩ := hC j _ a e0 (fun _ _ z => nomatch z) h
          exact .lst h1 fr (mapM_is ih e1 h2)
      · rename_i ks xs e0
        cases e1 : xs.mapM (frz M n) with
        | none => rw [e1] at e; cases e
        | some zs =>
          rw [e1] at e; cases e
          obtain ⟨⟨vs, h1, hk, h2⟩, fr⟩ := hC j _ a e0 (fun _ _ z => nomatch z) h
          exact .dic h1 fr hk (mapM_is ih e1 h2)
      · rename_i ks xs e0
        cases e1 : xs.mapM (frz M n) with
        | none => rw [e1] at e; cases e
        | some zs =>
          rw [e1] at e; cases e
          obtain ⟨⟨vs, h1, hk, h2⟩, fr⟩ := hC j _ a e0 (fun _ _ z => nomatch z) h
          exact .dit h1 fr hk (mapM_is ih e1 h2)
      · cases e

/-! ### as the library's data -/
/-- as it is read at once -/
abbrev IsR (k : Kx) (H : Hp) (v : V) (x : I) : Prop := IsI k (fun _ => False) [] H v x
abbrev IsRs (k : Kx) (H : Hp) (v : List V) (x : List I) : Prop := IsIs k (fun _ => False) [] H v x
mutual
theorem IsI.dp : ∀ {v : V} {x : I}, IsI k F ι H v x → x.pure = true → Dp k.K H v x.py
  | _, _, .non, _ => .non
  | _, _, .bl b, _ => .bl b
  | _, _, .int i, _ => .int i
  | _, _, .str s, _ => .str s
  | _, _, .tup h t, p => .tup (.inl (.inl h)) (IsIs.dp t (by unfold I.pure at p; exact p))
  | _, _, .wtp h t, p => .tup h (IsIs.dp t (by unfold I.pure at p; exact p))
  | _, _, .lst h _ t, p => .lst (.inl (.inl h)) (IsIs.dp t (by unfold I.pure at p; exact p))
  | _, _, .dic _ _ _ _, p => by cases p
  | _, _, .dit _ _ _ _, p => by cases p
  | _, _, .scr _, p => by cases p
  | _, _, .obj _, p => by cases p
theorem IsIs.dp : ∀ {vs : List V} {xs : List I}, IsIs k F ι H vs xs → I.pures xs = true → DpAll k.K H vs (I.pys xs)
  | _, _, .nil, _ => .nil
  | _, _, .cons h t, p => by
    unfold I.pures at p
    rw [Bool.and_eq_true] at p
    exact .cons (IsI.dp h p.1) (IsIs.dp t p.2)
end
theorem frz_read (C : CsOk k F ι H M) {n : Nat} {x y : I} {v : V} (e : frz M n x = some y) (q : IsI k F ι H v x) : IsR k H v y :=
  frz_ok (F' := fun _ => False) (ι' := []) (fun _ _ _ => ⟨(fun z => nomatch z), fun z => z⟩) (fun _ _ _ _ _ => fun z => nomatch z) (fun n c a h1 _ h2 => ⟨C.ce n c a h1 h2, (fun z => nomatch z), fun z => z⟩) n x y v e q

/-! ### the state -/
theorem SlOk.go (s : Stp k ι H ι' H') {i : Nat} {x : I} (h : ∃ v, σ[i]? = some (some v) ∧ IsI k F ι H v x) : ∃ v, σ[i]? = some (some v) ∧ IsI k F ι' H' v x := by
  obtain ⟨v, e, h⟩ := h
  exact ⟨v, e, h.go s⟩
/-- what was in the slots stays -/
theorem SOk.next (S : SOk k F ι H σ τ M) (s : Stp k ι H ι' H') (C : CsOk k F ι' H' M') : SOk k F ι' H' σ τ M' :=
  ⟨S.len, fun i x e => SlOk.go s (S.sl i x e), C⟩
theorem CellOk.go {a : Addr} {c : Cell} (s : Stp k ι H ι' H') (h : CellOk k F ι H a c) (e : H' a = H a) : CellOk k F ι' H' a c := by
  cases c with
  | lst xs => obtain ⟨vs, h1, h2⟩ := h; exact ⟨vs, by rw [e]; exact h1, h2.go s⟩
  | dic ks xs => obtain ⟨vs, h1, hk, h2⟩ := h; exact ⟨vs, by rw [e]; exact h1, hk, h2.go s⟩
  | dit ks xs => obtain ⟨vs, h1, hk, h2⟩ := h; exact ⟨vs, by rw [e]; exact h1, hk, h2.go s⟩
  | ins c fs => obtain ⟨dx, fvs, h1, ho, hk, h2⟩ := h; exact ⟨dx, fvs, by rw [e]; exact h1, s.ow _ _ ho, hk, h2.go s⟩
theorem CellOk.wr {a : Addr} {c : Cell} (h : CellOk k F ι H a c) : ∃ o, H a = some o ∧ Wr o := by
  cases c with
  | lst xs => obtain ⟨vs, h1, h2⟩ := h; exact ⟨_, h1, trivial⟩
  | dic ks xs => obtain ⟨vs, h1, hk, h2⟩ := h; exact ⟨_, h1, trivial⟩
  | dit ks xs => obtain ⟨vs, h1, hk, h2⟩ := h; exact ⟨_, h1, trivial⟩
  | ins c fs => obtain ⟨dx, fvs, h1, ho, hk, h2⟩ := h; exact ⟨_, h1, trivial⟩
theorem CsOk.at (C : CsOk k F ι H M) {n : Nat} {c : Cell} (e : M[n]? = some c) : ∃ a, ι[n]? = some a ∧ CellOk k F ι H a c := by
  have hl : n < ι.length := by rw [C.li]; exact (List.getElem?_eq_some_iff.mp e).1
  have e2 := List.getElem?_eq_getElem hl
  exact ⟨_, e2, C.ce n c _ e e2⟩
theorem CsOk.wr (C : CsOk k F ι H M) {a : Addr} (m : a ∈ ι) : ∃ o, H a = some o ∧ Wr o := by
  obtain ⟨n, e⟩ := List.mem_iff_getElem?.mp m
  have hl : n < M.length := by rw [← C.li]; exact (List.getElem?_eq_some_iff.mp e).1
  exact (C.ce n _ a (List.getElem?_eq_getElem hl) e).wr
theorem CsOk.dom (C : CsOk k F ι H M) {a : Addr} (m : a ∈ ι) : H a ≠ none := by
  obtain ⟨o, e, _⟩ := C.wr m
  rw [e]; exact fun z => nomatch z
theorem nodup_get {α : Type} {xs : List α} (nd : xs.Nodup) {i j : Nat} {a : α} (h1 : xs[i]? = some a) (h2 : xs[j]? = some a) : i = j := by
  exact (List.getElem?_inj (List.getElem?_eq_some_iff.mp h1).1 nd).mp (h1.trans h2.symm)
/-- a new thing that is no cell -/
theorem CsOk.new {p : Addr} {o : HO} (C : CsOk k F ι H M) (hp : H p = none) : CsOk k F ι (upd H p o) M :=
  ⟨C.li, C.nd, fun a h z => C.fd a h ((Stp.new (k := k) (ι := ι) hp).dm a z), fun n c a h1 h2 => (C.ce n c a h1 h2).go (.new hp) (upd_ne fun z => C.dom (List.mem_iff_getElem?.mpr ⟨n, h2⟩) (by rw [z]; exact hp))⟩
/-- a new cell -/
theorem CsOk.newC {p : Addr} {o : HO} {c : Cell} (C : CsOk k F ι H M) (hp : H p = none) (h : CellOk k F (ι ++ [p]) (upd H p o) p c) : CsOk k F (ι ++ [p]) (upd H p o) (M ++ [c]) := by
  have st : Stp k ι H (ι ++ [p]) (upd H p o) := .newC hp
  refine ⟨by rw [List.length_append, List.length_append, C.li]; rfl, List.nodup_append.mpr ⟨C.nd, by simp, fun a ha b hb e => ?_⟩, fun a h z => C.fd a h (st.dm a z), fun n d a h1 h2 => ?_⟩
  · rw [List.mem_singleton.mp hb] at e
    exact C.dom ha (by rw [e]; exact hp)
  · by_cases hn : n < M.length
    · rw [List.getElem?_append_left hn] at h1
      rw [List.getElem?_append_left (by rw [C.li]; exact hn)] at h2
      exact (C.ce n d a h1 h2).go st (upd_ne fun z => C.dom (List.mem_iff_getElem?.mpr ⟨n, h2⟩) (by rw [z]; exact hp))
    · have e : n = M.length := by
        have := (List.getElem?_eq_some_iff.mp h1).1
        rw [List.length_append] at this
        have e1 : [c].length = 1 := rfl
        omega
      subst e
      rw [List.getElem?_append_right (Nat.le_refl _), Nat.sub_self] at h1
      rw [List.getElem?_append_right (by rw [C.li]; exact Nat.le_refl _), C.li, Nat.sub_self] at h2
      cases h1; cases h2
      exact h
/-- a cell is written -/
theorem CsOk.put {n : Nat} {p : Addr} {o o' : HO} {c c' : Cell} (C : CsOk k F ι H M) (e : M[n]? = some c) (ep : ι[n]? = some p) (hp : H p = some o) (ho : Wr o) (h : CellOk k F ι (upd H p o') p c') : CsOk k F ι (upd H p o') (M.set n c') := by
  have st : Stp k ι H ι (upd H p o') := .put hp ho (List.mem_iff_getElem?.mpr ⟨n, ep⟩)
  refine ⟨by rw [List.length_set]; exact C.li, C.nd, fun a h z => C.fd a h (st.dm a z), fun j d a h1 h2 => ?_⟩
  by_cases hj : n = j
  · subst hj
    rw [List.getElem?_set_self (List.getElem?_eq_some_iff.mp e).1] at h1
    rw [ep] at h2
    cases h1; cases h2
    exact h
  · rw [List.getElem?_set_ne hj] at h1
    exact (C.ce j d a h1 h2).go st (upd_ne fun z => hj (nodup_get C.nd ep (by rw [← z]; exact h2)))

/-! ### readings -/
/-- behind an expression: whatever the heap is then -/
def Fin (k : Kx) (F : Addr → Prop) (ι : List Addr) (H : Hp) (σ : L2.St) (τ : Env) (W : WX) (r : R I) (Q : V → Hp → Prop) : Prop := match r with
  | .ok v M' => ∀ (x : V) (ι' : List Addr) (H' : Hp), SOk k F ι' H' σ τ M' → Stp k ι H ι' H' → IsI k F ι' H' x v → Q x H'
  | .ex c M' => ∀ (ι' : List Addr) (H' : Hp), SOk k F ι' H' σ τ M' → Stp k ι H ι' H' → W (.ref (k.xc c)) none σ H'
  | .no => False
def FinA (k : Kx) (F : Addr → Prop) (ι : List Addr) (H : Hp) (σ : L2.St) (τ : Env) (W : WX) (r : R (List I)) (Q : List V → Hp → Prop) : Prop := match r with
  | .ok v M' => ∀ (x : List V) (ι' : List Addr) (H' : Hp), SOk k F ι' H' σ τ M' → Stp k ι H ι' H' → IsIs k F ι' H' x v → Q x H'
  | .ex c M' => ∀ (ι' : List Addr) (H' : Hp), SOk k F ι' H' σ τ M' → Stp k ι H ι' H' → W (.ref (k.xc c)) none σ H'
  | .no => False
def FinT (k : Kx) (F : Addr → Prop) (ι : List Addr) (H : Hp) (σ : L2.St) (τ : Env) (W : WX) (r : R I) (Q : Bool → Hp → Prop) : Prop := match r with
  | .ok v M' => ∃ b, truth (sh M' v) = some b ∧ ∀ (ι' : List Addr) (H' : Hp), SOk k F ι' H' σ τ M' → Stp k ι H ι' H' → Q b H'
  | .ex c M' => ∀ (ι' : List Addr) (H' : Hp), SOk k F ι' H' σ τ M' → Stp k ι H ι' H' → W (.ref (k.xc c)) none σ H'
  | .no => False
def tE (k : Kx) (Φ : Oracle) (W : WX) (c : C) : TE := fun σ H Q => ∃ F ι τ M, SOk k F ι H σ τ M ∧ Fin k F ι H σ τ W (evE Φ c τ M) Q
def tA (k : Kx) (Φ : Oracle) (W : WX) (cs : Cs) : TA := fun σ H Q => ∃ F ι τ M, SOk k F ι H σ τ M ∧ FinA k F ι H σ τ W (evEs Φ cs τ M) Q
def tT (k : Kx) (Φ : Oracle) (W : WX) (c : C) : TT := fun σ H Q => ∃ F ι τ M, SOk k F ι H σ τ M ∧ FinT k F ι H σ τ W (evE Φ c τ M) Q
theorem PE.imp {X : Cx} {e : Expr} {t t' : TE} (h : PE X e t) (i : ∀ σ H Q, t' σ H Q → t σ H Q) : PE X e t' := ⟨fun pins s σ H Q I q => h.run pins s σ H Q I (i σ H Q q)⟩
theorem PT.imp {X : Cx} {e : Expr} {t t' : TT} (h : PT X e t) (i : ∀ σ H Q, t' σ H Q → t σ H Q) : PT X e t' := ⟨fun pins s σ H Q I q => h.run pins s σ H Q I (i σ H Q q)⟩
theorem PA.imp {X : Cx} {es : List Expr} {t t' : TA} (h : PA X es t) (i : ∀ σ H Q, t' σ H Q → t σ H Q) : PA X es t' := ⟨fun pos pins s σ H Q I q => h.run pos pins s σ H Q I (i σ H Q q)⟩
section
variable {W : WX} {Φ : Oracle}
theorem Fin.back {r : R I} {Q : V → Hp → Prop} (st : Stp k ι H ι' H') (f : Fin k F ι H σ τ W r Q) : Fin k F ι' H' σ τ W r Q := by
  cases r with
  | ok v M' => exact fun x ι2 H2 S s i => f x ι2 H2 S (st.trans s) i
  | ex c M' => exact fun ι2 H2 S s => f ι2 H2 S (st.trans s)
  | no => exact f
theorem FinA.back {r : R (List I)} {Q : List V → Hp → Prop} (st : Stp k ι H ι' H') (f : FinA k F ι H σ τ W r Q) : FinA k F ι' H' σ τ W r Q := by
  cases r with
  | ok v M' => exact fun x ι2 H2 S s i => f x ι2 H2 S (st.trans s) i
  | ex c M' => exact fun ι2 H2 S s => f ι2 H2 S (st.trans s)
  | no => exact f
theorem FinT.back {r : R I} {Q : Bool → Hp → Prop} (st : Stp k ι H ι' H') (f : FinT k F ι H σ τ W r Q) : FinT k F ι' H' σ τ W r Q := by
  cases r with
  | ok v M' => obtain ⟨b, e, f⟩ := f; exact ⟨b, e, fun ι2 H2 S s => f ι2 H2 S (st.trans s)⟩
  | ex c M' => exact fun ι2 H2 S s => f ι2 H2 S (st.trans s)
  | no => exact f
/-- first one part, then what is made of it -/
theorem Fin.bind {r : R I} {f : I → Mem → R I} {Q Q' : V → Hp → Prop} (h : Fin k F ι H σ τ W (r.bind f) Q)
    (i : ∀ v M1 x ι1 H1, SOk k F ι1 H1 σ τ M1 → Stp k ι H ι1 H1 → IsI k F ι1 H1 x v → Fin k F ι1 H1 σ τ W (f v M1) Q → Q' x H1) : Fin k F ι H σ τ W r Q' := by
  cases r with
  | ok v M1 => exact fun x ι1 H1 S s q => i v M1 x ι1 H1 S s q (Fin.back s h)
  | ex c M1 => exact h
  | no => exact h
theorem Fin.bindA {r : R (List I)} {f : List I → Mem → R I} {Q : V → Hp → Prop} {Q' : List V → Hp → Prop} (h : Fin k F ι H σ τ W (r.bind f) Q)
    (i : ∀ v M1 x ι1 H1, SOk k F ι1 H1 σ τ M1 → Stp k ι H ι1 H1 → IsIs k F ι1 H1 x v → Fin k F ι1 H1 σ τ W (f v M1) Q → Q' x H1) : FinA k F ι H σ τ W r Q' := by
  cases r with
  | ok v M1 => exact fun x ι1 H1 S s q => i v M1 x ι1 H1 S s q (Fin.back s h)
  | ex c M1 => exact h
  | no => exact h
theorem FinA.bind {r : R I} {f : I → Mem → R (List I)} {Q : List V → Hp → Prop} {Q' : V → Hp → Prop} (h : FinA k F ι H σ τ W (r.bind f) Q)
    (i : ∀ v M1 x ι1 H1, SOk k F ι1 H1 σ τ M1 → Stp k ι H ι1 H1 → IsI k F ι1 H1 x v → FinA k F ι1 H1 σ τ W (f v M1) Q → Q' x H1) : Fin k F ι H σ τ W r Q' := by
  cases r with
  | ok v M1 => exact fun x ι1 H1 S s q => i v M1 x ι1 H1 S s q (FinA.back s h)
  | ex c M1 => exact h
  | no => exact h
theorem FinA.bindA {r : R (List I)} {f : List I → Mem → R (List I)} {Q Q' : List V → Hp → Prop} (h : FinA k F ι H σ τ W (r.bind f) Q)
    (i : ∀ v M1 x ι1 H1, SOk k F ι1 H1 σ τ M1 → Stp k ι H ι1 H1 → IsIs k F ι1 H1 x v → FinA k F ι1 H1 σ τ W (f v M1) Q → Q' x H1) : FinA k F ι H σ τ W r Q' := by
  cases r with
  | ok v M1 => exact fun x ι1 H1 S s q => i v M1 x ι1 H1 S s q (FinA.back s h)
  | ex c M1 => exact h
  | no => exact h
theorem Fin.mono {r : R I} {Q Q' : V → Hp → Prop} (h : Fin k F ι H σ τ W r Q) (i : ∀ x H1, Q x H1 → Q' x H1) : Fin k F ι H σ τ W r Q' := by
  cases r with
  | ok v M1 => exact fun x ι1 H1 S s q => i _ _ (h x ι1 H1 S s q)
  | ex c M1 => exact h
  | no => exact h
theorem FinA.mono {r : R (List I)} {Q Q' : List V → Hp → Prop} (h : FinA k F ι H σ τ W r Q) (i : ∀ x H1, Q x H1 → Q' x H1) : FinA k F ι H σ τ W r Q' := by
  cases r with
  | ok v M1 => exact fun x ι1 H1 S s q => i _ _ (h x ι1 H1 S s q)
  | ex c M1 => exact h
  | no => exact h
theorem tE.mono {c : C} {Q Q' : VK} (h : tE k Φ W c σ H Q) (i : ∀ x H1, Q x H1 → Q' x H1) : tE k Φ W c σ H Q' := by
  obtain ⟨F, ι, τ, M, S, f⟩ := h
  exact ⟨F, ι, τ, M, S, f.mono i⟩
theorem tA_nil {Q : List V → Hp → Prop} (h : tA k Φ W .nil σ H Q) : Q [] H := by
  obtain ⟨F, ι, τ, M, S, f⟩ := h
  exact f [] ι H S .refl .nil
theorem tA_cons {c : C} {cs : Cs} {Q : List V → Hp → Prop} (h : tA k Φ W (.cons c cs) σ H Q) : tE k Φ W c σ H fun x H1 => tA k Φ W cs σ H1 fun xs H2 => Q (x :: xs) H2 := by
  obtain ⟨F, ι, τ, M, S, f⟩ := h
  unfold evEs at f
  refine ⟨F, ι, τ, M, S, f.bind fun v M1 x ι1 H1 S1 s1 i1 f1 => ⟨F, ι1, τ, M1, S1, f1.bindA fun vs M2 xs ι2 H2 S2 s2 i2 f2 => ?_⟩⟩
  exact f2 (x :: xs) ι2 H2 S2 .refl (.cons (i1.go s2) i2)
/-- expressions and their readings, one by one -/
inductive PEs (k : Kx) (X : Cx) (W : WX) (Φ : Oracle) : List Expr → Cs → Prop
  | nil : PEs k X W Φ [] .nil
  | cons {e : Expr} {es : List Expr} {c : C} {cs : Cs} : PE X e (tE k Φ W c) → (∀ r : List Expr, starEach (e :: r) X.env = (false, eval e X.env) :: starEach r X.env) → PEs k X W Φ es cs → PEs k X W Φ (e :: es) (.cons c cs)
theorem PEs.pa {X : Cx} {es : List Expr} {cs : Cs} (h : PEs k X W Φ es cs) : PA X es (tA k Φ W cs) := by
  induction h with
  | nil => exact PA.imp pa_nil fun σ H Q q => tA_nil q
  | cons h1 hs _ ih => exact PA.imp (pa_cons h1 ih (hs _)) fun σ H Q q => tA_cons q
end
end
end Rs

/-! second layer, part d: operations by values -/
namespace Rs
open PySem PySem.Spec PyProof.Rows L2

/-- a value, or what a cell holds just now -/
inductive IsS (k : Kx) (F : Addr → Prop) (ι : List Addr) (H : Hp) : V → I → Prop
  | of {v : V} {x : I} : IsI k F ι H v x → IsS k F ι H v x
  | lst {a : Addr} {xs : List V} {ys : List I} : H a = some (.lst xs) → IsIs k F ι H xs ys → IsS k F ι H (.ref a) (.lst ys)
  | dic {a : Addr} {kvs : List (Key × V)} {ks : List Key} {ys : List I} : H a = some (.dK kvs) → kvs.map (·.1) = ks → IsIs k F ι H (kvs.map (·.2)) ys → IsS k F ι H (.ref a) (.dic ks ys)
  | dit {a : Addr} {kvs : List (List Key × V)} {ks : List (List Key)} {ys : List I} : H a = some (.dT kvs) → kvs.map (·.1) = ks → IsIs k F ι H (kvs.map (·.2)) ys → IsS k F ι H (.ref a) (.dit ks ys)
/-- what is to be shown of an operation's result; cl: it is to become a cell -/
structure CN (k : Kx) (F : Addr → Prop) (ι : List Addr) (H : Hp) (v : I) (cl : Bool) (Q : VK) : Prop where
  imm : cl = false ∨ toCell v = none → ∀ x, IsI k F ι H x v → Q x H
  lst : ∀ is, v = .lst is → ∀ vs, IsIs k F ι H vs is → ∀ p, H p = none → Q (.ref p) (upd H p (.lst vs))
  tup : ∀ is, v = .tup is → ∀ vs, IsIs k F ι H vs is → ∀ p, H p = none → Q (.ref p) (upd H p (.tup vs))
  dic : ∀ ks is, v = .dic ks is → ∀ kvs : List (Key × V), kvs.map (·.1) = ks → IsIs k F ι H (kvs.map (·.2)) is → ∀ p, H p = none → Q (.ref p) (upd H p (.dK kvs))
  dit : ∀ ks is, v = .dit ks is → ∀ kvs : List (List Key × V), kvs.map (·.1) = ks → IsIs k F ι H (kvs.map (·.2)) is → ∀ p, H p = none → Q (.ref p) (upd H p (.dT kvs))
def Aft (k : Kx) (cl : Bool) (o : Op) (Q : VK) (xs : List V) (H : Hp) : Prop :=
  ∃ F ι M vs v, CsOk k F ι H M ∧ IsIs k F ι H xs vs ∧ opM o M vs = some v ∧ CN k F ι H v cl Q

section
variable {k : Kx} {F F' : Addr → Prop} {ι ι' : List Addr} {H H' : Hp} {M M' : Mem} {σ : L2.St} {τ : Env} {W : WX} {Φ : Oracle} {Q : VK}
theorem sh_ok (C : CsOk k F ι H M) {x : V} {v : I} (h : IsI k F ι H x v) : IsS k F ι H x (sh M v) := by
  cases h with
  | obj h =>
    unfold sh
    dsimp only
    split
    · rename_i xs e
      obtain ⟨vs, h1, h2⟩ := C.ce _ _ _ e h
      exact .lst h1 h2
    · rename_i ks xs e
      obtain ⟨vs, h1, hk, h2⟩ := C.ce _ _ _ e h
      exact .dic h1 hk h2
    · rename_i ks xs e
      obtain ⟨vs, h1, hk, h2⟩ := C.ce _ _ _ e h
      exact .dit h1 hk h2
    · exact .of (.obj h)
  | non => exact .of .non
  | bl b => exact .of (.bl b)
  | int b => exact .of (.int b)
  | str b => exact .of (.str b)
  | tup h t => exact .of (.tup h t)
  | wtp h t => exact .of (.wtp h t)
  | lst h f t => exact .of (.lst h f t)
  | dic h f e t => exact .of (.dic h f e t)
  | dit h f e t => exact .of (.dit h f e t)
  | scr h => exact .of (.scr h)
/-- a result that is laid, or that was there -/
theorem Fin.cn {v : I} {Q : VK} (S : SOk k F ι H σ τ M) (f : Fin k F ι H σ τ W (.ok v M) Q) : CN k F ι H v false Q where
  imm := fun _ x h => f x ι H S .refl h
  lst := fun is e vs h p hp => by
    subst e
    have st : Stp k ι H ι (upd H p (.lst vs)) := .new hp
    exact f (.ref p) ι _ (S.next st (S.cs.new hp)) st (.lst upd_same ⟨fun z => S.cs.dom z hp, fun z => S.cs.fd _ z hp⟩ (h.go st))
  tup := fun is e vs h p hp => by
    subst e
    have st : Stp k ι H ι (upd H p (.tup vs)) := .new hp
    exact f (.ref p) ι _ (S.next st (S.cs.new hp)) st (.tup upd_same (h.go st))
  dic := fun ks is e kvs ek h p hp => by
    subst e
    have st : Stp k ι H ι (upd H p (.dK kvs)) := .new hp
    exact f (.ref p) ι _ (S.next st (S.cs.new hp)) st (.dic upd_same ⟨fun z => S.cs.dom z hp, fun z => S.cs.fd _ z hp⟩ ek (h.go st))
  dit := fun ks is e kvs ek h p hp => by
    subst e
    have st : Stp k ι H ι (upd H p (.dT kvs)) := .new hp
    exact f (.ref p) ι _ (S.next st (S.cs.new hp)) st (.dit upd_same ⟨fun z => S.cs.dom z hp, fun z => S.cs.fd _ z hp⟩ ek (h.go st))
/-- .. as a cell -/
theorem Fin.cnc {v : I} {c : Cell} {Q : VK} (ec : toCell v = some c) (S : SOk k F ι H σ τ M) (f : Fin k F ι H σ τ W (.ok (.obj M.length) (M ++ [c])) Q) : CN k F ι H v true Q where
  imm := fun z => by
    rcases z with z | z
    · cases z
    · rw [ec] at z; cases z
  lst := fun is e vs h p hp => by
    subst e
    cases ec
    have st : Stp k ι H (ι ++ [p]) (upd H p (.lst vs)) := .newC hp
    refine f (.ref p) _ _ (S.next st (S.cs.newC hp ⟨vs, upd_same, h.go st⟩)) st (.obj ?_)
    rw [← S.cs.li]; simp
  tup := fun is e => by subst e; cases ec
  dic := fun ks is e kvs ek h p hp => by
    subst e
    cases ec
    have st : Stp k ι H (ι ++ [p]) (upd H p (.dK kvs)) := .newC hp
    refine f (.ref p) _ _ (S.next st (S.cs.newC hp ⟨kvs, upd_same, ek, h.go st⟩)) st (.obj ?_)
    rw [← S.cs.li]; simp
  dit := fun ks is e kvs ek h p hp => by
    subst e
    cases ec
    have st : Stp k ι H (ι ++ [p]) (upd H p (.dT kvs)) := .newC hp
    refine f (.ref p) _ _ (S.next st (S.cs.newC hp ⟨kvs, upd_same, ek, h.go st⟩)) st (.obj ?_)
    rw [← S.cs.li]; simp
def mkC (cl : Bool) (c : C) : C := if cl then .cell c else c
theorem op_tA {cl : Bool} {op : Op} {as : Cs} (h : tE k Φ W (mkC cl (.op op as)) σ H Q) : tA k Φ W as σ H (Aft k cl op Q) := by
  obtain ⟨F, ι, τ, M, S, f⟩ := h
  cases cl with
  | false =>
    have f : Fin k F ι H σ τ W ((evEs Φ as τ M).bind fun vs M1 => .of (opM op M1 vs) M1) Q := f
    refine ⟨F, ι, τ, M, S, f.bindA fun vs M1 xs ι1 H1 S1 s1 i1 f1 => ?_⟩
    cases e : opM op M1 vs with
    | none => rw [e] at f1; exact f1.elim
    | some v => rw [e] at f1; exact ⟨F, ι1, M1, vs, v, S1.cs, i1, e, Fin.cn S1 f1⟩
  | true =>
    have f : Fin k F ι H σ τ W (((evEs Φ as τ M).bind fun vs M1 => .of (opM op M1 vs) M1).bind fun v M1 => match toCell v with
      | some cc => .ok (.obj M1.length) (M1 ++ [cc])
      | none => .no) Q := f
    have f : Fin k F ι H σ τ W ((evEs Φ as τ M).bind fun vs M1 => (R.of (opM op M1 vs) M1).bind fun v M1 => match toCell v with
      | some cc => .ok (.obj M1.length) (M1 ++ [cc])
      | none => .no) Q := by
      cases e : evEs Φ as τ M with
      | ok a b => rw [e] at f; exact f
      | ex a b => rw [e] at f; exact f
      | no => rw [e] at f; exact f
    refine ⟨F, ι, τ, M, S, f.bindA fun vs M1 xs ι1 H1 S1 s1 i1 f1 => ?_⟩
    cases e : opM op M1 vs with
    | none => rw [e] at f1; exact f1.elim
    | some v =>
      rw [e] at f1
      have f1 : Fin k F ι1 H1 σ τ W (match toCell v with
        | some cc => .ok (.obj M1.length) (M1 ++ [cc])
        | none => .no) Q := f1
      cases ec : toCell v with
      | none => rw [ec] at f1; exact f1.elim
      | some c => rw [ec] at f1; exact ⟨F, ι1, M1, vs, v, S1.cs, i1, e, Fin.cnc ec S1 f1⟩
theorem tA_1 {a : C} {R : List V → Hp → Prop} (h : tA k Φ W (.cons a .nil) σ H R) : tE k Φ W a σ H fun x H1 => R [x] H1 :=
  tE.mono (tA_cons h) fun x H1 q => tA_nil q
theorem tA_2 {a b : C} {R : List V → Hp → Prop} (h : tA k Φ W (.cons a (.cons b .nil)) σ H R) : tE k Φ W a σ H fun x H1 => tE k Φ W b σ H1 fun y H2 => R [x, y] H2 :=
  tE.mono (tA_cons h) fun x H1 q => tA_1 q
theorem tA_3 {a b c : C} {R : List V → Hp → Prop} (h : tA k Φ W (.cons a (.cons b (.cons c .nil))) σ H R) : tE k Φ W a σ H fun x H1 => tE k Φ W b σ H1 fun y H2 => tE k Φ W c σ H2 fun z H3 => R [x, y, z] H3 :=
  tE.mono (tA_cons h) fun x H1 q => tA_2 q
end

section
variable {k : Kx} {cl : Bool} {Q : VK} {x y z : V} {H : Hp} {op : Op}
theorem prep_sh {M : Mem} {vs us : List I} (hd : op.deep = false) (h : prep op M vs = some us) : us = vs.map (sh M) := by
  unfold prep at h
  rw [hd] at h
  cases h; rfl
theorem opM_sh {M : Mem} {vs : List I} {v : I} (hd : op.deep = false) (h : opM op M vs = some v) : opD op (vs.map (sh M)) = some v := by
  unfold opM prep at h
  rw [hd] at h
  exact h
theorem opM_deep {M : Mem} {vs : List I} {v : I} (hd : op.deep = true) (h : opM op M vs = some v) : ∃ us, vs.mapM (frz M dpt) = some us ∧ opD op us = some v := by
  unfold opM prep at h
  rw [hd] at h
  cases e : vs.mapM (frz M dpt) with
  | none => rw [if_pos rfl, e] at h; cases h
  | some us => rw [if_pos rfl, e] at h; exact ⟨us, rfl, h⟩
theorem aft1 (hd : op.deep = false) (h : Aft k cl op Q [x] H) : ∃ F ι a v, IsS k F ι H x a ∧ opD op [a] = some v ∧ CN k F ι H v cl Q := by
  obtain ⟨F, ι, M, vs, v, C, i, e, c⟩ := h
  cases i with
  | cons i t => cases t; exact ⟨F, ι, _, v, sh_ok C i, opM_sh hd e, c⟩
theorem aft2 (hd : op.deep = false) (h : Aft k cl op Q [x, y] H) : ∃ F ι a b v, IsS k F ι H x a ∧ IsS k F ι H y b ∧ opD op [a, b] = some v ∧ CN k F ι H v cl Q := by
  obtain ⟨F, ι, M, vs, v, C, i, e, c⟩ := h
  cases i with
  | cons i t => cases t with
    | cons i2 t => cases t; exact ⟨F, ι, _, _, v, sh_ok C i, sh_ok C i2, opM_sh hd e, c⟩
theorem aft3 (hd : op.deep = false) (h : Aft k cl op Q [x, y, z] H) : ∃ F ι a b d v, IsS k F ι H x a ∧ IsS k F ι H y b ∧ IsS k F ι H z d ∧ opD op [a, b, d] = some v ∧ CN k F ι H v cl Q := by
  obtain ⟨F, ι, M, vs, v, C, i, e, c⟩ := h
  cases i with
  | cons i t => cases t with
    | cons i2 t => cases t with
      | cons i3 t => cases t; exact ⟨F, ι, _, _, _, v, sh_ok C i, sh_ok C i2, sh_ok C i3, opM_sh hd e, c⟩
theorem map_one {f : I → Option I} {a : I} {us : List I} (h : [a].mapM f = some us) : ∃ b, f a = some b ∧ us = [b] := by
  rw [List.mapM_cons] at h
  cases e : f a with
  | none => rw [e] at h; cases h
  | some b => rw [e] at h; cases h; exact ⟨b, rfl, rfl⟩
theorem map_two {f : I → Option I} {a c : I} {us : List I} (h : [a, c].mapM f = some us) : ∃ b d, f a = some b ∧ f c = some d ∧ us = [b, d] := by
  rw [List.mapM_cons] at h
  cases e : f a with
  | none => rw [e] at h; cases h
  | some b =>
    cases e2 : [c].mapM f with
    | none => rw [e, e2] at h; cases h
    | some ds =>
      rw [e, e2] at h
      cases h
      obtain ⟨d, q1, q2⟩ := map_one e2
      exact ⟨b, d, rfl, q1, by rw [q2]⟩
theorem aftd2 (hd : op.deep = true) (h : Aft k cl op Q [x, y] H) : ∃ F ι a b v, IsR k H x a ∧ IsR k H y b ∧ opD op [a, b] = some v ∧ CN k F ι H v cl Q := by
  obtain ⟨F, ι, M, vs, v, C, i, e, c⟩ := h
  obtain ⟨us, e1, e2⟩ := opM_deep hd e
  cases i with
  | cons i t => cases t with
    | cons i2 t =>
      cases t
      obtain ⟨b, d, q1, q2, rfl⟩ := map_two e1
      exact ⟨F, ι, b, d, v, frz_read C q1 i, frz_read C q2 i2, e2, c⟩
variable {F : Addr → Prop} {ι : List Addr}
theorem isS_int {i : Int} (h : IsS k F ι H x (.int i)) : x = .int i := by
  cases h with
  | of h => cases h; rfl
theorem isS_str {i : Str} (h : IsS k F ι H x (.str i)) : x = .str i := by
  cases h with
  | of h => cases h; rfl
theorem isS_bl {i : Bool} (h : IsS k F ι H x (.bl i)) : x = .bl i := by
  cases h with
  | of h => cases h; rfl
theorem isS_tup {ys : List I} (h : IsS k F ι H x (.tup ys)) : ∃ a xs, x = .ref a ∧ H a = some (.tup xs) ∧ IsIs k F ι H xs ys := by
  cases h with
  | of h => cases h with
    | tup h t => exact ⟨_, _, rfl, h, t⟩
theorem isS_wtp {ys : List I} (h : IsS k F ι H x (.wtp ys)) : ∃ a xs, x = .ref a ∧ SqT k.K H a xs ∧ IsIs k F ι H xs ys := by
  cases h with
  | of h => cases h with
    | wtp h t => exact ⟨_, _, rfl, h, t⟩
theorem isS_lst {ys : List I} (h : IsS k F ι H x (.lst ys)) : ∃ a xs, x = .ref a ∧ H a = some (.lst xs) ∧ IsIs k F ι H xs ys := by
  cases h with
  | of h => cases h with
    | lst h _ t => exact ⟨_, _, rfl, h, t⟩
  | lst h t => exact ⟨_, _, rfl, h, t⟩
theorem isS_dic {ks : List Key} {ys : List I} (h : IsS k F ι H x (.dic ks ys)) : ∃ a kvs, x = .ref a ∧ H a = some (.dK kvs) ∧ kvs.map (·.1) = ks ∧ IsIs k F ι H (kvs.map (·.2)) ys := by
  cases h with
  | of h => cases h with
    | dic h _ e t => exact ⟨_, _, rfl, h, e, t⟩
  | dic h e t => exact ⟨_, _, rfl, h, e, t⟩
theorem isS_dit {ks : List (List Key)} {ys : List I} (h : IsS k F ι H x (.dit ks ys)) : ∃ a kvs, x = .ref a ∧ H a = some (.dT kvs) ∧ kvs.map (·.1) = ks ∧ IsIs k F ι H (kvs.map (·.2)) ys := by
  cases h with
  | of h => cases h with
    | dit h _ e t => exact ⟨_, _, rfl, h, e, t⟩
  | dit h e t => exact ⟨_, _, rfl, h, e, t⟩
theorem isS_scr {ns : List Int} (h : IsS k F ι H x (.scr ns)) : ∃ a, x = .ref a ∧ Scr k.K ι H a (ns.map V.int) := by
  cases h with
  | of h => cases h with
    | scr h => exact ⟨_, rfl, h⟩
theorem tup_sq {K : PySem.W.Frag} {a : Addr} {xs : List V} (h : H a = some (.tup xs)) : SqT K H a xs := .inl (.inl h)
theorem lst_sq {K : PySem.W.Frag} {a : Addr} {xs : List V} (h : H a = some (.lst xs)) : SqL K H a xs := .inl (.inl h)
/-- results of one form -/
theorem CN.int {i : Int} (c : CN k F ι H (.int i) cl Q) : Q (.int i) H := c.imm (.inr rfl) _ (.int i)
theorem CN.str {i : Str} (c : CN k F ι H (.str i) cl Q) : Q (.str i) H := c.imm (.inr rfl) _ (.str i)
theorem CN.bl {i : Bool} (c : CN k F ι H (.bl i) cl Q) : Q (.bl i) H := c.imm (.inr rfl) _ (.bl i)
theorem CN.non (c : CN k F ι H .non cl Q) : Q .non H := c.imm (.inr rfl) _ .non
theorem CN.tupO {is : List I} {a : Addr} {vs : List V} (c : CN k F ι H (.tup is) cl Q) (h : H a = some (.tup vs)) (t : IsIs k F ι H vs is) : Q (.ref a) H := c.imm (.inr rfl) _ (.tup h t)
theorem if_some {α : Type} {c : Prop} [Decidable c] {o : Option α} {v : α} (h : (if c then o else none) = some v) : c ∧ o = some v := by
  by_cases hc : c
  · rw [if_pos hc] at h; exact ⟨hc, h⟩
  · rw [if_neg hc] at h; cases h
theorem map_some {α β : Type} {o : Option α} {f : α → β} {v : β} (h : o.map f = some v) : ∃ a, o = some a ∧ f a = v := Option.map_eq_some_iff.mp h
/-! ### the rules -/
def rAdd4 (K : PySem.W.Frag) : R2 := fun x y H Q => (rI0 fun i j => .int (i + j)) x y H Q ∨ (∃ i j, x = .str i ∧ y = .str j ∧ i.length + j.length ≤ sizeLine ∧ Q (.str (i ++ j)) H) ∨ rCatA K x y H Q ∨ rCat x y H Q
theorem op_add4 {X : Cx} : OpR X (binaryOp .Add) (rAdd4 X.K) := OpR.or op_add (OpR.or op_add_str (OpR.or op_catA op_cat))
theorem ru_add {K : PySem.W.Frag} (h : Aft k cl .add Q [x, y] H) : rAdd4 K x y H Q := by
  obtain ⟨F, ι, a, b, v, ha, hb, e, c⟩ := aft2 rfl h
  have e : addD a b = some v := e
  unfold addD at e
  split at e
  · cases e; cases isS_int ha; cases isS_int hb; exact .inl ⟨_, _, rfl, rfl, c.int⟩
  · obtain ⟨hz, e⟩ := if_some e
    cases e; cases isS_str ha; cases isS_str hb; exact .inr (.inl ⟨_, _, rfl, rfl, hz, c.str⟩)
  · obtain ⟨hz, e⟩ := if_some e
    cases e
    obtain ⟨p, xs, rfl, h1, t1⟩ := isS_tup ha
    obtain ⟨q, ys, rfl, h2, t2⟩ := isS_tup hb
    refine .inr (.inr (.inl ⟨_, _, _, _, rfl, rfl, tup_sq h1, tup_sq h2, by rw [t1.length, t2.length]; exact hz, fun z => ?_, fun _ z => ?_, fun _ _ => c.tup _ rfl _ (t1.append t2)⟩))
    · subst z
      cases t1
      exact c.tupO h2 t2
    · subst z
      cases t2
      rw [List.append_nil] at c
      exact c.tupO h1 t1
  · obtain ⟨hz, e⟩ := if_some e
    cases e
    obtain ⟨p, xs, rfl, h1, t1⟩ := isS_lst ha
    obtain ⟨q, ys, rfl, h2, t2⟩ := isS_lst hb
    exact .inr (.inr (.inr ⟨_, _, _, _, rfl, rfl, h1, h2, by rw [t1.length, t2.length]; exact hz, c.lst _ rfl _ (t1.append t2)⟩))
  · cases e
theorem ru_sub (h : Aft k cl .sub Q [x, y] H) : (rI0 fun i j => .int (i - j)) x y H Q := by
  obtain ⟨F, ι, a, b, v, ha, hb, e, c⟩ := aft2 rfl h
  have e : subD a b = some v := e
  unfold subD at e
  split at e
  · cases e; cases isS_int ha; cases isS_int hb; exact ⟨_, _, rfl, rfl, c.int⟩
  · cases e
def rMul2 (K : PySem.W.Frag) : R2 := fun x y H Q => (rI CMulW fun i j => .int (i * j)) x y H Q ∨ rRep x y H Q
theorem op_mul2 {X : Cx} : OpR X (binaryOp .Mult) (rMul2 X.K) := OpR.or op_mulW op_rep
theorem isIs_rep {xs : List V} {is : List I} (h : IsIs k F ι H xs is) : ∀ n : Nat, IsIs k F ι H (List.replicate n xs).flatten (List.replicate n is).flatten
  | 0 => .nil
  | n + 1 => by
    rw [List.replicate_succ, List.replicate_succ, List.flatten_cons, List.flatten_cons]
    exact h.append (isIs_rep h n)
theorem ru_mul {K : PySem.W.Frag} (h : Aft k cl .mul Q [x, y] H) : rMul2 K x y H Q := by
  obtain ⟨F, ι, a, b, v, ha, hb, e, c⟩ := aft2 rfl h
  have e : mulD a b = some v := e
  unfold mulD at e
  split at e
  · obtain ⟨hc, e⟩ := if_some e
    cases e
    exact .inl ⟨_, _, isS_int ha, isS_int hb, hc, c.int⟩
  · obtain ⟨⟨h1, h2, h3⟩, e⟩ := if_some e
    cases e
    obtain ⟨l, us, rfl, hl, t⟩ := isS_lst ha
    exact .inr ⟨l, _, us, rfl, isS_int hb, hl, h1, h2, by rw [t.length]; exact h3, c.lst _ rfl _ (isIs_rep t _)⟩
  · cases e
theorem ru_int {C : Int → Int → Prop} {g : Int → Int → Int} (hd : op.deep = false) (hf : ∀ a b v, opD op [a, b] = some v → ∃ i j, a = .int i ∧ b = .int j ∧ C i j ∧ v = .int (g i j))
    (h : Aft k cl op Q [x, y] H) : rI C (fun i j => .int (g i j)) x y H Q := by
  obtain ⟨F, ι, a, b, v, ha, hb, e, c⟩ := aft2 hd h
  obtain ⟨i, j, rfl, rfl, hc, rfl⟩ := hf a b v e
  exact ⟨i, j, isS_int ha, isS_int hb, hc, c.int⟩
theorem ru_fdiv (h : Aft k cl .fdiv Q [x, y] H) : (rI CDivW fun i j => .int (i / j)) x y H Q := ru_int (g := fun i j => i / j) rfl (fun a b v e => by
  have e : fdivD a b = some v := e
  unfold fdivD at e
  split at e
  · obtain ⟨hc, e⟩ := if_some e
    cases e
    exact ⟨_, _, rfl, rfl, hc, rfl⟩
  · cases e) h
theorem ru_mod (h : Aft k cl .mod Q [x, y] H) : (rI (fun _ j => 0 < j) fun i j => .int (i % j)) x y H Q := ru_int (g := fun i j => i % j) rfl (fun a b v e => by
  have e : modD a b = some v := e
  unfold modD at e
  split at e
  · obtain ⟨hc, e⟩ := if_some e
    cases e
    exact ⟨_, _, rfl, rfl, hc, rfl⟩
  · cases e) h
theorem ru_pow (h : Aft k cl .pow Q [x, y] H) : (rI CPow fun i j => .int (i ^ j.toNat)) x y H Q := ru_int (g := fun i j => i ^ j.toNat) rfl (fun a b v e => by
  have e : powD a b = some v := e
  unfold powD at e
  split at e
  · obtain ⟨hc, e⟩ := if_some e
    cases e
    exact ⟨_, _, rfl, rfl, hc, rfl⟩
  · cases e) h
theorem ru_neg (h : Aft k cl .neg Q [x] H) : (rU fun i => .int (-i)) x H Q := by
  obtain ⟨F, ι, a, v, ha, e, c⟩ := aft1 rfl h
  have e : negD a = some v := e
  unfold negD at e
  split at e
  · cases e
    exact ⟨_, isS_int ha, c.int⟩
  · cases e
theorem eqD_of {a b : I} {r : Bool} (e : eqD a b = some r) : a.pure = true ∧ b.pure = true ∧ SeqAt.shaped a.py = true ∧ SeqAt.shaped b.py = true ∧ r = PyData.eqv a.py b.py := by
  unfold eqD at e
  obtain ⟨hc, e⟩ := if_some e
  unfold I.fit at hc
  simp only [Bool.and_eq_true] at hc
  cases e
  exact ⟨hc.1.1, hc.2.1, hc.1.2, hc.2.2, rfl⟩
theorem ru_eq (h : Aft k cl .eq Q [x, y] H) : rEqD k.K x y H Q := by
  obtain ⟨F, ι, a, b, v, ha, hb, e, c⟩ := aftd2 rfl h
  obtain ⟨r, e2, rfl⟩ := map_some (show (eqD a b).map I.bl = some v from e)
  obtain ⟨p1, p2, s1, s2, rfl⟩ := eqD_of e2
  exact ⟨_, _, ha.dp p1, hb.dp p2, s1, s2, c.bl⟩
theorem ru_ne (h : Aft k cl .ne Q [x, y] H) : rNeD k.K x y H Q := by
  obtain ⟨F, ι, a, b, v, ha, hb, e, c⟩ := aftd2 rfl h
  obtain ⟨r, e2, rfl⟩ := map_some (show (eqD a b).map (fun r => I.bl (!r)) = some v from e)
  obtain ⟨p1, p2, s1, s2, rfl⟩ := eqD_of e2
  exact ⟨_, _, ha.dp p1, hb.dp p2, s1, s2, c.bl⟩
def rLt2 : R2 := fun x y H Q => (rI0 fun i j => .bl (decide (i < j))) x y H Q ∨ (∃ i j, x = .str i ∧ y = .str j ∧ Q (.bl (decide (i.cps.toList < j.cps.toList))) H)
theorem op_lt2 {X : Cx} : OpR X (compareOp .Lt) rLt2 := OpR.or op_lt op_lt_str
theorem ru_lt (h : Aft k cl .lt Q [x, y] H) : rLt2 x y H Q := by
  obtain ⟨F, ι, a, b, v, ha, hb, e, c⟩ := aft2 rfl h
  have e : cmpI (fun i j => decide (i < j)) (fun i j => some (decide (i < j))) a b = some v := e
  unfold cmpI at e
  split at e
  · cases e
    exact .inl ⟨_, _, isS_int ha, isS_int hb, c.bl⟩
  · cases e
    exact .inr ⟨_, _, isS_str ha, isS_str hb, c.bl⟩
  · cases e
theorem ru_cmp {p : Int → Int → Bool} (hd : op.deep = false) (hf : ∀ a b v, opD op [a, b] = some v → cmpI p (fun _ _ => none) a b = some v) (h : Aft k cl op Q [x, y] H) : (rI0 fun i j => .bl (p i j)) x y H Q := by
  obtain ⟨F, ι, a, b, v, ha, hb, e, c⟩ := aft2 hd h
  have e := hf _ _ _ e
  unfold cmpI at e
  split at e
  · cases e
    exact ⟨_, _, isS_int ha, isS_int hb, c.bl⟩
  · cases e
  · cases e
theorem isN_of {d v : I} (h : IsS k F ι H x d) (e : isN d = some v) : v = .bl (decide (x = .non)) := by
  cases h with
  | of h => cases h <;> cases e <;> rfl
  | lst _ _ => cases e; rfl
  | dic _ _ => cases e; rfl
  | dit _ _ => cases e; rfl
theorem ru_isN (h : Aft k cl .isN Q [x] H) : Q (.bl (decide (x = .non))) H := by
  obtain ⟨F, ι, a, v, ha, e, c⟩ := aft1 rfl h
  cases isN_of ha (show isN a = some v from e)
  exact c.bl
theorem ru_notN (h : Aft k cl .notN Q [x] H) : Q (.bl (!decide (x = .non))) H := by
  obtain ⟨F, ι, a, v, ha, e, c⟩ := aft1 rfl h
  cases e2 : isN a with
  | none =>
    have e : (isN a).bind _ = some v := e
    rw [e2] at e; cases e
  | some w =>
    have e : (isN a).bind _ = some v := e
    rw [e2] at e
    cases isN_of ha e2
    cases e
    exact c.bl
theorem ru_isB {ng b : Bool} (h : Aft k cl (.isB ng b) Q [x] H) : ∃ d, x = .bl d ∧ Q (.bl (if ng then !decide (d = b) else decide (d = b))) H := by
  obtain ⟨F, ι, a, v, ha, e, c⟩ := aft1 rfl h
  obtain ⟨r, e2, rfl⟩ := map_some (show (isBo b a).map _ = some v from e)
  unfold isBo at e2
  split at e2
  · cases e2
    exact ⟨_, isS_bl ha, c.bl⟩
  · cases e2
end
end Rs

/-! second layer: t[::-1] of a tuple -/
namespace Rs
open PySem PySem.Spec PyProof.Rows L2 HT
theorem adj_rev (n : Nat) : Builtin.Slice.sliceAdjust none none (-1) (n : Int) = ((n : Int) - 1, -1) := by
  unfold Builtin.Slice.sliceAdjust
  have h : (-1 : Int) < 0 := by omega
  simp only [h, if_true]
theorem plc_rev (n : Nat) : Builtin.Slice.slicePlaces ((n : Int) - 1) (-1) (-1) = n := by
  unfold Builtin.Slice.slicePlaces
  have h : ¬ ((-1 : Int) > 0) := by omega
  simp only [h, if_false]
  have e : -(-1 : Int) = 1 := by omega
  rw [e, Int.ediv_one]
  split <;> omega
theorem pick_rev (xs : Array Value) : ((List.range xs.size).filterMap fun (m : Nat) => xs[(((xs.size : Nat) : Int) - 1 + (m : Int) * (-1)).toNat]?).toArray = xs.toList.reverse.toArray := by
  congr 1
  have e : (fun (m : Nat) => xs[(((xs.size : Nat) : Int) - 1 + (m : Int) * (-1)).toNat]?) = fun m => xs[xs.size - 1 - m]? := by
    funext m
    have q : (((xs.size : Nat) : Int) - 1 + (m : Int) * (-1)).toNat = xs.size - 1 - m := by omega
    rw [q]
  rw [e]
  have e2 : (List.range xs.size).filterMap (fun m => xs[xs.size - 1 - m]?) = ((List.range xs.size).map fun m => xs.size - 1 - m).filterMap (xs[·]?) := by
    rw [List.filterMap_map]; rfl
  rw [e2, PySem.W.krv_range, List.filterMap_reverse, PySem.W.krv_all]
section
variable {prog : Program} {w : World} {A : Around} {E : Value → Shared → Prop} {s : Shared}
theorem applied_rev {sl : Addr} {n : Nat} {tk : Tok} {Q : Int × Int × Nat → Shared → Prop} (hs : s.heap.IsSliceOf sl .none .none (.int (-1) tk)) (h : Q ((n : Int) - 1, -1, n) s) :
    wpAny (model prog w) A (Builtin.Slice.sliceApplied (.ref sl) (pure (n : Int))) Q E s := by
  obtain ⟨os, g, hc, hd⟩ := id hs
  unfold Builtin.Slice.sliceApplied
  unfold Builtin.Slice.sliceFields
  refine wpAny_bind (wpAny_bind (wpAny_field g hd (x := .none) rfl (wpAny_bind (wpAny_field g hd (x := .none) rfl (wpAny_bind (wpAny_field g hd (x := .int (-1) tk) rfl (wpAny_pure ?_)))))))
  refine wpAny_bind (slicePart_int ?_)
  show wpAny _ _ (if ((-1 : Int) == 0) = true then _ else _) _ _ s
  rw [if_neg (show ¬ ((-1 : Int) == 0) = true by decide)]
  refine wpAny_bind (slicePart_none (wpAny_bind (slicePart_none (wpAny_bind (wpAny_pure ?_)))))
  show wpAny _ _ (match Builtin.Slice.sliceAdjust none none (-1) (n : Int) with | (lo, hi) => pure (lo, (-1 : Int), Builtin.Slice.slicePlaces lo hi (-1))) _ _ s
  rw [adj_rev n]
  show wpAny _ _ (pure ((n : Int) - 1, (-1 : Int), Builtin.Slice.slicePlaces ((n : Int) - 1) (-1) (-1))) _ _ s
  rw [plc_rev]
  exact wpAny_pure h
theorem item_rev {t sl : Addr} {items : Array Value} {tk : Tok} {Q : Value → Shared → Prop} (ht : IsTup s.heap t items) (hs : s.heap.IsSliceOf sl .none .none (.int (-1) tk))
    (h : Q (.ref s.heap.objs.size) { s with heap := s.heap.push { cls := .type "tuple", data := .seq items.toList.reverse.toArray } }) (hsz : items.size ≤ sizeLine) : wpAny (model prog w) A (getItem (.ref t) (.ref sl)) Q E s := by
  have hok : sizeOk (.seq items.toList.reverse.toArray) := by
    show items.toList.reverse.toArray.size ≤ sizeLine
    simpa using hsz
  obtain ⟨os, g, hc, hd⟩ := id hs
  have hT : s.TypeIs (.ref sl) "slice" := ⟨os, g, hc⟩
  unfold getItem
  try with_reducible refine wpAny_holding ?_
  first | refine wpAny_bind (wpAny_pure ?_) | skip
  refine wpAny_bind (wpAny_sequenceKey (ht.typeIs) (by decide) ?_)
  refine wpAny_bind (wpAny_callSpecial?_slot (name := Str.ofString "__getitem__") (ht.typeIs) PyProof.Rows.slot_tuple_getitem (wpAny_call_entry PyProof.Rows.slot_tuple_getitem ht.typeIs entry_tuple_getitem ?_ (args_tuple_getitem _ _)))
  show wpAny (model prog w) _ (Builtin.Tuple.tupleItemsOf (.ref t) >>= _) _ _ s
  refine wpAny_bind (tupleItemsOf_ ht ?_)
  refine wpAny_bind (wpAny_typeOf hT ?_)
  rw [if_pos (by decide)]
  refine wpAny_bind (applied_rev hs ?_)
  have hno : ¬ ((((items.size : Nat) : Int) - 1 == 0 && (-1 : Int) == 1 && items.size == items.size) = true) := by simp
  show wpAny _ _ (if (((items.size : Nat) : Int) - 1 == 0 && (-1 : Int) == 1 && items.size == items.size) = true then _ else _) _ _ s
  rw [if_neg hno, pick_rev]
  first
    | exact wpAny_bind (m := Builtin.Tuple.tupleExact _) (wpAny_newObj_type (wpAny_pure ⟨_, rfl, wpAny_pure h⟩) hok)
    | exact wpAny_bind (m := Builtin.Tuple.tupleExact _) (wpAny_newObj_type (wpAny_bind (wpAny_pure (wpAny_pure ⟨_, rfl, wpAny_pure h⟩))) hok)
    | exact wpAny_bind (wpAny_bind (m := Builtin.Tuple.tupleExact _) (wpAny_newObj_type (wpAny_pure (wpAny_pure ⟨_, rfl, wpAny_pure h⟩)) hok))
    | exact wpAny_bind (wpAny_bind (m := Builtin.Tuple.tupleExact _) (wpAny_newObj_type (wpAny_pure ⟨_, rfl, wpAny_pure h⟩) hok))
end
section
variable {X : Cx}
def tRevT (K : PySem.W.Frag) (te : TE) : TE := fun σ H Q => te σ H fun x H1 => ∃ a xs, x = .ref a ∧ SqT K H1 a xs ∧ ∀ p, H1 p = none → Q (.ref p) (upd H1 p (.tup xs.reverse))
theorem pe_revT {e : Expr} {te : TE} {k : Nat} {p1 p2 p3 pos : Pos} (he : PE X e te) : PE X (.Subscript e (.Slice none none (some (.UnaryOp .USub (.Constant (.int 1) k p1) p2)) p3) pos) (tRevT X.K te) := by
  refine ⟨fun pins s σ H Q I h => ?_⟩
  refine Subscript_ (thn (he.run pins s σ H _ I h) fun v s1 ⟨x, H1, I1, r1, a, xs, ex, hx, q⟩ => ?_)
  subst ex
  cases r1
  have hst : PO X (some (.UnaryOp .USub (.Constant (.int 1) k p1) p2)) (tPart (tUn (rU fun i => .int (-i)) (tC (.int 1)))) := (po_some (pe_un un_neg pe_int))
  refine wpAny_Slice (thn (po_none.run pins s1 σ H1 (fun o H2 => o = none ∧ H2 = H1) I1 ⟨rfl, rfl⟩) fun vl s2 ⟨l, _, I2, pl, el, e2⟩ => ?_)
  subst el; subst e2
  refine thn (po_none.run pins s2 σ _ (fun o H3 => o = none ∧ H3 = _) I2 ⟨rfl, rfl⟩) fun vu s3 ⟨u, _, I3, pu, eu, e3⟩ => ?_
  subst eu; subst e3
  refine thn (hst.run pins s3 σ _ (fun o H4 => o = some (-1) ∧ H4 = _) I3 ⟨1, rfl, -1, rfl, rfl, rfl⟩) fun vs s4 ⟨o, _, I4, ps, eo, e4⟩ => ?_
  subst eo; subst e4
  cases pl; cases pu
  cases ps with
  | int _ tk =>
    have I5 : Inv X pins σ _ { s4 with heap := s4.heap.push { cls := .type "slice", data := .fields #[.none, .none, .int (-1) tk] } } := I4.kept (t' := s4.toks) (fun b ob q => Heap.get?_push_of_some _ q)
    obtain ⟨its, r, ht, hz⟩ := I5.tuple hx
    have hl := r.length
    show wpAny (model X.prog X.w) X.A (subscriptTail e (.Slice none none (some (.UnaryOp .USub (.Constant (.int 1) k p1) p2)) p3) (.ref a) (.ref s4.heap.objs.size)) (EP X pins σ Q) X.xe { s4 with heap := s4.heap.push { cls := .type "slice", data := .fields #[.none, .none, .int (-1) tk] } }
    refine tail_any (ops := [.ref a, .ref s4.heap.objs.size]) ht.typeIs (PyProof.Rows.slot_tuple_getitem.lookup) ?_ (by with_unfolding_all rfl)
    refine item_rev ht (Heap.IsSliceOf.new _ .none .none (.int (-1) tk)) ?_ (by rw [List.size_toArray]; omega)
    refine ⟨.ref _, _, I5.laid (t' := s4.toks) (o := .tup xs.reverse) (fun b ob q => Heap.get?_push_of_some _ q) (Nat.le_refl _) ?_, rfl, (q _ (I5.hok.fresh (Nat.le_refl _)))⟩
    exact ⟨by rw [List.length_reverse]; exact hz, _, r.reverse, IsTup.new _ _⟩
end
end Rs

/-! second layer, part e: the rules of further operations -/
namespace Rs
open PySem PySem.Spec PyProof.Rows L2
section
variable {X : Cx} {k : Kx} {cl : Bool} {Q : VK} {x y z : V} {H : Hp} {op : Op} {F : Addr → Prop} {ι : List Addr}
/-! ### dicts -/
theorem keyI_of {a : I} {kk : Key} (h : IsI k F ι H x a) (e : keyI a = some kk) : x = kV kk := by
  cases h <;> cases e <;> rfl
theorem keysI_of : ∀ {xs : List I} {vs : List V} {ks : List Key}, IsIs k F ι H vs xs → keysI xs = some ks → vs = ks.map kV
  | [], _, _, h, e => by cases e; cases h; rfl
  | x :: xs, vs, ks, h, e => by
    unfold keysI at e
    split at e
    · rename_i kk ks' e1 e2
      cases e
      cases h with
      | cons h t => rw [keyI_of h e1, keysI_of t e2]; rfl
    · cases e
theorem atK_val {κ : Type} [DecidableEq κ] : ∀ {kvs : List (κ × V)} {ks : List κ} {xs : List I} {j : κ}, kvs.map (·.1) = ks → IsIs k F ι H (kvs.map (·.2)) xs →
    (∀ d, atK ks xs j = some d → ∃ v, valV kvs j = some v ∧ IsI k F ι H v d) ∧ (atK ks xs j = none → valV kvs j = none)
  | [], _, _, _, e, h => by
    cases e; cases h
    exact ⟨(fun _ z => nomatch z), fun _ => rfl⟩
  | (k0, v0) :: kvs, _, _, j, e, h => by
    cases e
    cases h with
    | cons h t =>
      rename_i d0 xs
      have ih := atK_val (j := j) (kvs := kvs) rfl t
      have e1 : atK (((k0, v0) :: kvs).map (·.1)) (d0 :: xs) j = if k0 = j then some d0 else atK (kvs.map (·.1)) xs j := rfl
      have e2 : valV ((k0, v0) :: kvs) j = if k0 = j then some v0 else valV kvs j := by
        unfold valV
        rw [List.find?_cons]
        by_cases hk : k0 = j
        · rw [if_pos hk, decide_eq_true hk]; rfl
        · rw [if_neg hk, decide_eq_false hk]
      rw [e1, e2]
      by_cases hk : k0 = j
      · rw [if_pos hk, if_pos hk]
        exact ⟨fun d z => by cases z; exact ⟨_, rfl, h⟩, (fun z => nomatch z)⟩
      · rw [if_neg hk, if_neg hk]
        exact ih
theorem isSome_val {κ : Type} [DecidableEq κ] {kvs : List (κ × V)} {ks : List κ} {xs : List I} {j : κ} (e : kvs.map (·.1) = ks) (h : IsIs k F ι H (kvs.map (·.2)) xs) : (valV kvs j).isSome = (atK ks xs j).isSome := by
  have := atK_val (j := j) e h
  cases e2 : atK ks xs j with
  | none => rw [this.2 e2]; rfl
  | some d => obtain ⟨v, e3, _⟩ := this.1 d e2; rw [e3]; rfl
/-- a key in the right form for a dict -/
theorem dget {a b v : I} (ha : IsS k F ι H x a) (hb : IsI k F ι H y b) : (∀ d, ixD a b = some d → (∃ ks xs, a = .dic ks xs) ∨ (∃ ks xs, a = .dit ks xs) → ∃ p w, x = .ref p ∧ DGet H p y (some w) ∧ IsI k F ι H w d) := fun d e hh => by
  rcases hh with ⟨ks, xs, rfl⟩ | ⟨ks, xs, rfl⟩
  · obtain ⟨p, kvs, rfl, hp, ek, t⟩ := isS_dic ha
    have e : dicD ks xs b = some d := by
      cases b <;> exact e
    unfold dicD at e
    split at e
    · rename_i kk e1
      obtain ⟨w, e2, hw⟩ := (atK_val ek t).1 d e
      refine ⟨p, w, rfl, ?_, hw⟩
      rw [keyI_of hb e1, ← e2]
      exact .k hp
    · cases e
  · obtain ⟨p, kvs, rfl, hp, ek, t⟩ := isS_dit ha
    cases b with
    | tup bs =>
      have e : (match keysI bs with
        | some k => atK ks xs k
        | none => none) = some d := e
      split at e
      · rename_i kk e1
        obtain ⟨w, e2, hw⟩ := (atK_val ek t).1 d e
        cases hb with
        | tup hb tb =>
          refine ⟨p, w, rfl, ?_, hw⟩
          rw [keysI_of tb e1] at hb
          rw [← e2]
          exact .t hp hb
      · cases e
    | _ => cases e
def rDIn : R2 := fun x y H Q => ∃ a o, y = .ref a ∧ DGet H a x o ∧ Q (.bl o.isSome) H
def rDNotIn : R2 := fun x y H Q => ∃ a o, y = .ref a ∧ DGet H a x o ∧ Q (.bl (!o.isSome)) H
theorem op_inDic (hu : X.A.units + 1 < cLine) : OpR X (compareOp .In) rDIn := by
  intro pins s σ H x y v u Q I rx ry h
  obtain ⟨a, o, rfl, g, q⟩ := h
  cases ry
  exact d_in hu I g rx fun s' I' => ⟨.bl o.isSome, H, I', rfl, q⟩
theorem op_notInDic (hu : X.A.units + 1 < cLine) : OpR X (compareOp .NotIn) rDNotIn := by
  intro pins s σ H x y v u Q I rx ry h
  obtain ⟨a, o, rfl, g, q⟩ := h
  cases ry
  exact d_notIn hu I g rx fun s' I' => ⟨.bl (!o.isSome), H, I', rfl, q⟩
def rIn4 (K : PySem.W.Frag) : R2 := fun x y H Q => (∃ (c : Nat) (z : Str), x = .str ⟨#[c]⟩ ∧ y = .str z ∧ Q (.bl (decide (c ∈ z.cps.toList))) H) ∨ rInD K x y H Q ∨ rIn K false x y H Q ∨ rDIn x y H Q
theorem op_in4 (hu : X.A.units + 65 < cLine) : OpR X (compareOp .In) (rIn4 X.K) := OpR.or op_in_sign (OpR.or (op_inD hu) (OpR.or op_in_seq (op_inDic (by omega))))
def rNotIn4 (K : PySem.W.Frag) : R2 := fun x y H Q => (∃ (c : Nat) (z : Str), x = .str ⟨#[c]⟩ ∧ y = .str z ∧ Q (.bl (!decide (c ∈ z.cps.toList))) H) ∨ rNotInD K x y H Q ∨ rIn K true x y H Q ∨ rDNotIn x y H Q
theorem op_notIn4 (hu : X.A.units + 65 < cLine) : OpR X (compareOp .NotIn) (rNotIn4 X.K) := OpR.or op_notIn_sign (OpR.or (op_notInD hu) (OpR.or op_notIn_seq (op_notInDic (by omega))))
theorem scal_v {a : I} (h : IsI k F ι H x a) (e : a.scal = true) : x = a.v ∧ flatV x = true := by
  cases h <;> first | (cases e; done) | exact ⟨rfl, rfl⟩
theorem scals_v : ∀ {xs : List I} {vs : List V}, IsIs k F ι H vs xs → xs.all I.scal = true → vs = xs.map I.v ∧ vs.all flatV = true
  | [], _, h, _ => by cases h; exact ⟨rfl, rfl⟩
  | x :: xs, _, h, e => by
    cases h with
    | cons h t =>
      rw [List.all_cons, Bool.and_eq_true] at e
      obtain ⟨a1, a2⟩ := scal_v h e.1
      obtain ⟨b1, b2⟩ := scals_v t e.2
      refine ⟨by rw [a1, b1]; rfl, by rw [List.all_cons, a2, b2]; rfl⟩
theorem inn_of {a b : I} {r : Bool} (ha : IsR k H x a) (hb : IsR k H y b) (e : innD a b = some r) :
    (∃ (c : Nat) (z : Str), x = .str ⟨#[c]⟩ ∧ y = .str z ∧ r = decide (c ∈ z.cps.toList)) ∨ (∃ d ds, Dp k.K H x d ∧ Dp k.K H y (.list ds) ∧ SeqAt.shaped d = true ∧ SeqAt.shaped (.list ds) = true ∧ r = ds.any fun z => PyData.eqv z d) ∨
      (∃ p xs, y = .ref p ∧ (SqL k.K H p xs ∨ SqT k.K H p xs) ∧ flatV x = true ∧ xs.all flatV = true ∧ r = inV x xs) ∨ ∃ p o, y = .ref p ∧ DGet H p x o ∧ r = o.isSome := by
  have tupc : ∀ {ys : List I} {p : Addr} {xs : List V}, inT a ys = some r → y = .ref p → SqT k.K H p xs → IsIs k (fun _ => False) [] H xs ys → ∃ p xs, y = .ref p ∧ (SqL k.K H p xs ∨ SqT k.K H p xs) ∧ flatV x = true ∧ xs.all flatV = true ∧ r = inV x xs := fun {ys p xs} e ey hp t => by
    unfold inT at e
    obtain ⟨hc, e⟩ := if_some e
    rw [Bool.and_eq_true] at hc
    cases e
    obtain ⟨a1, a2⟩ := scal_v ha hc.1
    obtain ⟨b1, b2⟩ := scals_v t hc.2
    exact ⟨p, xs, ey, .inr hp, a2, b2, by rw [a1, b1]⟩
  unfold innD at e
  split at e
  · obtain ⟨hc, e⟩ := if_some e
    cases e
    rename_i s z
    have hs : s = ⟨#[s.cps.getD 0 0]⟩ := by
      obtain ⟨cps⟩ := s
      have hc : cps.size = 1 := hc
      have hc' : cps.toList.length = 1 := by simpa using hc
      obtain ⟨c, e⟩ := List.length_eq_one_iff.mp hc'
      have e : cps = #[c] := by rw [← Array.toList_inj]; exact e
      subst e
      rfl
    refine .inl ⟨_, _, ?_, (by cases hb; rfl), rfl⟩
    rw [← hs]
    cases ha; rfl
  · obtain ⟨hc, e⟩ := if_some e
    unfold I.fit at hc
    simp only [Bool.and_eq_true] at hc
    cases e
    exact .inr (.inl ⟨_, _, ha.dp hc.1.1, hb.dp hc.2.1, hc.1.2, hc.2.2, rfl⟩)
  · cases hb with
    | tup h t => exact .inr (.inr (.inl (tupc e rfl (tup_sq h) t)))
  · cases hb with
    | wtp h t => exact .inr (.inr (.inl (tupc e rfl h t)))
  · split at e
    · rename_i kk e1
      cases e
      obtain ⟨p, kvs, rfl, hp, ek, t⟩ := isS_dic (.of hb)
      refine .inr (.inr (.inr ⟨p, _, rfl, ?_, (isSome_val ek t).symm⟩))
      rw [keyI_of ha e1]
      exact .k hp
    · cases e
  · split at e
    · rename_i kk e1
      cases e
      obtain ⟨p, kvs, rfl, hp, ek, t⟩ := isS_dit (.of hb)
      cases ha with
      | tup ha ta =>
        refine .inr (.inr (.inr ⟨p, _, rfl, ?_, (isSome_val ek t).symm⟩))
        rw [keysI_of ta e1] at ha
        exact .t hp ha
    · cases e
  · cases e
theorem ru_in (h : Aft k cl .inn Q [x, y] H) : rIn4 k.K x y H Q := by
  obtain ⟨F, ι, a, b, v, ha, hb, e, c⟩ := aftd2 rfl h
  obtain ⟨r, e2, rfl⟩ := map_some (show (innD a b).map I.bl = some v from e)
  rcases inn_of ha hb e2 with ⟨j, z, h1, h2, rfl⟩ | ⟨d, ds, h1, h2, h3, h4, rfl⟩ | ⟨p, xs, h1, h2, h3, h4, rfl⟩ | ⟨p, o, h1, h2, rfl⟩
  · exact .inl ⟨j, z, h1, h2, c.bl⟩
  · exact .inr (.inl ⟨d, ds, h1, h2, h3, h4, c.bl⟩)
  · exact .inr (.inr (.inl ⟨p, xs, h1, h2, h3, h4, c.bl⟩))
  · exact .inr (.inr (.inr ⟨p, o, h1, h2, c.bl⟩))
theorem ru_notin (h : Aft k cl .notin Q [x, y] H) : rNotIn4 k.K x y H Q := by
  obtain ⟨F, ι, a, b, v, ha, hb, e, c⟩ := aftd2 rfl h
  obtain ⟨r, e2, rfl⟩ := map_some (show (innD a b).map (fun r => I.bl (!r)) = some v from e)
  rcases inn_of ha hb e2 with ⟨j, z, h1, h2, rfl⟩ | ⟨d, ds, h1, h2, h3, h4, rfl⟩ | ⟨p, xs, h1, h2, h3, h4, rfl⟩ | ⟨p, o, h1, h2, rfl⟩
  · exact .inl ⟨j, z, h1, h2, c.bl⟩
  · exact .inr (.inl ⟨d, ds, h1, h2, h3, h4, c.bl⟩)
  · exact .inr (.inr (.inl ⟨p, xs, h1, h2, h3, h4, c.bl⟩))
  · exact .inr (.inr (.inr ⟨p, o, h1, h2, c.bl⟩))
/-! ### subscripts -/
theorem atI_map {α β : Type} (g : α → β) {xs : List α} {i : Int} {v : α} (h : atI xs i = some v) : atI (xs.map g) i = some (g v) := by
  unfold atI at h ⊢
  rw [List.length_map]
  cases e : ixN xs.length i with
  | none => rw [e] at h; cases h
  | some j =>
    rw [e] at h
    have h : xs[j]? = some v := h
    show (xs.map g)[j]? = some (g v)
    rw [List.getElem?_map, h]; rfl
theorem atI_is {vs : List V} {ds : List I} {i : Int} {d : I} (h : IsIs k F ι H vs ds) (e : atI ds i = some d) : ∃ v, atI vs i = some v ∧ IsI k F ι H v d := by
  unfold atI at e ⊢
  rw [h.length]
  cases e2 : ixN ds.length i with
  | none => rw [e2] at e; cases e
  | some j =>
    rw [e2] at e
    obtain ⟨v, h1, h2⟩ := h.get (j := j) e
    exact ⟨v, h1, h2⟩
def rIxD : R2 := fun x y H Q => ∃ a v, x = .ref a ∧ DGet H a y (some v) ∧ Q v H
theorem ix_dic (hu : X.A.units + 1 < cLine) : IxR X rIxD := by
  intro value slice pins s σ H x y v u Q I rx ry h hs
  obtain ⟨a, z, rfl, g, q⟩ := h
  cases rx
  have hT := dict_typeIs I g
  unfold subscriptTail
  refine wpAny_bind ?_
  rw [getitemInPython_of_ne hT.not_modules]
  refine wpAny_bind (wpAny_specialOf hT PySem.F.slot_dict_getitem.lookup ?_)
  have fin : wpAny (model X.prog X.w) X.A (subscripted slice false (.ref a) u) (fun r s₃ => wpAny (model X.prog X.w) X.A (letTemporaryGo value (.ref a) r >>= fun _ => pure r) (EP X pins σ Q) X.xe s₃) X.xe s := by
    rw [hs]
    exact wpAny_operating (d_getItem hu I g ry fun w' s' I' rw' => wpAny_bind (wpAny_letTemporaryGo (wpAny_pure ⟨z, H, I', rw', q⟩)))
  first
    | exact wpAny_pure (wpAny_bind fin)
    | exact wpAny_bind fin
theorem deep_of {a : I} (h : IsS k F ι H y a) (hn : ∀ xs, a ≠ .lst xs) (hd : ∀ ks xs, a ≠ .dic ks xs) (ht : ∀ ks xs, a ≠ .dit ks xs) : IsI k F ι H y a := by
  cases h with
  | of h => exact h
  | lst _ _ => exact absurd rfl (hn _)
  | dic _ _ _ => exact absurd rfl (hd _ _)
  | dit _ _ _ => exact absurd rfl (ht _ _)
theorem ru_ix (hcl : cl = false) (h : Aft k cl .ix Q [x, y] H) : rIx k.K x y H Q ∨ rIxD x y H Q := by
  obtain ⟨F, ι, a, b, v, ha, hb, e, c⟩ := aft2 rfl h
  have e : ixD a b = some v := e
  have imm := c.imm (.inl hcl)
  have dd : (∃ ks xs, a = .dic ks xs) ∨ (∃ ks xs, a = .dit ks xs) → rIx k.K x y H Q ∨ rIxD x y H Q := fun hh => by
    have hb' : IsI k F ι H y b := by
      refine deep_of hb (fun xs z => ?_) (fun ks xs z => ?_) (fun ks xs z => ?_) <;>
      · subst z
        rcases hh with ⟨ks, xs, rfl⟩ | ⟨ks, xs, rfl⟩ <;> cases e
    obtain ⟨p, w, rfl, g, i⟩ := dget (v := v) ha hb' v e hh
    exact .inr ⟨p, w, rfl, g, imm _ i⟩
  unfold ixD at e
  split at e
  · obtain ⟨n, en, rfl⟩ := map_some e
    obtain ⟨p, rfl, hs⟩ := isS_scr ha
    exact .inl (.inl ⟨p, _, _, _, rfl, isS_int hb, hs.sq, atI_map V.int en, c.int⟩)
  · obtain ⟨p, us, rfl, hl, t⟩ := isS_lst ha
    obtain ⟨w, h1, h2⟩ := atI_is t e
    exact .inl (.inl ⟨p, us, _, w, rfl, isS_int hb, lst_sq hl, h1, imm _ h2⟩)
  · obtain ⟨p, us, rfl, hl, t⟩ := isS_tup ha
    obtain ⟨w, h1, h2⟩ := atI_is t e
    exact .inl (.inr (.inl ⟨p, us, _, w, rfl, isS_int hb, tup_sq hl, h1, imm _ h2⟩))
  · obtain ⟨p, us, rfl, hl, t⟩ := isS_wtp ha
    obtain ⟨w, h1, h2⟩ := atI_is t e
    exact .inl (.inr (.inl ⟨p, us, _, w, rfl, isS_int hb, hl, h1, imm _ h2⟩))
  · obtain ⟨hz, e⟩ := if_some e
    obtain ⟨n, en, rfl⟩ := map_some e
    exact .inl (.inr (.inr ⟨_, _, _, isS_str ha, isS_int hb, hz, en, c.str⟩))
  · exact dd (.inl ⟨_, _, rfl⟩)
  · exact dd (.inr ⟨_, _, rfl⟩)
  · cases e
/-! ### slices -/
theorem cut_map {α β : Type} (g : α → β) (xs : List α) (lo hi : Option Int) : cut (xs.map g) lo hi = (cut xs lo hi).map g := by
  unfold cut
  rw [List.length_map, List.map_take, List.map_drop]
theorem cutV_eq (xs : List V) (lo hi : Option Int) : cutV xs lo hi = cut xs lo hi := rfl
def rSl3 (K : PySem.W.Frag) : V → Option Int → Option Int → Hp → VK → Prop := fun x lo hi H Q => rSlL K x lo hi H Q ∨ rSlA K x lo hi H Q ∨ rSlS x lo hi H Q
theorem sl_3 : SlR X (rSl3 X.K) := SlR.or sl_list (SlR.or sl_tupA sl_str)
theorem cut_all {α : Type} {xs : List α} {lo hi : Option Int} (h : HT.sIx xs.length 0 lo = 0 ∧ HT.sIx xs.length xs.length hi = xs.length) : cut xs lo hi = xs := by
  unfold cut
  rw [h.1, h.2, List.drop_zero]
  exact List.take_of_length_le (by omega)
theorem sl_of {a v : I} {lo hi : Option Int} (ha : IsS k F ι H x a) (e : sliceD a lo hi = some v) (c : CN k F ι H v cl Q) : rSl3 k.K x lo hi H Q := by
  unfold sliceD at e
  split at e
  · cases e
    obtain ⟨p, us, rfl, hl, t⟩ := isS_lst ha
    exact .inl ⟨p, us, rfl, lst_sq hl, c.lst _ rfl _ (t.cut _ _)⟩
  · cases e
    obtain ⟨p, us, rfl, hl, t⟩ := isS_tup ha
    refine .inr (.inl ⟨p, us, rfl, tup_sq hl, fun hw => ?_, fun _ => c.tup _ rfl _ (t.cut _ _)⟩)
    rw [t.length] at hw
    rw [cut_all hw] at c
    exact c.tupO hl t
  · obtain ⟨hz, e⟩ := if_some e
    cases e
    exact .inr (.inr ⟨_, isS_str ha, hz, c.str⟩)
  · rename_i ns
    cases e
    obtain ⟨p, rfl, hs⟩ := isS_scr ha
    refine .inl ⟨p, _, rfl, hs.sq, ?_⟩
    rw [cutV_eq, cut_map]
    rw [cut_map] at c
    exact c.lst _ rfl _ (IsIs.mapP (fun n => .int n) _)
  · cases e
theorem ru_sl00 (h : Aft k cl (.slice false false) Q [x] H) : rSl3 k.K x none none H Q := by
  obtain ⟨F, ι, a, v, ha, e, c⟩ := aft1 rfl h
  exact sl_of ha e c
theorem ru_sl10 (h : Aft k cl (.slice true false) Q [x, y] H) : ∃ i, y = .int i ∧ rSl3 k.K x (some i) none H Q := by
  obtain ⟨F, ι, a, b, v, ha, hb, e, c⟩ := aft2 rfl h
  unfold opD at e
  simp only at e
  split at e
  · exact ⟨_, isS_int hb, sl_of ha e c⟩
  · cases e
theorem ru_sl01 (h : Aft k cl (.slice false true) Q [x, y] H) : ∃ i, y = .int i ∧ rSl3 k.K x none (some i) H Q := by
  obtain ⟨F, ι, a, b, v, ha, hb, e, c⟩ := aft2 rfl h
  unfold opD at e
  simp only at e
  split at e
  · exact ⟨_, isS_int hb, sl_of ha e c⟩
  · cases e
theorem ru_rev (h : Aft k cl .rev Q [x] H) : ∃ a xs, x = .ref a ∧ SqL k.K H a xs ∧ ∀ p, H p = none → Q (.ref p) (upd H p (.lst xs.reverse)) := by
  obtain ⟨F, ι, a, v, ha, e, c⟩ := aft1 rfl h
  have e : revD a = some v := e
  unfold revD at e
  split at e
  · cases e
    obtain ⟨p, us, rfl, hl, t⟩ := isS_lst ha
    exact ⟨p, us, rfl, lst_sq hl, c.lst _ rfl _ t.reverse⟩
  · cases e
theorem ru_revT (h : Aft k cl .revT Q [x] H) : ∃ a xs, x = .ref a ∧ SqT k.K H a xs ∧ ∀ p, H p = none → Q (.ref p) (upd H p (.tup xs.reverse)) := by
  obtain ⟨F, ι, a, v, ha, e, c⟩ := aft1 rfl h
  have e : revT a = some v := e
  unfold revT at e
  split at e
  · cases e
    obtain ⟨p, us, rfl, hl, t⟩ := isS_tup ha
    exact ⟨p, us, rfl, tup_sq hl, c.tup _ rfl _ t.reverse⟩
  · cases e
end
end Rs

/-! second layer, part f: calls of built-in functions, methods, truth -/
namespace Rs
open PySem PySem.Spec PyProof.Rows L2
section
variable {X : Cx} {k : Kx} {cl : Bool} {Q : VK} {x y z : V} {H : Hp} {op : Op} {F : Addr → Prop} {ι : List Addr}
theorem intsI_eq : ∀ {ds : List I} {ns : List Int}, intsI ds = some ns → ds = ns.map I.int
  | [], ns, h => by cases h; rfl
  | d :: ds, ns, h => by
    unfold intsI at h
    split at h
    · rename_i z; cases z
    · rename_i x ds' e
      injection e with e1 e2
      subst e1 e2
      obtain ⟨ys, e, rfl⟩ := map_some h
      rw [intsI_eq e]; rfl
    · cases h
theorem boolsI_eq : ∀ {ds : List I} {ns : List Bool}, boolsI ds = some ns → ds = ns.map I.bl
  | [], ns, h => by cases h; rfl
  | d :: ds, ns, h => by
    unfold boolsI at h
    split at h
    · rename_i z; cases z
    · rename_i x ds' e
      injection e with e1 e2
      subst e1 e2
      obtain ⟨ys, e, rfl⟩ := map_some h
      rw [boolsI_eq e]; rfl
    · cases h
theorem strsI_eq : ∀ {ds : List I} {ns : List Str}, strsI ds = some ns → ds = ns.map I.str
  | [], ns, h => by cases h; rfl
  | d :: ds, ns, h => by
    unfold strsI at h
    split at h
    · rename_i z; cases z
    · rename_i x ds' e
      injection e with e1 e2
      subst e1 e2
      obtain ⟨ys, e, rfl⟩ := map_some h
      rw [strsI_eq e]; rfl
    · cases h
theorem IsIs.inv {α : Type} {f : α → V} {g : α → I} (hi : ∀ a x, IsI k F ι H x (g a) → x = f a) : ∀ {xs : List α} {vs : List V}, IsIs k F ι H vs (xs.map g) → vs = xs.map f
  | [], _, .nil => rfl
  | x :: xs, _, .cons h t => by rw [hi _ _ h, IsIs.inv hi t]; rfl
theorem IsIs.ints {ns : List Int} {vs : List V} (h : IsIs k F ι H vs (ns.map I.int)) : vs = ns.map V.int := h.inv fun a x h => by cases h; rfl
theorem IsIs.bools {ns : List Bool} {vs : List V} (h : IsIs k F ι H vs (ns.map I.bl)) : vs = ns.map V.bl := h.inv fun a x h => by cases h; rfl
theorem IsIs.strs {ns : List Str} {vs : List V} (h : IsIs k F ι H vs (ns.map I.str)) : vs = ns.map V.str := h.inv fun a x h => by cases h; rfl

/-! ### built-in functions -/
def rLen2 (K : PySem.W.Frag) : List V → Hp → VK → Prop := fun xs H Q => (∃ x n, xs = [x] ∧ LenV K x H n ∧ Q (.int n) H) ∨ ∃ a kvs, xs = [V.ref a] ∧ H a = some (.dK kvs) ∧ Q (.int kvs.length) H
theorem call_len2 : CallR X (.builtin "len") (rLen2 X.K) := CallR.or call_len call_lenD
theorem ru_len {xs : List V} (h : Aft k cl .len Q xs H) (hl : xs.length = 1) : rLen2 k.K xs H Q := by
  obtain ⟨w, rfl⟩ := List.length_eq_one_iff.mp hl
  obtain ⟨F, ι, a, v, ha, e, c⟩ := aft1 rfl h
  have e : lenD a = some v := e
  unfold lenD at e
  split at e
  · cases e
    obtain ⟨p, rfl, hs⟩ := isS_scr ha
    refine .inl ⟨_, _, rfl, .inl ⟨_, hs.sq, rfl⟩, ?_⟩
    rw [List.length_map]
    exact c.int
  · cases e
    obtain ⟨p, us, rfl, hl, t⟩ := isS_lst ha
    refine .inl ⟨_, _, rfl, .inl ⟨_, lst_sq hl, rfl⟩, ?_⟩
    rw [t.length]
    exact c.int
  · cases e
    obtain ⟨p, us, rfl, hl, t⟩ := isS_tup ha
    refine .inl ⟨_, _, rfl, .inr ⟨_, tup_sq hl, rfl⟩, ?_⟩
    rw [t.length]
    exact c.int
  · cases e
    obtain ⟨p, us, rfl, hl, t⟩ := isS_wtp ha
    refine .inl ⟨_, _, rfl, .inr ⟨_, hl, rfl⟩, ?_⟩
    rw [t.length]
    exact c.int
  · cases e
    obtain ⟨p, kvs, rfl, hp, ek, t⟩ := isS_dic ha
    refine .inr ⟨p, kvs, rfl, hp, ?_⟩
    rw [← List.length_map (f := (·.1)) (as := kvs), ek]
    exact c.int
  · obtain ⟨hz, e⟩ := if_some e
    cases e
    refine .inl ⟨_, _, rfl, ?_, c.int⟩
    cases isS_str ha
    exact ⟨hz, rfl⟩
  · cases e
theorem ru_abs {xs : List V} (h : Aft k cl .abs Q xs H) (hl : xs.length = 1) : ∃ i, xs = [.int i] ∧ Q (.int (if i < 0 then -i else i)) H := by
  obtain ⟨w, rfl⟩ := List.length_eq_one_iff.mp hl
  obtain ⟨F, ι, a, v, ha, e, c⟩ := aft1 rfl h
  unfold opD at e
  simp only at e
  split at e
  · cases e
    cases isS_int ha
    exact ⟨_, rfl, c.int⟩
  · cases e
theorem ru_sum {xs : List V} (h : Aft k cl .sum Q xs H) (hl : xs.length = 1) : rSum k.K xs H Q := by
  obtain ⟨w, rfl⟩ := List.length_eq_one_iff.mp hl
  obtain ⟨F, ι, a, v, ha, e, c⟩ := aft1 rfl h
  unfold opD at e
  simp only at e
  split at e
  · obtain ⟨ns, e2, rfl⟩ := map_some e
    obtain ⟨p, us, rfl, hl, t⟩ := isS_lst ha
    rw [intsI_eq e2] at t
    rw [t.ints] at hl
    exact ⟨p, ns, rfl, lst_sq hl, c.int⟩
  · cases e
theorem ru_bools {g : List Bool → Bool} {xs : List V} (hd : op.deep = false) (hf : ∀ a : I, opD op [a] = match a with | .lst xs => (boolsI xs).map fun bs => .bl (g bs) | _ => none) (h : Aft k cl op Q xs H) (hl : xs.length = 1) :
    ∃ (a : Addr) (bs : List Bool), xs = [V.ref a] ∧ SqL k.K H a (bs.map V.bl) ∧ Q (.bl (g bs)) H := by
  obtain ⟨w, rfl⟩ := List.length_eq_one_iff.mp hl
  obtain ⟨F, ι, a, v, ha, e, c⟩ := aft1 hd h
  rw [hf] at e
  split at e
  · obtain ⟨ns, e2, rfl⟩ := map_some e
    obtain ⟨p, us, rfl, hl, t⟩ := isS_lst ha
    rw [boolsI_eq e2] at t
    rw [t.bools] at hl
    exact ⟨p, ns, rfl, lst_sq hl, c.bl⟩
  · cases e
theorem ru_tuple {xs : List V} (h : Aft k cl .tuple Q xs H) (hl : xs.length = 1) : ∃ p ys, xs = [.ref p] ∧ ((SqL k.K H p ys ∧ ∀ l, H l = none → Q (.ref l) (upd H l (.tup ys))) ∨ (SqT k.K H p ys ∧ Q (.ref p) H)) := by
  obtain ⟨w, rfl⟩ := List.length_eq_one_iff.mp hl
  obtain ⟨F, ι, a, v, ha, e, c⟩ := aft1 rfl h
  unfold opD at e
  simp only at e
  split at e
  · cases e
    obtain ⟨p, us, rfl, hl, t⟩ := isS_lst ha
    exact ⟨p, us, rfl, .inl ⟨lst_sq hl, c.tup _ rfl _ t⟩⟩
  · cases e
    obtain ⟨p, us, rfl, hl, t⟩ := isS_tup ha
    exact ⟨p, us, rfl, .inr ⟨tup_sq hl, c.tupO hl t⟩⟩
  · cases e
theorem ru_list {xs : List V} (h : Aft k cl .list Q xs H) (hl : xs.length = 1) : ∃ p ys, xs = [.ref p] ∧ (SqL k.K H p ys ∨ SqT k.K H p ys) ∧ ∀ l, H l = none → Q (.ref l) (upd H l (.lst ys)) := by
  obtain ⟨w, rfl⟩ := List.length_eq_one_iff.mp hl
  obtain ⟨F, ι, a, v, ha, e, c⟩ := aft1 rfl h
  unfold opD at e
  simp only at e
  split at e
  · cases e
    obtain ⟨p, us, rfl, hl, t⟩ := isS_lst ha
    exact ⟨p, us, rfl, .inl (lst_sq hl), c.lst _ rfl _ t⟩
  · cases e
    obtain ⟨p, us, rfl, hl, t⟩ := isS_tup ha
    exact ⟨p, us, rfl, .inr (tup_sq hl), c.lst _ rfl _ t⟩
  · cases e
theorem ru_intc {xs : List V} (h : Aft k cl .int Q xs H) (hl : xs.length = 1) : (∃ i, xs = [.int i] ∧ Q (.int i) H) ∨ ∃ k, xs = [.bl k] ∧ Q (.int (if k then 1 else 0)) H := by
  obtain ⟨w, rfl⟩ := List.length_eq_one_iff.mp hl
  obtain ⟨F, ι, a, v, ha, e, c⟩ := aft1 rfl h
  unfold opD at e
  simp only at e
  split at e
  · cases e
    cases isS_int ha
    exact .inl ⟨_, rfl, c.int⟩
  · cases e
    cases isS_bl ha
    exact .inr ⟨_, rfl, c.int⟩
  · cases e
theorem ru_boolc {xs : List V} (h : Aft k cl .bool Q xs H) (hl : xs.length = 1) : (∃ i, xs = [.int i] ∧ Q (.bl (i != 0)) H) ∨ ∃ k, xs = [.bl k] ∧ Q (.bl k) H := by
  obtain ⟨w, rfl⟩ := List.length_eq_one_iff.mp hl
  obtain ⟨F, ι, a, v, ha, e, c⟩ := aft1 rfl h
  unfold opD at e
  simp only at e
  split at e
  · cases e
    cases isS_int ha
    exact .inl ⟨_, rfl, c.bl⟩
  · cases e
    cases isS_bl ha
    exact .inr ⟨_, rfl, c.bl⟩
  · cases e
def rStr2 : List V → Hp → VK → Prop := fun xs H Q => (∃ i : Int, xs = [.int i] ∧ i.natAbs.log2 < 1920 ∧ Q (.str (toString i)) H) ∨ ∃ a, xs = [.str a] ∧ Q (.str a) H
theorem call_str2 : CallR X (.type "str") rStr2 := CallR.or call_str_int SkE.call_str_str
theorem ru_strc {xs : List V} (h : Aft k cl .str Q xs H) (hl : xs.length = 1) : rStr2 xs H Q := by
  obtain ⟨w, rfl⟩ := List.length_eq_one_iff.mp hl
  obtain ⟨F, ι, a, v, ha, e, c⟩ := aft1 rfl h
  unfold opD at e
  simp only at e
  split at e
  · obtain ⟨hz, e⟩ := if_some e
    cases e
    cases isS_int ha
    exact .inl ⟨_, rfl, hz, c.str⟩
  · cases e
    cases isS_str ha
    exact .inr ⟨_, rfl, c.str⟩
  · cases e
theorem ru_min {xs : List V} (h : Aft k cl .min Q xs H) (hl : xs.length = 2) : ∃ i j, xs = [.int i, .int j] ∧ Q (.int (if j < i then j else i)) H := by
  obtain ⟨w, u, rfl⟩ : ∃ w u, xs = [w, u] := by
    match xs, hl with
    | [w, u], _ => exact ⟨w, u, rfl⟩
  obtain ⟨F, ι, a, b, v, ha, hb, e, c⟩ := aft2 rfl h
  unfold opD at e
  simp only at e
  split at e
  · cases e
    cases isS_int ha
    cases isS_int hb
    exact ⟨_, _, rfl, c.int⟩
  · cases e
theorem ru_max {xs : List V} (h : Aft k cl .max Q xs H) (hl : xs.length = 2) : ∃ i j, xs = [.int i, .int j] ∧ Q (.int (if j > i then j else i)) H := by
  obtain ⟨w, u, rfl⟩ : ∃ w u, xs = [w, u] := by
    match xs, hl with
    | [w, u], _ => exact ⟨w, u, rfl⟩
  obtain ⟨F, ι, a, b, v, ha, hb, e, c⟩ := aft2 rfl h
  unfold opD at e
  simp only at e
  split at e
  · cases e
    cases isS_int ha
    cases isS_int hb
    exact ⟨_, _, rfl, c.int⟩
  · cases e
theorem sqT_ty {K : PySem.W.Frag} {a : Addr} {xs : List V} (h : SqT K H a xs) : TyX K H (.ref a) (.type "tuple") := by
  rcases h with (h | ⟨o, h⟩) | ⟨o, its, n, h, hc, _⟩
  · exact .base (.tup h)
  · exact .fTuple h
  · exact .kTuple h hc
theorem isT_of {d : I} {t : Ty} {b : Bool} (h : IsS k F ι H x d) (e : isTy d t = some b) : ∃ u : String, TyX k.K H x (.type u) ∧ kitB u t.name = some b := by
  have lst : ∀ {a : Addr} {xs : List V} {ys : List I}, H a = some (.lst xs) → isTy (.lst ys) t = some b → ∃ u : String, TyX k.K H (.ref a) (.type u) ∧ kitB u t.name = some b := fun h e => by
    cases e; exact ⟨_, .base (.lst h), by cases t <;> decide +kernel⟩
  have dic : ∀ {a : Addr} {kvs : List (Key × V)} {ks : List Key} {ys : List I}, H a = some (.dK kvs) → isTy (.dic ks ys) t = some b → ∃ u : String, TyX k.K H (.ref a) (.type u) ∧ kitB u t.name = some b := fun h e => by
    cases e; exact ⟨_, .base (.dK h), by cases t <;> decide +kernel⟩
  have dit : ∀ {a : Addr} {kvs : List (List Key × V)} {ks : List (List Key)} {ys : List I}, H a = some (.dT kvs) → isTy (.dit ks ys) t = some b → ∃ u : String, TyX k.K H (.ref a) (.type u) ∧ kitB u t.name = some b := fun h e => by
    cases e; exact ⟨_, .base (.dT h), by cases t <;> decide +kernel⟩
  cases h with
  | of h =>
    cases h with
    | non => cases e; exact ⟨_, .base .non, by cases t <;> decide +kernel⟩
    | bl b => cases e; exact ⟨_, .base (.bl b), by cases t <;> decide +kernel⟩
    | int b => cases e; exact ⟨_, .base (.int b), by cases t <;> decide +kernel⟩
    | str b => cases e; exact ⟨_, .base (.str b), by cases t <;> decide +kernel⟩
    | tup h _ => cases e; exact ⟨_, sqT_ty (tup_sq h), by cases t <;> decide +kernel⟩
    | wtp h _ => cases e; exact ⟨_, sqT_ty h, by cases t <;> decide +kernel⟩
    | lst h _ _ => exact lst h e
    | dic h _ _ _ => exact dic h e
    | dit h _ _ _ => exact dit h e
    | scr _ => cases e
    | obj _ => cases e
  | lst h _ => exact lst h e
  | dic h _ _ => exact dic h e
  | dit h _ _ => exact dit h e
theorem ru_isT {t : Ty} (h : Aft k cl (.isT t) Q [x] H) : rIsi k.K [x, .ty t.name] H Q := by
  obtain ⟨F, ι, a, v, ha, e, c⟩ := aft1 rfl h
  obtain ⟨r, e2, rfl⟩ := map_some (show (isTy a t).map I.bl = some v from e)
  obtain ⟨u, h1, h2⟩ := isT_of ha e2
  exact ⟨x, _, _, _, r, rfl, .ty _, h1, kit_ty h2, c.bl⟩
/-! ### truth -/
theorem tru_of {d : I} {b : Bool} (h : IsS k F ι H x d) (e : truth d = some b) : TruV k.K x H b := by
  have lst : ∀ {a : Addr} {xs : List V} {ys : List I}, H a = some (.lst xs) → IsIs k F ι H xs ys → truth (.lst ys) = some b → TruV k.K (.ref a) H b := fun h t e => by
    cases e
    refine .inl ⟨_, lst_sq h, ?_⟩
    cases t <;> rfl
  cases h with
  | of h =>
    cases h with
    | non => cases e; rfl
    | bl b => cases e; rfl
    | int b => cases e; rfl
    | str b =>
      have e : (if b.length ≤ sizeLine then some ((b.length : Int) != 0) else none) = some _ := e
      obtain ⟨hz, e⟩ := if_some e
      cases e
      exact ⟨hz, rfl⟩
    | tup h t =>
      cases e
      refine .inr (.inl ⟨_, tup_sq h, ?_⟩)
      cases t <;> rfl
    | wtp h t =>
      cases e
      refine .inr (.inl ⟨_, h, ?_⟩)
      cases t <;> rfl
    | lst h _ t => exact lst h t e
    | dic h _ _ _ => cases e
    | dit h _ _ _ => cases e
    | scr _ => cases e
    | obj _ => cases e
  | lst h t => exact lst h t e
  | dic _ _ _ => cases e
  | dit _ _ _ => cases e
end
/-! ### methods -/
section
variable {X : Cx} {k : Kx} {Q : VK} {H : Hp} {σ : L2.St} {W : WX} {Φ : Oracle}
/-- the receiver, then the arguments -/
theorem meth_imp {m : Mth} {o : C} {as : Cs} (h : tE k Φ W (.meth m o as) σ H Q) :
    tE k Φ W o σ H fun x H1 => (∃ F ι d, IsS k F ι H1 x d ∧ recv m d = true) ∧ tA k Φ W as σ H1 fun xs H2 => ∃ F ι M v vs r, CsOk k F ι H2 M ∧ IsI k F ι H2 x v ∧ IsIs k F ι H2 xs vs ∧ mthD M m v vs = some r ∧ CN k F ι H2 r false Q := by
  obtain ⟨F, ι, τ, M, S, f⟩ := h
  unfold evE at f
  refine ⟨F, ι, τ, M, S, f.bind fun v M1 x ι1 H1 S1 s1 i1 f1 => ?_⟩
  split at f1
  · rename_i hr
    refine ⟨⟨F, ι1, _, sh_ok S1.cs i1, hr⟩, F, ι1, τ, M1, S1, f1.bindA fun vs M2 xs ι2 H2 S2 s2 i2 f2 => ?_⟩
    cases e : mthD M2 m v vs with
    | none => rw [e] at f2; exact f2.elim
    | some r => rw [e] at f2; exact ⟨F, ι2, M2, v, vs, r, S2.cs, i1.go s2, i2, e, Fin.cn S2 f2⟩
  · exact f1.elim
theorem join_imp {o a : C} (h : tE k Φ W (.meth .join o (.cons a .nil)) σ H Q) : tM1 (fun x xs H Q => ∃ a p, ∃ ys : List Str, x = .str a ∧ xs = [.ref p] ∧ (SqL k.K H p (ys.map V.str) ∨ SqT k.K H p (ys.map V.str)) ∧
      (ys.map (·.length)).sum + ys.length * a.length ≤ 16777216 ∧ Q (.str (Txt.join a ys)) H) (tE k Φ W o) (tE k Φ W a) σ H Q := by
  refine tE.mono (meth_imp h) fun x H1 q => ?_
  obtain ⟨⟨F, ι, d, hd, hr⟩, q⟩ := q
  have hs : ∃ s, d = .str s := by
    cases d <;> first | exact ⟨_, rfl⟩ | cases hr
  obtain ⟨s, rfl⟩ := hs
  refine ⟨⟨s, isS_str hd⟩, tE.mono (tA_1 q) fun y H2 q2 => ?_⟩
  obtain ⟨F2, ι2, M, v, vs, r, C, i, is, e, c⟩ := q2
  cases isS_str hd
  cases i
  cases is with
  | cons i2 t =>
    cases t
    unfold mthD at e
    dsimp only at e
    split at e
    · rename_i ys e1
      obtain ⟨zs, e2, e⟩ := Option.bind_eq_some_iff.mp e
      obtain ⟨hz, e⟩ := if_some e
      cases e
      have := sh_ok C i2
      rw [e1] at this
      obtain ⟨p, us, rfl, hp, t⟩ := isS_lst this
      rw [strsI_eq e2] at t
      rw [t.strs] at hp
      exact ⟨s, p, zs, rfl, rfl, .inl (lst_sq hp), hz, c.str⟩
    · cases e
theorem split_imp {o a : C} (h : tE k Φ W (.meth .split o (.cons a .nil)) σ H Q) : tM1 (fun x xs H Q => ∃ a b, x = .str a ∧ xs = [.str b] ∧ (b.length == 0) = false ∧ a.length + 2 ≤ sizeLine ∧ rNewStrs (Txt.split a b) H Q) (tE k Φ W o) (tE k Φ W a) σ H Q := by
  refine tE.mono (meth_imp h) fun x H1 q => ?_
  obtain ⟨⟨F, ι, d, hd, hr⟩, q⟩ := q
  have hs : ∃ s, d = .str s := by
    cases d <;> first | exact ⟨_, rfl⟩ | cases hr
  obtain ⟨s, rfl⟩ := hs
  refine ⟨⟨s, isS_str hd⟩, tE.mono (tA_1 q) fun y H2 q2 => ?_⟩
  obtain ⟨F2, ι2, M, v, vs, r, C, i, is, e, c⟩ := q2
  cases isS_str hd
  cases i
  cases is with
  | cons i2 t =>
    cases t
    rename_i w
    cases w <;> first | (cases e; done) | skip
    cases i2
    obtain ⟨⟨h1, h2⟩, e⟩ := if_some e
    cases e
    exact ⟨_, _, rfl, rfl, h1, h2, c.lst _ rfl _ (IsIs.mapP (fun n => .str n) _)⟩
theorem getD_val {F : Addr → Prop} {ι : List Addr} {kvs : List (Key × V)} {ks : List Key} {xs : List I} {j : Key} {d : I} {z : V} (e : kvs.map (·.1) = ks) (h : IsIs k F ι H (kvs.map (·.2)) xs) (hz : IsI k F ι H z d) : IsI k F ι H ((valV kvs j).getD z) ((atK ks xs j).getD d) := by
  have := atK_val (j := j) e h
  cases e2 : atK ks xs j with
  | none => rw [this.2 e2]; exact hz
  | some d => obtain ⟨v, e3, q⟩ := this.1 d e2; rw [e3]; exact q
theorem dic_isD {F : Addr → Prop} {ι : List Addr} {d : I} {x : V} (hd : IsS k F ι H x d) (hr : recv .get1 d = true ∨ recv .get2 d = true) : ∃ a, x = .ref a ∧ L2.IsD H a := by
  have : ∃ ks xs, d = .dic ks xs := by
    cases d <;> first | exact ⟨_, _, rfl⟩ | (rcases hr with z | z <;> cases z)
  obtain ⟨ks, xs, rfl⟩ := this
  obtain ⟨p, kvs, rfl, hp, _⟩ := isS_dic hd
  exact ⟨p, rfl, .inl ⟨kvs, .inl hp⟩⟩
theorem get1_imp {o a : C} (h : tE k Φ W (.meth .get1 o (.cons a .nil)) σ H Q) : tDGet1 (tE k Φ W o) (tE k Φ W a) σ H Q := by
  refine tE.mono (meth_imp h) fun x H1 q => ?_
  obtain ⟨⟨F, ι, d, hd, hr⟩, q⟩ := q
  obtain ⟨p, rfl, hp⟩ := dic_isD hd (.inl hr)
  refine ⟨p, rfl, hp, tE.mono (tA_1 q) fun y H2 q2 => ?_⟩
  obtain ⟨F2, ι2, M, v, vs, r, C, i, is, e, c⟩ := q2
  cases is with
  | cons i2 t =>
    cases t
    unfold mthD at e
    dsimp only at e
    split at e
    · rename_i e1
      obtain ⟨kk, e2, rfl⟩ := map_some e
      have := sh_ok C i
      rw [e1] at this
      obtain ⟨p', kvs, e3, hp, ek, t⟩ := isS_dic this
      cases e3
      refine ⟨_, ?_, c.imm (.inl rfl) _ (getD_val ek t .non)⟩
      rw [keyI_of i2 e2]
      exact .k hp
    · cases e
theorem get2_imp {o a b : C} (h : tE k Φ W (.meth .get2 o (.cons a (.cons b .nil))) σ H Q) : tDGet2 (tE k Φ W o) (tE k Φ W a) (tE k Φ W b) σ H Q := by
  refine tE.mono (meth_imp h) fun x H1 q => ?_
  obtain ⟨⟨F, ι, d, hd, hr⟩, q⟩ := q
  obtain ⟨p, rfl, hp⟩ := dic_isD hd (.inr hr)
  refine ⟨p, rfl, hp, tE.mono (tA_2 q) fun y H2 q2 => tE.mono q2 fun z H3 q3 => ?_⟩
  obtain ⟨F2, ι2, M, v, vs, r, C, i, is, e, c⟩ := q3
  cases is with
  | cons i2 t =>
    cases t with
    | cons i3 t =>
      cases t
      unfold mthD at e
      dsimp only at e
      split at e
      · rename_i e1
        obtain ⟨kk, e2, rfl⟩ := map_some e
        have := sh_ok C i
        rw [e1] at this
        obtain ⟨p', kvs, e3, hp, ek, t⟩ := isS_dic this
        cases e3
        refine ⟨_, ?_, c.imm (.inl rfl) _ (getD_val ek t i3)⟩
        rw [keyI_of i2 e2]
        exact .k hp
      · cases e
theorem firstAt_ok {ds : List PyData} {d : PyData} {n : Nat} (h : firstAt ds d = some n) : ∃ z, ds[n]? = some z ∧ PyData.eqv z d = true ∧ ∀ m z', m < n → ds[m]? = some z' → PyData.eqv z' d = false := by
  unfold firstAt at h
  obtain ⟨hn, h1, h2⟩ := List.findIdx?_eq_some_iff_getElem.mp h
  refine ⟨_, List.getElem?_eq_getElem hn, h1, fun m z' hm e => ?_⟩
  obtain ⟨hl, e⟩ := List.getElem?_eq_some_iff.mp e
  have := h2 m hm
  rw [e] at this
  simpa using this
theorem index_imp {o a : C} (h : tE k Φ W (.meth .index o (.cons a .nil)) σ H Q) : tBM k.K "list" (rIndexD k.K) (tE k Φ W o) (tA k Φ W (.cons a .nil)) σ H Q := by
  refine tE.mono (meth_imp h) fun x H1 q => ?_
  obtain ⟨⟨F, ι, d, hd, hr⟩, F0, ι0, τ0, M0, S0, f0⟩ := q
  have hs : ∃ s, d = .lst s := by
    cases d <;> first | exact ⟨_, rfl⟩ | cases hr
  obtain ⟨s, rfl⟩ := hs
  obtain ⟨p, us, rfl, hp, _⟩ := isS_lst hd
  refine ⟨.inl ⟨rfl, _, lst_sq hp⟩, F0, ι0, τ0, M0, S0, f0.mono fun xs H2 q2 => ?_⟩
  obtain ⟨F2, ι2, M, v, vs, r, C, i, is, e, c⟩ := q2
  cases is with
  | nil => cases e
  | cons i2 t =>
    cases t with
    | cons i3 t => cases e
    | nil =>
      unfold mthD at e
      dsimp only at e
      split at e
      · rename_i ys z e1 e2
        obtain ⟨hc, e⟩ := if_some e
        obtain ⟨n, e3, rfl⟩ := map_some e
        unfold I.fit at hc
        simp only [Bool.and_eq_true] at hc
        have h1 := (frz_read C e1 i).dp hc.1.1
        have h2 := (frz_read C e2 i2).dp hc.2.1
        obtain ⟨w, g1, g2, g3⟩ := firstAt_ok e3
        exact ⟨p, _, _, _, n, w, rfl, rfl, h1, h2, hc.1.2, hc.2.2, g1, g2, g3, c.int⟩
      · cases e
/-- a[b:c] -/
theorem sl2_imp {a b c : C} (h : tE k Φ W (.sl2 a b c) σ H Q) : tE k Φ W a σ H fun x H1 => tE k Φ W b σ H1 fun y H2 => ∃ i, y = .int i ∧ tE k Φ W c σ H2 fun z H3 => ∃ j, z = .int j ∧ rSl3 k.K x (some i) (some j) H3 Q := by
  obtain ⟨F, ι, τ, M, S, f⟩ := h
  unfold evE at f
  refine ⟨F, ι, τ, M, S, f.bind fun v M1 x ι1 H1 S1 s1 i1 f1 => ⟨F, ι1, τ, M1, S1, f1.bind fun u M2 y ι2 H2 S2 s2 i2 f2 => ?_⟩⟩
  split at f2
  · cases i2
    refine ⟨_, rfl, F, ι2, τ, M2, S2, f2.bind fun w M3 z ι3 H3 S3 s3 i3 f3 => ?_⟩
    split at f3
    · cases i3
      refine ⟨_, rfl, ?_⟩
      rename_i lo _ hi
      cases e : sliceD (sh M3 v) (some lo) (some hi) with
      | none => rw [e] at f3; exact f3.elim
      | some r => rw [e] at f3; exact sl_of (sh_ok S3.cs ((i1.go s2).go s3)) e (Fin.cn S3 f3)
    · exact f3.elim
  · exact f2.elim
end
end Rs

/-! second layer, part g: the text against the language -/
namespace Rs
open PySem PySem.Spec PyProof.Rows L2

/-- a program's text: slot names of the def at hand, defs by number, constants -/
structure Ctx where
  N : List Str
  fns : List (Str × List Str)
  glb : List (Str × I)
  kws : List (Nat × List Str × List Nat) := []
  excs : List Str := []

def plainN (x : Str) : Bool := !(x == ("__debug__" : Str)) && !(x == ("__classdict__" : Str)) && !decide (x = ("__name__" : Str))
def visB (sc : Scope) (x : Str) : Bool := match sc.names.lookup x with
  | some .local => true
  | some .cell => true
  | some .free => true
  | _ => false
def glB (sc : Scope) (x : Str) : Bool := decide (sc.names.lookup x = some .globalImplicit) && plainN x
def locB (sc : Scope) (x : Str) : Bool := decide (sc.names.lookup x = some .local)
def cnt : I → Const → Bool
  | .non, .none => true
  | .bl a, .bool b => decide (a = b)
  | .int a, .int b => decide (a = b)
  | .str a, .str b => decide (a = b)
  | _, _ => false
/-- an operation's parts in the text -/
def bltName : Op → Option String
  | .len => some "len" | .abs => some "abs" | .sum => some "sum" | .tuple => some "tuple" | .list => some "list" | .int => some "int" | .str => some "str" | .bool => some "bool" | .all => some "all" | .any => some "any"
  | _ => none
def bltName2 : Op → Option String
  | .min => some "min" | .max => some "max"
  | _ => none
def isTyName : Ty → Str := fun t => Str.ofString t.name
def shape (sc : Scope) : Op → Expr → Option (List Expr)
  | .add, .BinOp a .Add b _ => some [a, b]
  | .sub, .BinOp a .Sub b _ => some [a, b]
  | .mul, .BinOp a .Mult b _ => some [a, b]
  | .fdiv, .BinOp a .FloorDiv b _ => some [a, b]
  | .mod, .BinOp a .Mod b _ => some [a, b]
  | .pow, .BinOp a .Pow b _ => some [a, b]
  | .neg, .UnaryOp .USub a _ => some [a]
  | .eq, .Compare a [.Eq] [b] _ => some [a, b]
  | .ne, .Compare a [.NotEq] [b] _ => some [a, b]
  | .lt, .Compare a [.Lt] [b] _ => some [a, b]
  | .le, .Compare a [.LtE] [b] _ => some [a, b]
  | .gt, .Compare a [.Gt] [b] _ => some [a, b]
  | .ge, .Compare a [.GtE] [b] _ => some [a, b]
  | .isN, .Compare a [.Is] [.Constant .none _ _] _ => some [a]
  | .notN, .Compare a [.IsNot] [.Constant .none _ _] _ => some [a]
  | .isB false b, .Compare a [.Is] [.Constant (.bool c) _ _] _ => if decide (b = c) then some [a] else none
  | .isB true b, .Compare a [.IsNot] [.Constant (.bool c) _ _] _ => if decide (b = c) then some [a] else none
  | .inn, .Compare a [.In] [b] _ => some [a, b]
  | .notin, .Compare a [.NotIn] [b] _ => some [a, b]
  | .slice false false, .Subscript a (.Slice none none none _) _ => some [a]
  | .slice true false, .Subscript a (.Slice (some b) none none _) _ => some [a, b]
  | .slice false true, .Subscript a (.Slice none (some b) none _) _ => some [a, b]
  | .rev, .Subscript a (.Slice none none (some (.UnaryOp .USub (.Constant (.int 1) _ _) _)) _) _ => some [a]
  | .revT, .Subscript a (.Slice none none (some (.UnaryOp .USub (.Constant (.int 1) _ _) _)) _) _ => some [a]
  | .ix, .Subscript a b _ => some [a, b]
  | .isT t, .Call (.Name x _) [a, .Name y _] [] _ => if decide (x = ("isinstance" : Str)) && decide (y = isTyName t) && glB sc x && glB sc y then some [a] else none
  | o, .Call (.Name x _) [a] [] _ => match bltName o with
    | some n => if decide (x = Str.ofString n) && glB sc x then some [a] else none
    | none => none
  | o, .Call (.Name x _) [a, b] [] _ => match bltName2 o with
    | some n => if decide (x = Str.ofString n) && glB sc x then some [a, b] else none
    | none => none
  | _, _ => none
def Op.cmp : Op → Bool
  | .eq => true | .ne => true | .lt => true | .le => true | .gt => true | .ge => true | .isN => true | .notN => true | .inn => true | .notin => true | .isB _ _ => true
  | _ => false
/-- links of a chain -/
def link : Op → Option CmpOp
  | .lt => some .Lt | .le => some .LtE | .eq => some .Eq
  | _ => none
def mthName : Mth → String
  | .join => "join" | .split => "split" | .get1 => "get" | .get2 => "get" | .index => "index"
def mthArgs : Mth → Nat
  | .get2 => 2
  | _ => 1
/-- receivers that are looked up as they stand -/
def plainRecv : Expr → Bool
  | .Name _ _ => true
  | .Constant _ _ _ => true
  | .Subscript _ _ _ => true
  | .Attribute _ _ _ => true
  | .List _ _ => true
  | .Tuple _ _ _ => true
  | _ => false
/-- the names as they stand within a comprehension -/
def relS (sc scope : Scope) : Scope := { scope with names := scope.names.map fun (n, k) => if (k == NameKind.free && sc.kind == .function && sc.names.lookup n == some .cell) then (n, NameKind.cell) else (n, k) }
def ownP (N : List Str) (own : List Nat) : List (Str × Nat) := own.map fun i => (N.getD i "", i)
mutual
def ckT (N : List Str) (cel : Bool) (sc : Scope) (own : List Nat) : Tg → Expr → Bool
  | .nm i, .Name x _ => decide (N[i]? = some x) && (locB sc x || cel && decide (sc.names.lookup x = some .cell)) && own.contains i
  | .tup ts, .Tuple es _ _ => ckTs N cel sc own ts es
  | _, _ => false
def ckTs (N : List Str) (cel : Bool) (sc : Scope) (own : List Nat) : Tgs → List Expr → Bool
  | .nil, [] => true
  | .cons t ts, e :: es => ckT N cel sc own t e && ckTs N cel sc own ts es
  | _, _ => false
end
def Cs.len : Cs → Nat
  | .nil => 0
  | .cons _ cs => cs.len + 1
def Tgs.len : Tgs → Nat
  | .nil => 0
  | .cons _ ts => ts.len + 1
def kwNames : List Keyword → Option (List Str)
  | [] => some []
  | ⟨some n, _, _⟩ :: r => (kwNames r).map (n :: ·)
  | _ => none
/-- the values in the parameters' order -/
def pick {α : Type} (ord : List Nat) (ws : List α) : List α := ord.filterMap (ws[·]?)
def gK {α : Type} (ord : List Nat) (us ws : List α) : List α := match us with
  | [] => pick ord ws
  | _ => []
/-- expressions whose list or dict is a new one -/
def C.makes : C → Bool
  | .op o _ => o.makes
  | .disp false _ => true
  | .dict _ => true
  | .comp _ _ _ _ _ => true
  | _ => false
mutual
def ckE (Γ : Ctx) : Scope → C → Expr → Bool
  | _, .const x, .Constant c _ _ => cnt x c
  | sc, .glob x v, .Name y _ => decide (x = y) && glB sc y && Γ.glb.any fun p => decide (p.1 = x) && I.same p.2 v
  | sc, .var i, .Name x _ => decide (Γ.N[i]? = some x) && visB sc x && plainN x
  | sc, .op o as, e => match shape sc o e with
    | some es => ckEs Γ sc as es
    | none => false
  | sc, .disp true as, .Tuple es _ _ => ckEs Γ sc as es
  | sc, .disp false as, .List es _ => ckEs Γ sc as es
  | sc, .cell c, e => c.makes && ckE Γ sc c e
  | _, .dict _, .Dict [] [] _ => true
  | sc, .call f as, .Call (.Name x _) es [] _ => (match Γ.fns[f]? with
    | some p => decide (p.1 = x)
    | none => false) && glB sc x && !es.isEmpty && ckEs Γ sc as es
  | sc, .callk f ord as, .Call (.Name x _) [] kws _ => (match Γ.fns[f]? with
    | some p => decide (p.1 = x) && decide (ord.length = p.2.length)
    | none => false) && glB sc x && ckKs Γ sc as kws && (match kwNames kws with
    | some ks => Γ.kws.contains (f, ks, ord) && decide (ks.length = ord.length)
    | none => false) && decide ord.Nodup && (ord.all fun j => decide (j < ord.length)) && !kws.isEmpty
  | sc, .and a b, .BoolOp .And (ea :: eb :: r) pos => ckE Γ sc a ea && (match r with
    | [] => ckE Γ sc b eb
    | _ => ckE Γ sc b (.BoolOp .And (eb :: r) pos))
  | sc, .or a b, .BoolOp .Or (ea :: eb :: r) pos => ckE Γ sc a ea && (match r with
    | [] => ckE Γ sc b eb
    | _ => ckE Γ sc b (.BoolOp .Or (eb :: r) pos))
  | sc, .not a, .UnaryOp .Not e _ => ckE Γ sc a e
  | sc, .ife t a b, .IfExp et ea eb _ => ckE Γ sc t et && ckE Γ sc a ea && ckE Γ sc b eb
  | sc, .chain o p a b c, .Compare ea [o', p'] [eb, ec] _ => decide (link o = some o') && decide (link p = some p') && ckE Γ sc a ea && ckE Γ sc b eb && ckE Γ sc c ec
  | sc, .sl2 a b c, .Subscript ea (.Slice (some eb) (some ec) none _) _ => ckE Γ sc a ea && ckE Γ sc b eb && ckE Γ sc c ec
  | sc, .meth m o as, .Call (.Attribute eo name ap) es [] cp => decide (name = Str.ofString (mthName m)) && plainRecv eo && (ap.endLine == cp.line) && decide (es.length = mthArgs m) && ckE Γ sc o eo && ckEs Γ sc as es
  | sc, .app o a, .Call (.Attribute eo name ap) [e] [] cp => decide (name = ("append" : Str)) && plainRecv eo && (ap.endLine == cp.line) && ckE Γ sc o eo && ckE Γ sc a e
  | sc, .ext o a, .Call (.Attribute eo name ap) [e] [] cp => decide (name = ("extend" : Str)) && plainRecv eo && (ap.endLine == cp.line) && ckE Γ sc o eo && ckE Γ sc a e
  | sc, .pop o, .Call (.Attribute eo name ap) [] [] cp => decide (name = ("pop" : Str)) && plainRecv eo && (ap.endLine == cp.line) && ckE Γ sc o eo
  | sc, .comp own elt g it ifs, .ListComp ee [⟨tg, ie, is, asy⟩] scope _ => decide (asy = 0) && blkC Γ.N sc scope (ownP Γ.N own) && ckT Γ.N false (relS sc scope) own g tg && ckIt Γ sc it tg ie && ckE Γ (relS sc scope) elt ee && ckIfs Γ (relS sc scope) ifs is
  | _, _, _ => false
def ckIfs (Γ : Ctx) : Scope → Cs → List Expr → Bool
  | _, .nil, [] => true
  | sc, .cons c .nil, [e] => ckE Γ sc c e
  | _, _, _ => false
def ckEs (Γ : Ctx) : Scope → Cs → List Expr → Bool
  | _, .nil, [] => true
  | sc, .cons c cs, e :: es => ckE Γ sc c e && ckEs Γ sc cs es
  | _, _, _ => false
def ckKs (Γ : Ctx) : Scope → Cs → List Keyword → Bool
  | _, .nil, [] => true
  | sc, .cons c cs, k :: es => ckE Γ sc c k.value && ckKs Γ sc cs es
  | _, _, _ => false
def ckIt (Γ : Ctx) : Scope → It → Expr → Expr → Bool
  | sc, .seq c, _, e => ckE Γ sc c e
  | sc, .range as, _, .Call (.Name x _) es [] _ => decide (x = ("range" : Str)) && glB sc x && ckEs Γ sc as es && (es.length == 1 || es.length == 2)
  | sc, .enum c, .Tuple _ _ _, .Call (.Name x _) [e] [] _ => decide (x = ("enumerate" : Str)) && glB sc x && ckE Γ sc c e
  | sc, .zip a b, .Tuple _ _ _, .Call (.Name x _) [ea, eb] [] _ => decide (x = ("zip" : Str)) && glB sc x && ckE Γ sc a ea && ckE Γ sc b eb
  | _, _, _, _ => false
end

section
variable {Γ : Ctx} {sc : Scope}
theorem shape_star {o : Op} {v : Expr} {p : Pos} : shape sc o (.Starred v p) = none := by
  unfold shape
  cases o <;> first | rfl | (rename_i a b; cases a <;> cases b <;> rfl)
theorem shape_set {o : Op} {v : List Expr} {k : Nat} {p : Pos} : shape sc o (.Set v k p) = none := by
  unfold shape
  cases o <;> first | rfl | (rename_i a b; cases a <;> cases b <;> rfl)
theorem shape_slice {o : Op} {a b d : Option Expr} {p : Pos} : shape sc o (.Slice a b d p) = none := by
  unfold shape
  cases o <;> first | rfl | (rename_i a b; cases a <;> cases b <;> rfl)
theorem ck_star : ∀ {c : C} {v : Expr} {p : Pos}, ckE Γ sc c (.Starred v p) = false
  | .op o as, v, p => by unfold ckE; rw [shape_star]
  | .disp t as, v, p => by cases t <;> rfl
  | .cell c, v, p => by unfold ckE; rw [ck_star, Bool.and_false]
  | .const _, _, _ => rfl | .glob _ _, _, _ => rfl | .var _, _, _ => rfl | .dict _, _, _ => rfl | .call _ _, _, _ => rfl | .callk _ _ _, _, _ => rfl | .and _ _, _, _ => rfl | .or _ _, _, _ => rfl | .not _, _, _ => rfl
  | .ife _ _ _, _, _ => rfl | .chain _ _ _ _ _, _, _ => rfl | .sl2 _ _ _, _, _ => rfl | .meth _ _ _, _, _ => rfl | .comp _ _ _ _ _, _, _ => rfl | .app _ _, _, _ => rfl | .pop _, _, _ => rfl | .ext _ _, _, _ => rfl
theorem ck_set : ∀ {c : C} {v : List Expr} {k : Nat} {p : Pos}, ckE Γ sc c (.Set v k p) = false
  | .op o as, v, k, p => by unfold ckE; rw [shape_set]
  | .disp t as, v, k, p => by cases t <;> rfl
  | .cell c, v, k, p => by unfold ckE; rw [ck_set, Bool.and_false]
  | .const _, _, _, _ => rfl | .glob _ _, _, _, _ => rfl | .var _, _, _, _ => rfl | .dict _, _, _, _ => rfl | .call _ _, _, _, _ => rfl | .callk _ _ _, _, _, _ => rfl | .and _ _, _, _, _ => rfl | .or _ _, _, _, _ => rfl | .not _, _, _, _ => rfl
  | .ife _ _ _, _, _, _ => rfl | .chain _ _ _ _ _, _, _, _ => rfl | .sl2 _ _ _, _, _, _ => rfl | .meth _ _ _, _, _, _ => rfl | .comp _ _ _ _ _, _, _, _ => rfl | .app _ _, _, _, _ => rfl | .pop _, _, _, _ => rfl | .ext _ _, _, _, _ => rfl
theorem ck_slice : ∀ {c : C} {a b d : Option Expr} {p : Pos}, ckE Γ sc c (.Slice a b d p) = false
  | .op o as, a, b, d, p => by unfold ckE; rw [shape_slice]
  | .disp t as, a, b, d, p => by cases t <;> rfl
  | .cell c, a, b, d, p => by unfold ckE; rw [ck_slice, Bool.and_false]
  | .const _, _, _, _, _ => rfl | .glob _ _, _, _, _, _ => rfl | .var _, _, _, _, _ => rfl | .dict _, _, _, _, _ => rfl | .call _ _, _, _, _, _ => rfl | .callk _ _ _, _, _, _, _ => rfl | .and _ _, _, _, _, _ => rfl | .or _ _, _, _, _, _ => rfl | .not _, _, _, _, _ => rfl
  | .ife _ _ _, _, _, _, _ => rfl | .chain _ _ _ _ _, _, _, _, _ => rfl | .sl2 _ _ _, _, _, _, _ => rfl | .meth _ _ _, _, _, _, _ => rfl | .comp _ _ _ _ _, _, _, _, _ => rfl | .app _ _, _, _, _, _ => rfl | .pop _, _, _, _, _ => rfl | .ext _ _, _, _, _, _ => rfl
/-- an expression that stands for one of the language -/
structure Nice (e : Expr) : Prop where
  star : ∀ v p, e ≠ .Starred v p
  set : ∀ v k p, e ≠ .Set v k p
  slice : ∀ a b d p, e ≠ .Slice a b d p
theorem nice_of {c : C} {e : Expr} (h : ckE Γ sc c e = true) : Nice e := ⟨fun v p z => (by rw [z, ck_star] at h; cases h), fun v k p z => (by rw [z, ck_set] at h; cases h), fun a b d p z => (by rw [z, ck_slice] at h; cases h)⟩
theorem Nice.starEach {e : Expr} (n : Nice e) (r : List Expr) (env : PySem.Env) : starEach (e :: r) env = (false, eval e env) :: starEach r env := by
  cases e <;> first | rfl | exact absurd rfl (n.star _ _)
theorem Nice.marks {e : Expr} (n : Nice e) (op : CmpOp) : behindInMarks op e = false := by
  cases e <;> first | rfl | exact absurd rfl (n.set _ _ _)
theorem Nice.ix {e : Expr} (n : Nice e) : PlainIx e := fun o i => by
  cases e <;> first | rfl | exact absurd rfl (n.slice _ _ _ _)
theorem Nice.folded {e : Expr} (n : Nice e) (env : PySem.Env) (x : Value) : foldedSetIterable e env x = pure x := by
  cases e <;> first | rfl | exact absurd rfl (n.set _ _ _)
theorem any_back {pos : Pos} {env : PySem.Env} : ∀ {es : List Expr}, (∀ e ∈ es, Nice e) → (backTo pos (starEach es env)).any (·.1) = false
  | [], _ => rfl
  | e :: es, h => by
    rw [(h e List.mem_cons_self).starEach es env]
    exact any_back fun e m => h e (List.mem_cons_of_mem _ m)
theorem recv_base {o : Expr} (h : plainRecv o = true) (name : Str) (env : PySem.Env) (w : Sem Value) : attributeBase o name env w = w := by
  cases o <;> first | rfl | cases h
theorem glB_of {X : Cx} {x : Str} (hs : X.env.scope = sc) (h : glB sc x = true) : Gl X x ∧ (x == ("__debug__" : Str)) = false ∧ x ≠ "__name__" := by
  unfold glB plainN at h
  simp only [Bool.and_eq_true, Bool.not_eq_true', decide_eq_true_eq, decide_eq_false_iff_not] at h
  refine ⟨?_, h.2.1.1, h.2.2⟩
  show X.env.scope.names.lookup x = _
  rw [hs]; exact h.1
theorem visB_of {X : Cx} {x : Str} (hs : X.env.scope = sc) (h : visB sc x = true) : Vis X.env.scope x := by
  unfold visB at h
  rw [hs]
  split at h
  · exact .inl (by assumption)
  · exact .inr (.inl (by assumption))
  · exact .inr (.inr (by assumption))
  · cases h
end

/-! ### what a def promises -/
def FinC (k : Kx) (F : Addr → Prop) (ι : List Addr) (H : Hp) (r : R I) (Q : VK) (E : XK) : Prop := match r with
  | .ok v M' => ∀ (x : V) (ι' : List Addr) (H' : Hp), CsOk k F ι' H' M' → Stp k ι H ι' H' → IsI k F ι' H' x v → Q x H'
  | .ex c M' => ∀ (ι' : List Addr) (H' : Hp), CsOk k F ι' H' M' → Stp k ι H ι' H' → E (.ref (k.xc c)) none H'
  | .no => False
def spF (k : Kx) (Φ : Oracle) (np : Nat) (f : Nat) : Sp := fun xs H Q E => xs.length = np ∧ ∃ F ι M vs, CsOk k F ι H M ∧ IsIs k F ι H xs vs ∧ FinC k F ι H (Φ f vs M) Q E

def bltsOf : List Str := ["len", "abs", "sum", "tuple", "list", "int", "str", "bool", "all", "any", "isinstance", "range", "enumerate", "zip", "dict", "min", "max", "sorted", "set", "repr"]
/-- what a body's context must have -/
structure XOk (k : Kx) (Γ : Ctx) (Φ : Oracle) (W : WX) (X : Cx) : Prop where
  K : k.K = X.K
  N : X.N = Γ.N
  nd : X.N.Nodup
  calm : X.calm = true
  tk : Takes X W
  po : PassesOwn (model X.prog X.w) X.A X.env X.xe
  hu : X.A.units + 65 < cLine
  blt : ∀ x ∈ bltsOf, X.mg x = none
  glb : ∀ p ∈ Γ.glb, ∃ u w, X.mg p.1 = some u ∧ RelV w u ∧ ∀ F ι H, IsI k F ι H w p.2
  call : ∀ (f : Nat) (x : Str) (ps : List Str), Γ.fns[f]? = some (x, ps) → ∃ (a : Addr) (fd : FuncData) (j : Nat), FnOk X.prog X.w X.K X.mg X.base (L2.CX X.prog X.w) j a fd ps (spF k Φ ps.length f) ∧ Room j X.A ∧ X.mg x = some (.ref a) ∧ PySem.W.keepIn X.K (.ref a) = true ∧ Binds X.K fd ps [] ∧
    ∀ ks ord, (f, ks, ord) ∈ Γ.kws → KBinds X.K fd ps ks (gK ord) (gK ord)
/-- a call's arity -/
def Arity (Γ : Ctx) (Φ : Oracle) : Prop := ∀ (f : Nat) (x : Str) (ps : List Str) (vs : List I) (M : Mem), Γ.fns[f]? = some (x, ps) → (∃ r, Φ f vs M = r ∧ ∀ z, r = z → z ≠ .no) → vs.length = ps.length
section
variable {k : Kx} {F : Addr → Prop} {ι : List Addr} {H : Hp} {σ : L2.St} {τ : Env} {M : Mem} {W : WX} {Φ : Oracle}
theorem Fin.call {r : R I} {Q : VK} (S : SOk k F ι H σ τ M) (f : Fin k F ι H σ τ W r Q) : FinC k F ι H r Q (WE W σ) := by
  cases r with
  | ok v M' => exact fun x ι' H' C st i => f x ι' H' (S.next st C) st i
  | ex c M' => exact fun ι' H' C st => f ι' H' (S.next st C) st
  | no => exact f
theorem call_imp {fid np : Nat} {as : Cs} {Q : VK} (h : tE k Φ W (.call fid as) σ H Q) (hnp : ∀ vs M, Φ fid vs M ≠ .no → vs.length = np) : tA k Φ W as σ H fun xs H1 => spF k Φ np fid xs H1 Q (WE W σ) := by
  obtain ⟨F, ι, τ, M, S, f⟩ := h
  unfold evE at f
  refine ⟨F, ι, τ, M, S, f.bindA fun vs M1 xs ι1 H1 S1 s1 i1 f1 => ?_⟩
  have n : Φ fid vs M1 ≠ .no := fun z => by rw [z] at f1; exact f1
  exact ⟨by rw [i1.length]; exact hnp vs M1 n, F, ι1, M1, vs, S1.cs, i1, Fin.call S1 f1⟩
theorem pick_cons {α : Type} {j : Nat} {ord : List Nat} {ws : List α} {w : α} (h : ws[j]? = some w) : pick (j :: ord) ws = w :: pick ord ws := by
  unfold pick
  rw [List.filterMap_cons, h]
theorem IsIs.pick {vs : List V} {xs : List I} (h : IsIs k F ι H vs xs) : ∀ {ord : List Nat} {us : List I}, (ord.mapM fun j => xs[j]?) = some us → IsIs k F ι H (Rs.pick ord vs) us
  | [], us, e => by cases e; exact .nil
  | j :: ord, us, e => by
    rw [List.mapM_cons] at e
    cases e1 : xs[j]? with
    | none => rw [e1] at e; cases e
    | some w =>
      cases e2 : (ord.mapM fun j => xs[j]?) with
      | none => rw [e1, e2] at e; cases e
      | some r =>
        rw [e1, e2] at e
        cases e
        obtain ⟨v, h1, h2⟩ := h.get e1
        rw [pick_cons h1]
        exact .cons h2 (IsIs.pick h e2)
theorem callk_imp {fid np : Nat} {ord : List Nat} {as : Cs} {Q : VK} (h : tE k Φ W (.callk fid ord as) σ H Q) (hnp : ∀ vs M, Φ fid vs M ≠ .no → vs.length = np) : tA k Φ W as σ H fun xs H1 => spF k Φ np fid (gK ord [] xs) H1 Q (WE W σ) := by
  obtain ⟨F, ι, τ, M, S, f⟩ := h
  unfold evE at f
  refine ⟨F, ι, τ, M, S, f.bindA fun vs M1 xs ι1 H1 S1 s1 i1 f1 => ?_⟩
  split at f1
  · rename_i us e
    split at f1
    · have n : Φ fid us M1 ≠ .no := fun z => by rw [z] at f1; exact f1
      have i2 := i1.pick e
      exact ⟨by show (Rs.pick ord xs).length = np; rw [i2.length]; exact hnp us M1 n, F, ι1, M1, us, S1.cs, i2, Fin.call S1 f1⟩
    · exact f1.elim
  · exact f1.elim
end
end Rs

/-! second layer, part h: operations in the text, displays, tests -/
namespace Rs
open PySem PySem.Spec PyProof.Rows L2
section
variable {Γ : Ctx} {Φ : Oracle} {W : WX} {X : Cx} {sc : Scope} {k : Kx} {cl : Bool}
theorem two_imp {op : Op} {ca cb : C} {r : R2} {σ : L2.St} {H : Hp} {Q : VK} (i : ∀ x y H, Aft k cl op Q [x, y] H → r x y H Q) (q : tE k Φ W (mkC cl (.op op (.cons ca (.cons cb .nil)))) σ H Q) : tOp r (tE k Φ W ca) (tE k Φ W cb) σ H Q :=
  tE.mono (tA_2 (op_tA q)) fun x H1 q1 => tE.mono q1 fun y H2 q2 => i x y H2 q2
theorem one_imp {op : Op} {ca : C} {σ : L2.St} {H : Hp} {Q : VK} {R : V → Hp → Prop} (i : ∀ x H, Aft k cl op Q [x] H → R x H) (q : tE k Φ W (mkC cl (.op op (.cons ca .nil))) σ H Q) : tE k Φ W ca σ H R :=
  tE.mono (tA_1 (op_tA q)) fun x H1 q1 => i x H1 q1
theorem evEs_len : ∀ (cs : Cs) {τ : Env} {M M' : Mem} {vs : List I}, evEs Φ cs τ M = .ok vs M' → vs.length = cs.len
  | .nil, τ, M, M', vs, h => by unfold evEs at h; cases h; rfl
  | .cons c cs, τ, M, M', vs, h => by
    unfold evEs at h
    cases e1 : evE Φ c τ M with
    | no => rw [e1] at h; cases h
    | ex _ _ => rw [e1] at h; cases h
    | ok v M1 =>
      rw [e1] at h
      have h : (evEs Φ cs τ M1).bind (fun vs M2 => .ok (v :: vs) M2) = .ok vs M' := h
      cases e2 : evEs Φ cs τ M1 with
      | no => rw [e2] at h; cases h
      | ex _ _ => rw [e2] at h; cases h
      | ok us M2 => rw [e2] at h; cases h; exact congrArg (· + 1) (evEs_len cs e2)
theorem tA.mono {cs : Cs} {σ : L2.St} {H : Hp} {Q Q' : List V → Hp → Prop} (h : tA k Φ W cs σ H Q) (i : ∀ x H1, x.length = cs.len → Q x H1 → Q' x H1) : tA k Φ W cs σ H Q' := by
  obtain ⟨F, ι, τ, M, S, f⟩ := h
  refine ⟨F, ι, τ, M, S, ?_⟩
  cases e : evEs Φ cs τ M with
  | no => rw [e] at f; exact f
  | ex _ _ => rw [e] at f; exact f
  | ok vs M' =>
    rw [e] at f
    exact fun x ι1 H1 S1 s1 i1 => i x H1 (by rw [i1.length]; exact evEs_len cs e) (f x ι1 H1 S1 s1 i1)
theorem PEs.inv1 {es : List Expr} {a : Expr} {cs : Cs} (h : PEs k X W Φ es cs) (e : es = [a]) : ∃ ca, cs = .cons ca .nil ∧ PE X a (tE k Φ W ca) := by
  subst e
  cases h with
  | cons h1 s1 t1 => cases t1; exact ⟨_, rfl, h1⟩
theorem PEs.inv2 {es : List Expr} {a b : Expr} {cs : Cs} (h : PEs k X W Φ es cs) (e : es = [a, b]) : ∃ ca cb, cs = .cons ca (.cons cb .nil) ∧ PE X a (tE k Φ W ca) ∧ PE X b (tE k Φ W cb) := by
  subst e
  cases h with
  | cons h1 s1 t1 => cases t1 with
    | cons h2 s2 t2 => cases t2; exact ⟨_, _, rfl, h1, h2⟩
/-- a built-in function of one argument, of two -/
theorem blt_fn {op : Op} {id : String} {x : Str} {p pos : Pos} {a : Expr} {ca : C} {r : List V → Hp → VK → Prop} (hc : CallR X (.builtin id) r) (hg : Gl X x) (hm : X.mg x = none) (hv : bootBuiltins x = some (.builtin id)) (hn : x ≠ "__name__") (hdb : (x == ("__debug__" : Str)) = false)
    (P : PEs k X W Φ [a] (.cons ca .nil)) (na : Nice a) (i : ∀ xs H Q, Aft k cl op Q xs H → xs.length = 1 → r xs H Q) : PE X (.Call (.Name x p) [a] [] pos) (tE k Φ W (mkC cl (.op op (.cons ca .nil)))) :=
  PE.imp (pe_callB hc hg hm hv P.pa hn hdb (na.starEach [] X.env) rfl) fun σ H Q q => tA.mono (op_tA q) fun xs H1 hl q1 => i xs H1 Q q1 hl
theorem blt_ty {op : Op} {T : String} {x : Str} {p pos : Pos} {a : Expr} {ca : C} {r : List V → Hp → VK → Prop} (hc : CallR X (.type T) r) (hg : Gl X x) (hm : X.mg x = none) (hv : bootBuiltins x = some (.type T)) (hn : x ≠ "__name__") (hdb : (x == ("__debug__" : Str)) = false)
    (P : PEs k X W Φ [a] (.cons ca .nil)) (na : Nice a) (i : ∀ xs H Q, Aft k cl op Q xs H → xs.length = 1 → r xs H Q) : PE X (.Call (.Name x p) [a] [] pos) (tE k Φ W (mkC cl (.op op (.cons ca .nil)))) :=
  PE.imp (pe_callTy hc hg hm hv P.pa hn hdb (na.starEach [] X.env) rfl) fun σ H Q q => tA.mono (op_tA q) fun xs H1 hl q1 => i xs H1 Q q1 hl
theorem blt_fn2 {op : Op} {id : String} {x : Str} {p pos : Pos} {a b : Expr} {ca cb : C} {r : List V → Hp → VK → Prop} (hc : CallR X (.builtin id) r) (hg : Gl X x) (hm : X.mg x = none) (hv : bootBuiltins x = some (.builtin id)) (hn : x ≠ "__name__") (hdb : (x == ("__debug__" : Str)) = false)
    (P : PEs k X W Φ [a, b] (.cons ca (.cons cb .nil))) (na : Nice a) (nb : Nice b) (i : ∀ xs H Q, Aft k cl op Q xs H → xs.length = 2 → r xs H Q) : PE X (.Call (.Name x p) [a, b] [] pos) (tE k Φ W (mkC cl (.op op (.cons ca (.cons cb .nil))))) :=
  PE.imp (pe_callB hc hg hm hv P.pa hn hdb (na.starEach [b] X.env) (any_back fun e m => by rw [List.mem_singleton.mp m]; exact nb)) fun σ H Q q => tA.mono (op_tA q) fun xs H1 hl q1 => i xs H1 Q q1 hl
theorem boot_tyName (t : Ty) : bootBuiltins (isTyName t) = some (.type t.name) := by cases t <;> decide +kernel
theorem isTyName_in (t : Ty) : isTyName t ∈ bltsOf := by cases t <;> decide +kernel
theorem tE_val {ty : V} {σ : L2.St} {H : Hp} {Q : VK} (h : Q ty H) : tC ty σ H Q := h
def rIs2 (b : Bool) : R2 := fun x y H Q => ∃ a c, x = .bl a ∧ y = .bl c ∧ Q (.bl (decide (a = c))) H
/-- x is True, x is not True -/
theorem isB_pe {a : Expr} {b ng : Bool} {j : Nat} {p pos : Pos} {ca : C} (h : PE X a (tE k Φ W ca)) : PE X (.Compare a [if ng then .IsNot else .Is] [.Constant (.bool b) j p] pos) (tE k Φ W (mkC cl (.op (.isB ng b) (.cons ca .nil)))) ∧
    PT X (.Compare a [if ng then .IsNot else .Is] [.Constant (.bool b) j p] pos) (tT k Φ W (.op (.isB ng b) (.cons ca .nil))) := by
  have conv : ∀ {cl : Bool} {σ : L2.St} {H : Hp} {Q : VK}, tE k Φ W (mkC cl (.op (.isB ng b) (.cons ca .nil))) σ H Q → tE k Φ W ca σ H fun x H1 => ∃ d, x = .bl d ∧ Q (.bl (if ng then !decide (d = b) else decide (d = b))) H1 := fun q => one_imp (fun x H => ru_isB) q
  have tconv : ∀ {σ : L2.St} {H : Hp} {Q : Bool → Hp → Prop}, tT k Φ W (.op (.isB ng b) (.cons ca .nil)) σ H Q → tE k Φ W (.op (.isB ng b) (.cons ca .nil)) σ H fun x H' => ∃ c, x = .bl c ∧ Q c H' := fun {σ H Q} q => by
    obtain ⟨F, ι, τ, M, S, f⟩ := q
    refine ⟨F, ι, τ, M, S, ?_⟩
    unfold evE at f ⊢
    cases e : evEs Φ (.cons ca .nil) τ M with
    | no => rw [e] at f; exact f
    | ex _ _ => rw [e] at f; exact f
    | ok vs M1 =>
      rw [e] at f
      have f : FinT k F ι H σ τ W (.of (opM (.isB ng b) M1 vs) M1) Q := f
      show Fin k F ι H σ τ W (.of (opM (.isB ng b) M1 vs) M1) _
      cases e2 : opM (.isB ng b) M1 vs with
      | none => rw [e2] at f; exact f
      | some v =>
        rw [e2] at f
        obtain ⟨c, ec, f⟩ := f
        have e3 := opM_sh rfl e2
        have : ∃ d, v = .bl d := by
          cases vs with
          | nil => cases e3
          | cons w t => cases t with
            | cons _ _ => cases e3
            | nil =>
              obtain ⟨r, _, rfl⟩ := map_some (show (isBo b (sh M1 w)).map _ = some v from e3)
              exact ⟨_, rfl⟩
        obtain ⟨d, rfl⟩ := this
        cases ec
        exact fun x ι1 H1 S1 s1 i1 => ⟨_, by cases i1; rfl, f ι1 H1 S1 s1⟩
  cases ng with
  | false => exact ⟨PE.imp (pe_cmpR op_isBl h pe_bl (nomark _)) fun σ H Q q => tE.mono (conv q) fun x H1 ⟨d, e, q⟩ => ⟨d, b, e, rfl, q⟩,
      PT.imp (pt_cmpR op_isBl h pe_bl (nomark _)) fun σ H Q q => tE.mono (conv (cl := false) (tconv q)) fun x H1 ⟨d, e, q⟩ => ⟨d, b, e, rfl, q⟩⟩
  | true => exact ⟨PE.imp (pe_cmpR op_notBl h pe_bl (nomark _)) fun σ H Q q => tE.mono (conv q) fun x H1 ⟨d, e, q⟩ => ⟨d, b, e, rfl, q⟩,
      PT.imp (pt_cmpR op_notBl h pe_bl (nomark _)) fun σ H Q q => tE.mono (conv (cl := false) (tconv q)) fun x H1 ⟨d, e, q⟩ => ⟨d, b, e, rfl, q⟩⟩
theorem sndOp (O : XOk k Γ Φ W X) (hs : X.env.scope = sc) {o : Op} {e : Expr} {es : List Expr} {as : Cs} (hcl : cl = true → o.makes = true) (h : shape sc o e = some es) (P : PEs k X W Φ es as) (ne : ∀ a ∈ es, Nice a) : PE X e (tE k Φ W (mkC cl (.op o as))) := by
  obtain ⟨K0, c1, c2⟩ := k
  obtain rfl : K0 = X.K := O.K
  unfold shape at h
  split at h
  · cases h; obtain ⟨ca, cb, rfl, h1, h2⟩ := P.inv2 rfl; exact PE.imp (pe_op op_add4 h1 h2) fun _ _ Q => two_imp fun _ _ _ => ru_add
  · cases h; obtain ⟨ca, cb, rfl, h1, h2⟩ := P.inv2 rfl; exact PE.imp (pe_op op_sub h1 h2) fun _ _ Q => two_imp fun _ _ _ => ru_sub
  · cases h; obtain ⟨ca, cb, rfl, h1, h2⟩ := P.inv2 rfl; exact PE.imp (pe_op op_mul2 h1 h2) fun _ _ Q => two_imp fun _ _ _ => ru_mul
  · cases h; obtain ⟨ca, cb, rfl, h1, h2⟩ := P.inv2 rfl; exact PE.imp (pe_op op_fdivW h1 h2) fun _ _ Q => two_imp fun _ _ _ => ru_fdiv
  · cases h; obtain ⟨ca, cb, rfl, h1, h2⟩ := P.inv2 rfl; exact PE.imp (pe_op op_mod h1 h2) fun _ _ Q => two_imp fun _ _ _ => ru_mod
  · cases h; obtain ⟨ca, cb, rfl, h1, h2⟩ := P.inv2 rfl; exact PE.imp (pe_op op_pow h1 h2) fun _ _ Q => two_imp fun _ _ _ => ru_pow
  · cases h; obtain ⟨ca, rfl, h1⟩ := P.inv1 rfl; exact PE.imp (pe_un un_neg h1) fun _ _ Q => one_imp fun _ _ => ru_neg
  · cases h; obtain ⟨ca, cb, rfl, h1, h2⟩ := P.inv2 rfl; exact PE.imp (pe_cmpR (op_eqD (by have := O.hu; omega)) h1 h2 (nomark _)) fun _ _ Q => two_imp fun _ _ _ => ru_eq
  · cases h; obtain ⟨ca, cb, rfl, h1, h2⟩ := P.inv2 rfl; exact PE.imp (pe_cmpR (op_neD (by have := O.hu; omega)) h1 h2 (nomark _)) fun _ _ Q => two_imp fun _ _ _ => ru_ne
  · cases h; obtain ⟨ca, cb, rfl, h1, h2⟩ := P.inv2 rfl; exact PE.imp (pe_cmpR op_lt2 h1 h2 (nomark _)) fun _ _ Q => two_imp fun _ _ _ => ru_lt
  · cases h; obtain ⟨ca, cb, rfl, h1, h2⟩ := P.inv2 rfl; exact PE.imp (pe_cmpR op_le h1 h2 (nomark _)) fun _ _ Q => two_imp fun _ _ _ => ru_cmp rfl fun _ _ _ e => e
  · cases h; obtain ⟨ca, cb, rfl, h1, h2⟩ := P.inv2 rfl; exact PE.imp (pe_cmpR op_gt h1 h2 (nomark _)) fun _ _ Q => two_imp fun _ _ _ => ru_cmp rfl fun _ _ _ e => e
  · cases h; obtain ⟨ca, cb, rfl, h1, h2⟩ := P.inv2 rfl; exact PE.imp (pe_cmpR op_ge h1 h2 (nomark _)) fun _ _ Q => two_imp fun _ _ _ => ru_cmp rfl fun _ _ _ e => e
  · cases h; obtain ⟨ca, rfl, h1⟩ := P.inv1 rfl; exact PE.imp (pe_cmp (pc_isN h1)) fun _ _ Q => one_imp fun _ _ => ru_isN
  · cases h; obtain ⟨ca, rfl, h1⟩ := P.inv1 rfl; exact PE.imp (pe_cmp (pc_notN h1)) fun _ _ Q => one_imp fun _ _ => ru_notN
  · obtain ⟨hc, h⟩ := if_some h
    cases h
    obtain ⟨ca, rfl, h1⟩ := P.inv1 rfl
    rw [of_decide_eq_true hc]
    exact (isB_pe (ng := false) h1).1
  · obtain ⟨hc, h⟩ := if_some h
    cases h
    obtain ⟨ca, rfl, h1⟩ := P.inv1 rfl
    rw [of_decide_eq_true hc]
    exact (isB_pe (ng := true) h1).1
  · cases h; obtain ⟨ca, cb, rfl, h1, h2⟩ := P.inv2 rfl; exact PE.imp (pe_cmpR (op_in4 O.hu) h1 h2 ((ne _ (by simp)).marks _)) fun _ _ Q => two_imp fun _ _ _ => ru_in
  · cases h; obtain ⟨ca, cb, rfl, h1, h2⟩ := P.inv2 rfl; exact PE.imp (pe_cmpR (op_notIn4 O.hu) h1 h2 ((ne _ (by simp)).marks _)) fun _ _ Q => two_imp fun _ _ _ => ru_notin
  · cases h; obtain ⟨ca, rfl, h1⟩ := P.inv1 rfl; exact PE.imp (pe_slice sl_3 h1 po_none po_none) fun _ _ Q => one_imp fun _ _ => ru_sl00
  · cases h; obtain ⟨ca, cb, rfl, h1, h2⟩ := P.inv2 rfl
    exact PE.imp (pe_slice sl_3 h1 (po_some h2) po_none) fun σ H Q q => tE.mono (tA_2 (op_tA q)) fun x H1 q1 => tE.mono q1 fun y H2 q2 => ru_sl10 q2
  · cases h; obtain ⟨ca, cb, rfl, h1, h2⟩ := P.inv2 rfl
    exact PE.imp (pe_slice sl_3 h1 po_none (po_some h2)) fun σ H Q q => tE.mono (tA_2 (op_tA q)) fun x H1 q1 => tE.mono q1 fun y H2 q2 => ru_sl01 q2
  · cases h; obtain ⟨ca, rfl, h1⟩ := P.inv1 rfl; exact PE.imp (pe_revL h1) fun _ _ Q => one_imp fun _ _ => ru_rev
  · cases h; obtain ⟨ca, rfl, h1⟩ := P.inv1 rfl; exact PE.imp (pe_revT h1) fun _ _ Q => one_imp fun _ _ => ru_revT
  · cases h; obtain ⟨ca, cb, rfl, h1, h2⟩ := P.inv2 rfl
    have hc : cl = false := by
      cases cl with
      | false => rfl
      | true => cases hcl rfl
    exact PE.imp (pe_ix (IxR.or ix_seq (ix_dic (by have := O.hu; omega))) h1 h2 (ne _ (by simp)).ix) fun _ _ Q => two_imp fun _ _ _ => ru_ix hc
  · rename_i t x p1 a y p2 pos
    obtain ⟨hc, h⟩ := if_some h
    cases h
    obtain ⟨ca, rfl, h1⟩ := P.inv1 rfl
    simp only [Bool.and_eq_true, decide_eq_true_eq] at hc
    obtain ⟨⟨⟨rfl, rfl⟩, g1⟩, g2⟩ := hc
    obtain ⟨g, d, n⟩ := glB_of hs g1
    obtain ⟨g', d', n'⟩ := glB_of hs g2
    have na := ne a (by simp)
    have pt : PE X (.Name (isTyName t) p2) (tC (.ty t.name)) := pe_bltn g' (O.blt _ (isTyName_in t)) (boot_tyName t) rfl n' d'
    have pa : PA X [a, .Name (isTyName t) p2] (tCons (tE _ Φ W ca) (tCons (tC (.ty t.name)) tNil)) := pa_cons h1 (pa_cons pt pa_nil rfl) (na.starEach _ _)
    exact PE.imp (pe_callB call_isi g (O.blt _ (by decide)) PyProof.Rows.boot_isinstance pa n d (na.starEach _ _) rfl) fun σ H Q => one_imp fun _ _ => ru_isT
  · split at h
    · rename_i nm en
      obtain ⟨hc, h⟩ := if_some h
      cases h
      obtain ⟨ca, rfl, h1⟩ := P.inv1 rfl
      simp only [Bool.and_eq_true, decide_eq_true_eq] at hc
      obtain ⟨rfl, g1⟩ := hc
      obtain ⟨g, d, n⟩ := glB_of hs g1
      have na := ne _ (List.mem_singleton.mpr rfl)
      unfold bltName at en
      split at en <;> cases en
      · exact blt_fn call_len2 g (O.blt _ (by decide)) PySem.boot_len n d P na fun _ _ _ => ru_len
      · exact blt_fn call_abs g (O.blt _ (by decide)) PyProof.Rows.boot_abs n d P na fun _ _ _ => ru_abs
      · exact blt_fn (cr_sum O.calm) g (O.blt _ (by decide)) PyProof.Rows.boot_sum n d P na fun _ _ _ => ru_sum
      · exact blt_ty call_tuple_of g (O.blt _ (by decide)) PyProof.Rows.boot_tuple n d P na fun _ _ _ => ru_tuple
      · exact blt_ty call_list_of g (O.blt _ (by decide)) PyProof.Rows.boot_list n d P na fun _ _ _ => ru_list
      · exact blt_ty call_int1 g (O.blt _ (by decide)) PyProof.Rows.boot_int n d P na fun _ _ _ => ru_intc
      · exact blt_ty call_str2 g (O.blt _ (by decide)) PyProof.Rows.boot_str n d P na fun _ _ _ => ru_strc
      · exact blt_ty call_bool1 g (O.blt _ (by decide)) PyProof.Rows.boot_bool n d P na fun _ _ _ => ru_boolc
      · exact blt_fn (cr_all O.calm) g (O.blt _ (by decide)) PyProof.Rows.boot_all n d P na fun _ _ _ => ru_bools rfl fun _ => rfl
      · exact blt_fn (cr_any O.calm) g (O.blt _ (by decide)) PyProof.Rows.boot_any n d P na fun _ _ _ => ru_bools rfl fun _ => rfl
    · cases h
  · split at h
    · rename_i nm en
      obtain ⟨hc, h⟩ := if_some h
      cases h
      obtain ⟨ca, cb, rfl, h1, h2⟩ := P.inv2 rfl
      simp only [Bool.and_eq_true, decide_eq_true_eq] at hc
      obtain ⟨rfl, g1⟩ := hc
      obtain ⟨g, d, n⟩ := glB_of hs g1
      have na := ne _ (List.mem_cons_self)
      have nb := ne _ (List.mem_cons_of_mem _ List.mem_cons_self)
      unfold bltName2 at en
      split at en <;> cases en
      · exact blt_fn2 (call_min2 O.calm) g (O.blt _ (by decide)) PyProof.Rows.boot_min n d P na nb fun _ _ _ => ru_min
      · exact blt_fn2 (call_max2 O.calm) g (O.blt _ (by decide)) PyProof.Rows.boot_max n d P na nb fun _ _ _ => ru_max
    · cases h
  · cases h
/-! ### displays -/
theorem small_line {n : Nat} (h : n ≤ 1000) : n ≤ sizeLine := Nat.le_of_lt (small1000 h)
def dispO (t : Bool) (xs : List V) : HO := if t then .tup xs else .lst xs
theorem disp_imp {t : Bool} {as : Cs} {σ : L2.St} {H : Hp} {Q : VK} (hcl : cl = true → t = false) (h : tE k Φ W (mkC cl (.disp t as)) σ H Q) : tA k Φ W as σ H fun xs H1 => xs.length ≤ sizeLine ∧ ∀ p, H1 p = none → Q (.ref p) (upd H1 p (dispO t xs)) := by
  obtain ⟨F, ι, τ, M, S, f⟩ := h
  have done : ∀ {vs : List I} {M1 : Mem} {xs : List V} {ι1 : List Addr} {H1 : Hp}, SOk k F ι1 H1 σ τ M1 → IsIs k F ι1 H1 xs vs → vs.length ≤ 1000 → CN k F ι1 H1 (if t then .tup vs else .lst vs) cl Q → xs.length ≤ sizeLine ∧ ∀ p, H1 p = none → Q (.ref p) (upd H1 p (dispO t xs)) := fun {vs M1 xs ι1 H1} S1 i1 hl c => by
    refine ⟨by rw [i1.length]; exact small_line hl, fun p hp => ?_⟩
    cases t with
    | true => exact c.tup vs rfl xs i1 p hp
    | false => exact c.lst vs rfl xs i1 p hp
  cases cl with
  | false =>
    have f : Fin k F ι H σ τ W ((evEs Φ as τ M).bind fun vs M1 => .of (dispD t vs) M1) Q := f
    refine ⟨F, ι, τ, M, S, f.bindA fun vs M1 xs ι1 H1 S1 s1 i1 f1 => ?_⟩
    unfold dispD at f1
    split at f1
    · rename_i hl
      exact done S1 i1 hl (Fin.cn S1 f1)
    · exact f1.elim
  | true =>
    have ht := hcl rfl
    subst ht
    have f : Fin k F ι H σ τ W (((evEs Φ as τ M).bind fun vs M1 => .of (dispD false vs) M1).bind fun v M1 => match toCell v with
      | some cc => .ok (.obj M1.length) (M1 ++ [cc])
      | none => .no) Q := f
    have f : Fin k F ι H σ τ W ((evEs Φ as τ M).bind fun vs M1 => (R.of (dispD false vs) M1).bind fun v M1 => match toCell v with
      | some cc => .ok (.obj M1.length) (M1 ++ [cc])
      | none => .no) Q := by
      cases e : evEs Φ as τ M with
      | ok a b => rw [e] at f; exact f
      | ex a b => rw [e] at f; exact f
      | no => rw [e] at f; exact f
    refine ⟨F, ι, τ, M, S, f.bindA fun vs M1 xs ι1 H1 S1 s1 i1 f1 => ?_⟩
    unfold dispD at f1
    split at f1
    · rename_i hl
      exact done S1 i1 hl (Fin.cnc (c := .lst vs) rfl S1 f1)
    · exact f1.elim
theorem dict_imp {t : Bool} {σ : L2.St} {H : Hp} {Q : VK} (h : tE k Φ W (mkC cl (.dict t)) σ H Q) : ∀ p, H p = none → Q (.ref p) (upd H p (if t then .dT [] else .dK [])) := by
  obtain ⟨F, ι, τ, M, S, f⟩ := h
  have c : CN k F ι H (if t then .dit [] [] else .dic [] []) cl Q := by
    cases cl with
    | false => exact Fin.cn S f
    | true =>
      cases t with
      | true => exact Fin.cnc (c := .dit [] []) rfl S f
      | false => exact Fin.cnc (c := .dic [] []) rfl S f
  cases t with
  | true => exact fun p hp => c.dit [] [] rfl [] rfl .nil p hp
  | false => exact fun p hp => c.dic [] [] rfl [] rfl .nil p hp
/-! ### truth, connectives -/
variable {F : Addr → Prop} {ι : List Addr} {H : Hp} {σ : L2.St} {τ : Env} {M : Mem} {Q : VK}
theorem tru_fin {x : V} {v : I} {b : Bool} (S : SOk k F ι H σ τ M) (i : IsI k F ι H x v) (e : truth (sh M v) = some b) : TruV k.K x H b := tru_of (sh_ok S.cs i) e
theorem and_imp {a b : C} (h : tE k Φ W (.and a b) σ H Q) : tAndT k.K (tE k Φ W a) (tE k Φ W b) σ H Q := by
  obtain ⟨F, ι, τ, M, S, f⟩ := h
  unfold evE at f
  refine ⟨F, ι, τ, M, S, f.bind fun v M1 x ι1 H1 S1 s1 i1 f1 => ?_⟩
  split at f1
  · rename_i e
    exact ⟨true, tru_fin S1 i1 e, iteT ⟨F, ι1, τ, M1, S1, f1⟩⟩
  · rename_i e
    exact ⟨false, tru_fin S1 i1 e, iteF (f1 x ι1 H1 S1 .refl i1)⟩
  · exact f1.elim
theorem or_imp {a b : C} (h : tE k Φ W (.or a b) σ H Q) : tOrT k.K (tE k Φ W a) (tE k Φ W b) σ H Q := by
  obtain ⟨F, ι, τ, M, S, f⟩ := h
  unfold evE at f
  refine ⟨F, ι, τ, M, S, f.bind fun v M1 x ι1 H1 S1 s1 i1 f1 => ?_⟩
  split at f1
  · rename_i e
    exact ⟨true, tru_fin S1 i1 e, iteT (f1 x ι1 H1 S1 .refl i1)⟩
  · rename_i e
    exact ⟨false, tru_fin S1 i1 e, iteF ⟨F, ι1, τ, M1, S1, f1⟩⟩
  · exact f1.elim
theorem not_imp {a : C} (h : tE k Φ W (.not a) σ H Q) : tNotT k.K (tE k Φ W a) σ H Q := by
  obtain ⟨F, ι, τ, M, S, f⟩ := h
  unfold evE at f
  refine ⟨F, ι, τ, M, S, f.bind fun v M1 x ι1 H1 S1 s1 i1 f1 => ?_⟩
  cases e : truth (sh M1 v) with
  | none => rw [e] at f1; exact f1.elim
  | some b => rw [e] at f1; exact ⟨b, tru_fin S1 i1 e, f1 (.bl (!b)) ι1 H1 S1 .refl (.bl _)⟩
theorem Fin.bindT {r : R I} {f : I → Mem → R I} {Q : V → Hp → Prop} {Q' : Bool → Hp → Prop} (h : Fin k F ι H σ τ W (r.bind f) Q)
    (i : ∀ v M1, r = .ok v M1 → ∃ b, truth (sh M1 v) = some b ∧ ∀ ι1 H1, SOk k F ι1 H1 σ τ M1 → Stp k ι H ι1 H1 → Fin k F ι1 H1 σ τ W (f v M1) Q → Q' b H1) : FinT k F ι H σ τ W r Q' := by
  cases r with
  | ok v M1 =>
    obtain ⟨b, e, i⟩ := i v M1 rfl
    exact ⟨b, e, fun ι1 H1 S s => i ι1 H1 S s (Fin.back s h)⟩
  | ex c M1 => exact h
  | no => exact h
theorem FinT.bindT {r : R I} {f : I → Mem → R I} {Q Q' : Bool → Hp → Prop} (h : FinT k F ι H σ τ W (r.bind f) Q)
    (i : ∀ v M1, r = .ok v M1 → ∃ b, truth (sh M1 v) = some b ∧ ∀ ι1 H1, SOk k F ι1 H1 σ τ M1 → Stp k ι H ι1 H1 → FinT k F ι1 H1 σ τ W (f v M1) Q → Q' b H1) : FinT k F ι H σ τ W r Q' := by
  cases r with
  | ok v M1 =>
    obtain ⟨b, e, i⟩ := i v M1 rfl
    exact ⟨b, e, fun ι1 H1 S s => i ι1 H1 S s (FinT.back s h)⟩
  | ex c M1 => exact h
  | no => exact h
theorem Fin.no_false {Q : V → Hp → Prop} {v : I} {M1 : Mem} {f : Option Bool → R I} (h : Fin k F ι H σ τ W (f (truth (sh M1 v))) Q) (hf : f none = .no) : ∃ b, truth (sh M1 v) = some b := by
  cases e : truth (sh M1 v) with
  | none => rw [e, hf] at h; exact h.elim
  | some b => exact ⟨b, rfl⟩
theorem ife_imp {t a b : C} (h : tE k Φ W (.ife t a b) σ H Q) : tIf (tT k Φ W t) (tE k Φ W a) (tE k Φ W b) σ H Q := by
  obtain ⟨F, ι, τ, M, S, f⟩ := h
  unfold evE at f
  refine ⟨F, ι, τ, M, S, f.bindT fun v M1 er => ?_⟩
  rw [er] at f
  have f : Fin k F ι H σ τ W (match truth (sh M1 v) with
    | some true => evE Φ a τ M1
    | some false => evE Φ b τ M1
    | none => .no) Q := f
  cases e : truth (sh M1 v) with
  | none => rw [e] at f; exact f.elim
  | some c =>
    refine ⟨c, rfl, fun ι1 H1 S1 s1 f1 => ?_⟩
    cases c with
    | true => exact iteT ⟨F, ι1, τ, M1, S1, f1⟩
    | false => exact iteF ⟨F, ι1, τ, M1, S1, f1⟩
theorem tT_and {a b : C} {Q : Bool → Hp → Prop} (h : tT k Φ W (.and a b) σ H Q) : tAnd (tT k Φ W a) (tT k Φ W b) σ H Q := by
  obtain ⟨F, ι, τ, M, S, f⟩ := h
  unfold evE at f
  refine ⟨F, ι, τ, M, S, f.bindT fun v M1 er => ?_⟩
  rw [er] at f
  have f : FinT k F ι H σ τ W (match truth (sh M1 v) with
    | some true => evE Φ b τ M1
    | some false => .ok v M1
    | none => .no) Q := f
  cases e : truth (sh M1 v) with
  | none => rw [e] at f; exact f.elim
  | some c =>
    refine ⟨c, rfl, fun ι1 H1 S1 s1 f1 => ?_⟩
    cases c with
    | true => exact iteT ⟨F, ι1, τ, M1, S1, f1⟩
    | false =>
      obtain ⟨d, ed, f1⟩ := f1
      rw [e] at ed
      cases ed
      exact iteF (f1 ι1 H1 S1 .refl)
theorem tT_or {a b : C} {Q : Bool → Hp → Prop} (h : tT k Φ W (.or a b) σ H Q) : tOr (tT k Φ W a) (tT k Φ W b) σ H Q := by
  obtain ⟨F, ι, τ, M, S, f⟩ := h
  unfold evE at f
  refine ⟨F, ι, τ, M, S, f.bindT fun v M1 er => ?_⟩
  rw [er] at f
  have f : FinT k F ι H σ τ W (match truth (sh M1 v) with
    | some true => .ok v M1
    | some false => evE Φ b τ M1
    | none => .no) Q := f
  cases e : truth (sh M1 v) with
  | none => rw [e] at f; exact f.elim
  | some c =>
    refine ⟨c, rfl, fun ι1 H1 S1 s1 f1 => ?_⟩
    cases c with
    | false => exact iteF ⟨F, ι1, τ, M1, S1, f1⟩
    | true =>
      obtain ⟨d, ed, f1⟩ := f1
      rw [e] at ed
      cases ed
      exact iteT (f1 ι1 H1 S1 .refl)
theorem tT_not {a : C} {Q : Bool → Hp → Prop} (h : tT k Φ W (.not a) σ H Q) : tNot (tT k Φ W a) σ H Q := by
  obtain ⟨F, ι, τ, M, S, f⟩ := h
  unfold evE at f
  refine ⟨F, ι, τ, M, S, f.bindT fun v M1 er => ?_⟩
  rw [er] at f
  have f : FinT k F ι H σ τ W (.of ((truth (sh M1 v)).map fun b => .bl !b) M1) Q := f
  cases e : truth (sh M1 v) with
  | none => rw [e] at f; exact f.elim
  | some c =>
    refine ⟨c, rfl, fun ι1 H1 S1 s1 f1 => ?_⟩
    obtain ⟨d, ed, f1⟩ := f1
    cases ed
    exact f1 ι1 H1 S1 .refl
def tIfT (t a b : TT) : TT := fun σ H Q => t σ H fun c H1 => if c = true then a σ H1 Q else b σ H1 Q
theorem tT_ife {t a b : C} {Q : Bool → Hp → Prop} (h : tT k Φ W (.ife t a b) σ H Q) : tIfT (tT k Φ W t) (tT k Φ W a) (tT k Φ W b) σ H Q := by
  obtain ⟨F, ι, τ, M, S, f⟩ := h
  unfold evE at f
  refine ⟨F, ι, τ, M, S, f.bindT fun v M1 er => ?_⟩
  rw [er] at f
  have f : FinT k F ι H σ τ W (match truth (sh M1 v) with
    | some true => evE Φ a τ M1
    | some false => evE Φ b τ M1
    | none => .no) Q := f
  cases e : truth (sh M1 v) with
  | none => rw [e] at f; exact f.elim
  | some c =>
    refine ⟨c, rfl, fun ι1 H1 S1 s1 f1 => ?_⟩
    cases c with
    | true => exact iteT ⟨F, ι1, τ, M1, S1, f1⟩
    | false => exact iteF ⟨F, ι1, τ, M1, S1, f1⟩
/-- a value's truth -/
theorem tT_val {c : C} {Q : Bool → Hp → Prop} (h : tT k Φ W c σ H Q) : tE k Φ W c σ H fun x H' => ∃ j, TruV k.K x H' j ∧ Q j H' := by
  obtain ⟨F, ι, τ, M, S, f⟩ := h
  refine ⟨F, ι, τ, M, S, ?_⟩
  cases e : evE Φ c τ M with
  | no => rw [e] at f; exact f
  | ex _ _ => rw [e] at f; exact f
  | ok v M1 =>
    rw [e] at f
    obtain ⟨b, eb, f⟩ := f
    exact fun x ι1 H1 S1 s1 i1 => ⟨b, tru_fin S1 i1 eb, f ι1 H1 S1 s1⟩
theorem tT_bool {c : C} {Q : Bool → Hp → Prop} (h : tT k Φ W c σ H Q) (hb : ∀ τ M v M', evE Φ c τ M = .ok v M' → ∃ b, v = .bl b) : tE k Φ W c σ H fun x H' => ∃ j, x = .bl j ∧ Q j H' := by
  obtain ⟨F, ι, τ, M, S, f⟩ := h
  refine ⟨F, ι, τ, M, S, ?_⟩
  cases e : evE Φ c τ M with
  | no => rw [e] at f; exact f
  | ex _ _ => rw [e] at f; exact f
  | ok v M1 =>
    obtain ⟨d, rfl⟩ := hb _ _ _ _ e
    rw [e] at f
    obtain ⟨b, eb, f⟩ := f
    cases eb
    exact fun x ι1 H1 S1 s1 i1 => ⟨d, by cases i1; rfl, f ι1 H1 S1 s1⟩
end
end Rs

/-! second layer, part i: what loops walk -/
namespace Rs
open PySem PySem.Spec PyProof.Rows L2
def Src.nth : Src → Mem → Nat → Option (Option I)
  | .vals xs, _, i => some xs[i]?
  | .cell n, M, i => cellItem M n i
section
variable {k : Kx} {F : Addr → Prop} {ι : List Addr} {H : Hp}
/-- a list that no value may hold is written -/
theorem ne_lst {D a : Addr} {ws : List V} {o : HO} (hD : H D = some (.lst ws)) (h : H a = some o) (n : ∀ xs, o ≠ .lst xs) : a ≠ D := fun e => by
  rw [e, hD] at h
  cases h
  exact n _ rfl
mutual
theorem IsI.far {D : Addr} {ws us : List V} (hD : H D = some (.lst ws)) (fD : F D) : ∀ {v : V} {x : I}, IsI k F ι H v x → IsI k F ι (upd H D (.lst us)) v x
  | _, _, .non => .non
  | _, _, .bl b => .bl b
  | _, _, .int i => .int i
  | _, _, .str s => .str s
  | _, _, .tup h t => .tup (by rw [upd_ne (ne_lst hD h (fun _ z => nomatch z))]; exact h) (IsIs.far hD fD t)
  | _, _, .wtp h t => .wtp (SqT.put hD trivial h) (IsIs.far hD fD t)
  | _, _, .lst h r t => .lst (by rw [upd_ne (fun e => r.2 (by rw [e]; exact fD))]; exact h) r (IsIs.far hD fD t)
  | _, _, .dic h r e t => .dic (by rw [upd_ne (ne_lst hD h (fun _ z => nomatch z))]; exact h) r e (IsIs.far hD fD t)
  | _, _, .dit h r e t => .dit (by rw [upd_ne (ne_lst hD h (fun _ z => nomatch z))]; exact h) r e (IsIs.far hD fD t)
  | _, _, .scr h => .scr (h.imp (fun ⟨o, q, z⟩ => ⟨o, by rw [upd_ne (ne_lst hD q (fun _ z => nomatch z))]; exact q, z⟩) id)
  | _, _, .obj h => .obj h
theorem IsIs.far {D : Addr} {ws us : List V} (hD : H D = some (.lst ws)) (fD : F D) : ∀ {vs : List V} {xs : List I}, IsIs k F ι H vs xs → IsIs k F ι (upd H D (.lst us)) vs xs
  | _, _, .nil => .nil
  | _, _, .cons h t => .cons (IsI.far hD fD h) (IsIs.far hD fD t)
end
end
/-- J walks these items, as long as P holds -/
structure Wk (k : Kx) (J : L2.It) (P : (Addr → Prop) → List Addr → Hp → Prop) (nth : Mem → Nat → Option (Option I)) : Prop where
  stay : ∀ F ι H ι' H', Stp k ι H ι' H' → P F ι H → P F ι' H'
  mono : ∀ F F' ι H, (∀ a, H a ≠ none → F' a → F a) → P F ι H → P F' ι H
  far : ∀ F ι H D ws us, H D = some (.lst ws) → F D → P F ι H → P F ι (upd H D (.lst us))
  go : ∀ F i ι H M v, CsOk k F ι H M → P F ι H → nth M i = some (some v) → J.go i H
  stop : ∀ F i ι H M, CsOk k F ι H M → P F ι H → nth M i = some none → J.stop i H
  yld : ∀ F i v ι H M x H', CsOk k F ι H M → P F ι H → nth M i = some (some v) → J.yld i H x H' → (H' = H ∨ ∃ T xs, H T = none ∧ H' = upd H T (.tup xs)) ∧ IsI k F ι H' x v
def FinI (k : Kx) (F : Addr → Prop) (ι : List Addr) (H : Hp) (σ : L2.St) (τ : Env) (W : WX) (r : R Src) (Q : L2.It → Hp → Prop) : Prop := match r with
  | .ok s M' => ∀ J P ι' H', SOk k F ι' H' σ τ M' → Stp k ι H ι' H' → Wk k J P s.nth → P F ι' H' → Q J H'
  | .ex c M' => ∀ (ι' : List Addr) (H' : Hp), SOk k F ι' H' σ τ M' → Stp k ι H ι' H' → W (.ref (k.xc c)) none σ H'
  | .no => False
def tI (k : Kx) (Φ : Oracle) (W : WX) (it : It) : TI := fun σ H Q => ∃ F ι τ M, SOk k F ι H σ τ M ∧ FinI k F ι H σ τ W (evIt Φ it τ M) Q
theorem PI.imp {X : Cx} {tg e : Expr} {t t' : TI} (h : PI X tg e t) (i : ∀ σ H R, t' σ H R → t σ H R) : PI X tg e t' := ⟨fun pins s σ H R I q => h.run pins s σ H R I (i σ H R q)⟩
def iAny (K : PySem.W.Frag) (tl : TE) : TI := fun σ H R => tl σ H fun x H1 =>
  (∃ a xs, x = .ref a ∧ SqL K H1 a xs ∧ R (Itl K a) H1) ∨ (∃ a xs, x = .ref a ∧ SqT K H1 a xs ∧ R (Itt K a) H1) ∨ ∃ s, x = .str s ∧ R (Its s) H1
theorem pi_any {X : Cx} {tg l : Expr} {tl : TE} (hl : PE X l tl) : PI X tg l (iAny X.K tl) := by
  refine ⟨fun pins s σ H R I h => ?_⟩
  refine thn (hl.run pins s σ H _ I h) fun v s1 ⟨x, H1, I1, r1, q1⟩ => ?_
  rcases q1 with ⟨a, xs, e, hq, q⟩ | ⟨a, xs, e, hq, q⟩ | ⟨x, ex, q⟩
  · subst e
    cases r1
    obtain ⟨its, rv, p, hz⟩ := I1.list hq
    refine wpAny_pyIter_list p.isList ?_
    refine ⟨s1.heap.objs.size, [s1.heap.objs.size], _, _, H1, rfl, I1.kept (t' := s1.toks) fun b o e => Heap.get?_push_of_some _ e, turn_list a _, ⟨_, Heap.get?_push_size _ rfl, rfl, rfl⟩, fun b hb => ?_, q⟩
    have e : b = s1.heap.objs.size := by simpa using hb
    subst e
    exact I1.fpOk (Nat.le_refl _) (I1.hok.fresh (Nat.le_refl _))
  · subst e
    cases r1
    obtain ⟨its, rv, p, hz⟩ := I1.tuple hq
    refine wpAny_pyIter_tuple (show s1.heap.IsTuple a its.toArray from p) ?_
    refine ⟨s1.heap.objs.size, [s1.heap.objs.size], _, _, H1, rfl, I1.kept (t' := s1.toks) fun b o e => Heap.get?_push_of_some _ e, turn_tuple a _, ⟨_, Heap.get?_push_size _ rfl, rfl, rfl⟩, fun b hb => ?_, q⟩
    have e : b = s1.heap.objs.size := by simpa using hb
    subst e
    exact I1.fpOk (Nat.le_refl _) (I1.hok.fresh (Nat.le_refl _))
  · subst ex
    obtain ⟨t, rfl⟩ := r1
    cases ha : x.cps.all (· < 128)
    · exact wpAny_pyIter_wide ha (pi_one (tk := s1.toks) I1 _ (turn_str _ x t "str_iterator" (.inr rfl)) ⟨_, Heap.get?_push_size _ rfl, rfl, rfl⟩ q)
    · exact wpAny_pyIter_ascii ha (pi_one (tk := s1.toks) I1 _ (turn_str _ x t "str_ascii_iterator" (.inl rfl)) ⟨_, Heap.get?_push_size _ rfl, rfl, rfl⟩ q)
set_option maxHeartbeats 1000000 in
theorem meets_enum1 {v : Value} {o : Obj} {H : Heap → Prop} (B : Begins v o H) :
    Meets (Builtin.«enumerate.__new__» ⟨[.type "enumerate", v], []⟩) (fun _ R s => H s.heap ∧
      R (.ok (.ret (.ref (s.heap.push o).objs.size))) { s with heap := (s.heap.push o).push { cls := .type "enumerate", data := .fields #[.none, .bool false, .ref s.heap.objs.size, rawInt 0, .none, .none] } }) :=
  .of_wp fun prog w A R s h => by
    obtain ⟨hp, g, d, tk, os⟩ := s; obtain ⟨h1, h⟩ := h
    have hsub := sub_enumerate
    have q1 : ∀ {A' : Around} {E : Value → Shared → Prop} {Q : Value → Shared → Prop}, Q (.ref hp.objs.size) ⟨hp.push o, g, d, tk, os⟩ → wpAny (model prog w) A' (pyIter v) Q E ⟨hp, g, d, tk, os⟩ :=
      fun q => B.iter prog w _ _ ⟨hp, g, d, tk, os⟩ _ h1 q
    wp_walk using q1
    refine wpAny_stack_any fun st => wpAny_pure ?_
    split
    · rename_i c _ _ _ _ _
      cases (c == Value.type "enumerate")
      · wp_walk using q1
        exact ⟨_, rfl, h⟩
      · wp_walk using q1
        exact ⟨_, rfl, h⟩
    · wp_walk using q1
      exact ⟨_, rfl, h⟩
theorem call_enum1 {prog : Program} {w : World} {A : Around} {E : Value → Shared → Prop} {s : Shared} {v : Value} {o : Obj} {H : Heap → Prop} {Q : Value → Shared → Prop} (B : Begins v o H) (h1 : H s.heap)
    (h : ∀ h', IsEnum h' (s.heap.objs.size + 1) s.heap.objs.size 0 .none → h'.get? s.heap.objs.size = some o → h'.objs.size = s.heap.objs.size + 2 →
      (∀ b o, s.heap.get? b = some o → h'.get? b = some o) → Q (.ref (s.heap.objs.size + 1)) { s with heap := h' }) :
    wpAny (model prog w) A (call (.type "enumerate") [v]) Q E s := by
  refine callType_new F.called_enumerate (by decide) (F.typeCall_enumerate_1 _) (F.newCall_enumerate_1 _) (fun obj => F.args_object_init_2 obj _) F.entry_enumerate_new
    (meets_enum1 B) ⟨h1, ?_⟩
  have hz : (s.heap.push o).objs.size = s.heap.objs.size + 1 := Heap.size_push ..
  show _ ∧ _
  rw [hz]
  have he : IsEnum ((s.heap.push o).push { cls := .type "enumerate", data := .fields #[.none, .bool false, .ref s.heap.objs.size, rawInt 0, .none, .none] }) (s.heap.objs.size + 1) s.heap.objs.size 0 .none := by
    have := Heap.get?_push_size (s.heap.push o) (o := { cls := .type "enumerate", data := .fields #[.none, .bool false, .ref s.heap.objs.size, rawInt 0, .none, .none] }) rfl
    rw [hz] at this; exact this
  refine ⟨⟨_, he, rfl⟩, h _ he (Heap.get?_push_of_some _ (Heap.get?_push_size _ B.free)) (by rw [Heap.size_push, hz]) fun b o x => Heap.get?_push_of_some _ (Heap.get?_push_of_some _ x)⟩
/-- the tuple at a, its items in new pairs -/
def IteT (K : PySem.W.Frag) (a : Addr) : L2.It :=
  ⟨fun i H => ∃ (xs : List V) (x : V), SqT K H a xs ∧ xs[i]? = some x, fun i H v H' => ∃ T x, v = .ref T ∧ H T = none ∧ H' = upd H T (.tup [.int (i : Nat), x]) ∧ ∀ xs, SqT K H a xs → xs[i]? = some x, fun i H => ∃ xs : List V, SqT K H a xs ∧ xs.length ≤ i⟩
theorem turn_enumT {P : Program} {w : World} {K : PySem.W.Frag} {elts : List Expr} {kk : Nat} {tpos : Pos} (a e it : Addr) :
    Turn P w K (.Tuple elts kk tpos) (IteT K a) [e, it] e (fun i h => (∃ old, IsEnum h e it ((i : Nat) : Int) old) ∧ h.IsTupleIter it a i ∧ e ≠ it ∧ a ≠ it ∧ a ≠ e) where
  mem := by simp
  obj := fun i h st b hb => by
    obtain ⟨⟨old, he⟩, ⟨o, ho, hc, hd⟩, _⟩ := st
    have e' : b = e ∨ b = it := by simpa using hb
    rcases e' with z | z
    · rw [z]; exact ⟨_, he, fun v q => nomatch q⟩
    · rw [z]; exact ⟨o, ho, fun v q => by rw [hd] at q; cases q⟩
  keep := fun i h h' st k => let ⟨⟨old, he⟩, hi, hne⟩ := st; ⟨⟨old, k e (by simp) _ he⟩, hi.at fun o q => k it (by simp) o q, hne⟩
  item := by
    intro X hP hw hK hc i pins s σ H E I hf st hg
    subst hP hw hK
    obtain ⟨⟨old, he⟩, hit, hne, hai, hae⟩ := st
    obtain ⟨xs, x, hq, hx⟩ := hg
    obtain ⟨its, rv, p, hz⟩ := I.tuple hq
    obtain ⟨u, hu, ru⟩ := rv.get hx
    have hel : e < s.heap.objs.size := Heap.lt_size he
    have hil : it < s.heap.objs.size := by obtain ⟨_, q, _⟩ := hit; exact Heap.lt_size q
    have hil' : i < its.toArray.size := by
      have := (List.getElem?_eq_some_iff.mp hu).1
      simpa using this
    refine wpAny_pyNext_enum_itemD (Draws.tuple (prog := X.prog) (w := X.w) (A := X.A.in1) (I.ok.hd hc) it a hai its.toArray) he ⟨hit, show s.heap.IsTuple a its.toArray from p⟩ hil' hne (by simp [hne, Ne.symm hae]) fun y h' tk hy ho st' hT hsz hk => ?_
    have hyu : y = u := by
      have hy' : its[i]? = some y := by simpa using hy
      rw [hu] at hy'; exact (Option.some.inj hy').symm
    subst hyu
    refine ⟨_, rfl, wpAny_letOwnedTupleGo_enum (s := { s with heap := h', toks := tk + 1 }) ho fun h'' he' sb => ?_⟩
    have hT2 : h''.get? s.heap.objs.size = some { cls := .type "tuple", data := .seq #[.int i tk, y] } := (sb.2 _ (Nat.ne_of_gt hel)).trans hT
    have new : ObjOk X.prog X.w (upd H s.heap.objs.size (.tup [.int (i : Nat), x])) h'' s.heap.objs.size (.tup [.int (i : Nat), x]) :=
      ⟨by show 2 ≤ sizeLine; decide, [.int i tk, y], .cons ⟨_, rfl⟩ (.cons ru .nil), ⟨_, hT2, rfl, _, rfl⟩⟩
    have I1 : Inv X pins σ (upd H s.heap.objs.size (.tup [.int (i : Nat), x])) { s with heap := h'', toks := tk + 1 } :=
      I.turnedNew (ch := [e, it]) (fun b ob hb q => (sb.2 b (fun z => hb (by simp [z]))).trans (hk b ob (fun z => hb (by simp [z])) (fun z => hb (by simp [z])) q)) hf (Nat.le_refl _) new
    refine ⟨.ref s.heap.objs.size, _, I1, rfl, ⟨_, x, rfl, I.hok.fresh (Nat.le_refl _), rfl, fun ys hy => by rw [I.tuple_inj hy hq]; exact hx⟩, ⟨⟨y, ?_⟩, st'.1.at fun o q => (sb.2 it (Ne.symm hne)).trans q, hne, hai, hae⟩, fun b hb => ?_⟩
    · have e1 : ((i + 1 : Nat) : Int) = (i : Int) + 1 := by omega
      rw [e1]; exact he'
    · have hb' : b < s.heap.objs.size := by
        have e' : b = e ∨ b = it := by simpa using hb
        rcases e' with z | z
        · rw [z]; exact hel
        · rw [z]; exact hil
      rw [upd_ne (Nat.ne_of_lt hb')]
      exact (hf b hb).1
  done := by
    intro X hP hw hK hc i pins s σ H E I hf st hg
    subst hP hw hK
    obtain ⟨⟨old, he⟩, hit, hne, hai, hae⟩ := st
    obtain ⟨xs, hq, hx⟩ := hg
    obtain ⟨its, rv, p, hz⟩ := I.tuple hq
    obtain ⟨f0, f1, f2, f3, f4, f5⟩ := hf it (by simp)
    have hl := rv.length
    have hT : s.TypeIs (.ref e) "enumerate" := ⟨_, he, rfl⟩
    unfold pyNext
    refine wpAny_bind (wpAny_attempt (wpAny_callSpecial?_slot (name := Str.ofString "__next__") hT F.slot_enumerate_next
      (wpAny_call_entry F.slot_enumerate_next hT F.entry_enumerate_next ?_ (F.args_enumerate_next_1 _))))
    show wpAny _ _ (field (.ref e) 2 >>= _) _ _ _
    refine wpAny_bind (wpAny_field he rfl (x := .ref it) rfl ?_)
    refine wpAny_bind (wpAny_nextOf_tuple_end (A := X.A.in1) (I.ok.hd hc) hit (show s.heap.IsTuple a its.toArray from p) (by simp; omega) fun h' x he' hx' => ?_)
    obtain ⟨o, ho, hcx⟩ := hx'
    refine wpAny_bind (wpAny_isInstance (T := "StopIteration") (b := true) ⟨o, ho, hcx⟩ isSubtype_stop ?_)
    exact wpAny_pure ⟨rfl, I.turned (t' := s.toks) (fun b o hb q => he' b o hb q) f0 f1 f3 f4 f5⟩
  self := fun A i s Q E st h => let ⟨⟨_, he⟩, _⟩ := st; wpAny_pyIter_enum he h
def iEnum2 (K : PySem.W.Frag) (ta : TA) : TI := fun σ H R => ta σ H fun vs H1 => ∃ a xs, vs = [.ref a] ∧ ((SqL K H1 a xs ∧ R (Ite K a) H1) ∨ (SqT K H1 a xs ∧ R (IteT K a) H1))
theorem pi_enum2 {X : Cx} {e : Expr} {ta : TA} {p pos tpos : Pos} {elts : List Expr} {kk : Nat} (hg : Gl X "enumerate") (hm : X.mg "enumerate" = none) (ha : PA X [e] ta) (hs : starEach [e] X.env = [(false, eval e X.env)]) :
    PI X (.Tuple elts kk tpos) (.Call (.Name "enumerate" p) [e] [] pos) (iEnum2 X.K ta) := by
  refine ⟨fun pins s σ H R I h => ?_⟩
  refine Call_ (ld_blt I hg hm boot_enumerate (PyProof.Rows.callWith_type1 (thn (ha.run pos pins s σ H _ I h) fun us s1 ⟨vs, H1, I1, r1, q1⟩ => ?_) hs rfl))
  obtain ⟨a, xs, ex, q1⟩ := q1
  subst ex
  cases r1 with
  | cons r rr =>
    cases rr
    cases r
    have fp : ∀ b ∈ [s1.heap.objs.size + 1, s1.heap.objs.size], ∀ {h' : Heap}, Inv X pins σ H1 { s1 with heap := h' } → FpOk X pins H1 b := fun b hb h' I2 => by
      have e' : b = s1.heap.objs.size + 1 ∨ b = s1.heap.objs.size := by simpa using hb
      have hle : s1.heap.objs.size ≤ b := by
        rcases e' with z | z
        · rw [z]; exact Nat.le_add_right _ _
        · rw [z]; exact Nat.le_refl _
      exact I1.fpOk hle (I1.hok.fresh hle)
    rcases q1 with ⟨hq, q⟩ | ⟨hq, q⟩
    · obtain ⟨its, rv, p', hz⟩ := I1.list hq
      refine call_enumerate_list p'.isList fun h' he hit hsz hk => wpAny_pyIter_enum he ?_
      have I2 : Inv X pins σ H1 { s1 with heap := h' } := I1.kept (t' := s1.toks) hk
      exact ⟨s1.heap.objs.size + 1, [s1.heap.objs.size + 1, s1.heap.objs.size], _, _, H1, rfl, I2, turn_enum a (s1.heap.objs.size + 1) s1.heap.objs.size, ⟨⟨.none, he⟩, hit, Nat.succ_ne_self _⟩, fun b hb => fp b hb I2, q⟩
    · obtain ⟨its, rv, p', hz⟩ := I1.tuple hq
      have hT : s1.heap.IsTuple a its.toArray := p'
      have hlt : a < s1.heap.objs.size := p'.lt
      refine call_enum1 (begins_tuple a its.toArray) hT fun h' he hit hsz hk => wpAny_pyIter_enum he ?_
      have I2 : Inv X pins σ H1 { s1 with heap := h' } := I1.kept (t' := s1.toks) hk
      exact ⟨s1.heap.objs.size + 1, [s1.heap.objs.size + 1, s1.heap.objs.size], _, _, H1, rfl, I2, turn_enumT a (s1.heap.objs.size + 1) s1.heap.objs.size, ⟨⟨.none, he⟩, ⟨_, hit, rfl, rfl⟩, Nat.succ_ne_self _, Nat.ne_of_lt hlt, Nat.ne_of_lt (Nat.lt_succ_of_lt hlt)⟩, fun b hb => fp b hb I2, q⟩
section
variable {k : Kx} {Φ : Oracle} {W : WX} {a b : Addr} {F : Addr → Prop} {ι : List Addr} {H : Hp} {σ : L2.St} {τ : Env} {M : Mem}
theorem map_get {α β : Type} {g : α → β} {xs : List α} {i : Nat} {v : β} (h : (xs.map g)[i]? = some v) : ∃ x, xs[i]? = some x ∧ g x = v := by
  rw [List.getElem?_map] at h
  cases e : xs[i]? with
  | none => rw [e] at h; cases h
  | some x => rw [e] at h; exact ⟨x, rfl, Option.some.inj h⟩
theorem get_lt {α β : Type} {xs : List α} {ys : List β} {i : Nat} {v : β} (hl : xs.length = ys.length) (h : ys[i]? = some v) : ∃ x, xs[i]? = some x := by
  have := (List.getElem?_eq_some_iff.mp h).1
  exact ⟨xs[i]'(by omega), List.getElem?_eq_getElem _⟩
theorem get_le {α β : Type} {xs : List α} {ys : List β} {i : Nat} (hl : xs.length = ys.length) (h : ys[i]? = none) : xs.length ≤ i := by
  have := List.getElem?_eq_none_iff.mp h
  omega
/-- a list or a tuple, as it stays -/
inductive LsOk (k : Kx) (a : Addr) (xs : List V) (ys : List I) (F : Addr → Prop) (ι : List Addr) (H : Hp) : Bool → Prop
  | lst : H a = some (.lst xs) → Fr F ι a → IsIs k F ι H xs ys → LsOk k a xs ys F ι H true
  | tup : SqT k.K H a xs → IsIs k F ι H xs ys → LsOk k a xs ys F ι H false
theorem LsOk.stay {ι' : List Addr} {H' : Hp} {xs : List V} {ys : List I} {l : Bool} (st : Stp k ι H ι' H') (h : LsOk k a xs ys F ι H l) : LsOk k a xs ys F ι' H' l := by
  cases h with
  | lst h f t => exact .lst (st.kp _ _ h f.1) (f.go st h) (t.go st)
  | tup h t => exact .tup (st.tp _ _ h) (t.go st)
theorem LsOk.mono {F' : Addr → Prop} {xs : List V} {ys : List I} {l : Bool} (hF : ∀ a, H a ≠ none → F' a → F a) (h : LsOk k a xs ys F ι H l) : LsOk k a xs ys F' ι H l := by
  cases h with
  | lst h f t => exact .lst h ⟨f.1, fun z => f.2 (hF _ (by rw [h]; exact fun z => nomatch z) z)⟩ (t.F hF)
  | tup h t => exact .tup h (t.F hF)
theorem LsOk.far {D : Addr} {ws us : List V} {xs : List V} {ys : List I} {l : Bool} (hD : H D = some (.lst ws)) (fD : F D) (h : LsOk k a xs ys F ι H l) : LsOk k a xs ys F ι (upd H D (.lst us)) l := by
  cases h with
  | lst h f t => exact .lst (by rw [upd_ne (fun e => f.2 (by rw [e]; exact fD))]; exact h) f (t.far hD fD)
  | tup h t => exact .tup (SqT.put hD trivial h) (t.far hD fD)
theorem LsOk.is {xs : List V} {ys : List I} {l : Bool} (h : LsOk k a xs ys F ι H l) : IsIs k F ι H xs ys := by cases h <;> assumption
theorem LsOk.sqL {xs : List V} {ys : List I} (h : LsOk k a xs ys F ι H true) : SqL k.K H a xs := by
  cases h with
  | lst h _ _ => exact lst_sq h
theorem LsOk.sqT {xs : List V} {ys : List I} (h : LsOk k a xs ys F ι H false) : SqT k.K H a xs := by
  cases h with
  | tup h _ => exact h
theorem wk_lst {xs : List V} {ys : List I} : Wk k (Itl k.K a) (fun F ι H => LsOk k a xs ys F ι H true) (Src.vals ys).nth where
  stay := fun F ι H ι' H' st p => p.stay st
  mono := fun F F' ι H hF p => p.mono hF
  far := fun F ι H D ws us hD fD p => p.far hD fD
  go := fun F i ι H M v C p e => by
    obtain ⟨w, h⟩ := get_lt p.is.length (Option.some.inj e)
    exact ⟨xs, w, p.sqL, h⟩
  stop := fun F i ι H M C p e => ⟨xs, p.sqL, get_le p.is.length (Option.some.inj e)⟩
  yld := fun F i v ι H M x H' C p e y => by
    obtain ⟨rfl, y⟩ := y
    obtain ⟨w, g1, g2⟩ := p.is.get (Option.some.inj e)
    have ex := (y xs p.sqL).symm.trans g1
    cases ex
    exact ⟨.inl rfl, g2⟩
theorem wk_tup {xs : List V} {ys : List I} : Wk k (Itt k.K a) (fun F ι H => LsOk k a xs ys F ι H false) (Src.vals ys).nth where
  stay := fun F ι H ι' H' st p => p.stay st
  mono := fun F F' ι H hF p => p.mono hF
  far := fun F ι H D ws us hD fD p => p.far hD fD
  go := fun F i ι H M v C p e => by
    obtain ⟨w, h⟩ := get_lt p.is.length (Option.some.inj e)
    exact ⟨xs, w, p.sqT, h⟩
  stop := fun F i ι H M C p e => ⟨xs, p.sqT, get_le p.is.length (Option.some.inj e)⟩
  yld := fun F i v ι H M x H' C p e y => by
    obtain ⟨rfl, y⟩ := y
    obtain ⟨w, g1, g2⟩ := p.is.get (Option.some.inj e)
    have ex := (y xs p.sqT).symm.trans g1
    cases ex
    exact ⟨.inl rfl, g2⟩
/-- a cell, walked -/
theorem wk_cell {n : Nat} : Wk k (Itl k.K a) (fun F ι H => ι[n]? = some a) (Src.cell n).nth where
  stay := fun F ι H ι' H' st p => get_prefix st.ip p
  mono := fun F F' ι H hF p => p
  far := fun F ι H D ws us hD fD p => p
  go := fun F i ι H M v C p e => by
    have e : cellItem M n i = some (some v) := e
    unfold cellItem at e
    split at e
    · rename_i xs em
      obtain ⟨vs, h1, h2⟩ := C.ce n _ a em p
      obtain ⟨w, h⟩ := get_lt h2.length (Option.some.inj e)
      exact ⟨vs, w, lst_sq h1, h⟩
    · cases e
  stop := fun F i ι H M C p e => by
    have e : cellItem M n i = some none := e
    unfold cellItem at e
    split at e
    · rename_i xs em
      obtain ⟨vs, h1, h2⟩ := C.ce n _ a em p
      exact ⟨vs, lst_sq h1, get_le h2.length (Option.some.inj e)⟩
    · cases e
  yld := fun F i v ι H M x H' C p e y => by
    obtain ⟨rfl, y⟩ := y
    have e : cellItem M n i = some (some v) := e
    unfold cellItem at e
    split at e
    · rename_i xs em
      obtain ⟨vs, h1, h2⟩ := C.ce n _ a em p
      obtain ⟨w, g1, g2⟩ := h2.get (Option.some.inj e)
      have ex := (y vs (lst_sq h1)).symm.trans g1
      cases ex
      exact ⟨.inl rfl, g2⟩
    · cases e
theorem wk_scr {ns : List Int} : Wk k (Itl k.K a) (fun F ι H => Scr k.K ι H a (ns.map V.int)) (Src.vals (ns.map I.int)).nth where
  stay := fun F ι H ι' H' st p => p.go st
  mono := fun F F' ι H hF p => p
  far := fun F ι H D ws us hD fD p => p.imp (fun ⟨o, q, z⟩ => ⟨o, by rw [upd_ne (ne_lst hD q (fun _ z => nomatch z))]; exact q, z⟩) id
  go := fun F i ι H M v C p e => by
    obtain ⟨w, h⟩ := get_lt (xs := ns.map V.int) (by rw [List.length_map, List.length_map]) (Option.some.inj e)
    exact ⟨_, w, p.sq, h⟩
  stop := fun F i ι H M C p e => ⟨_, p.sq, get_le (by rw [List.length_map, List.length_map]) (Option.some.inj e)⟩
  yld := fun F i v ι H M x H' C p e y => by
    obtain ⟨rfl, y⟩ := y
    obtain ⟨n, hn, rfl⟩ := map_get (Option.some.inj e)
    have ex := y _ p.sq
    rw [List.getElem?_map, hn] at ex
    cases ex
    exact ⟨.inl rfl, .int _⟩
theorem wk_str {s : Str} : Wk k (Its s) (fun _ _ _ => True) (Src.vals (s.cps.toList.map fun c => I.str ⟨#[c]⟩)).nth where
  stay := fun _ _ _ _ _ _ _ => trivial
  mono := fun _ _ _ _ _ _ => trivial
  far := fun _ _ _ _ _ _ _ _ _ => trivial
  go := fun F i ι H M v C p e => by
    have := (List.getElem?_eq_some_iff.mp (Option.some.inj e)).1
    rw [List.length_map, Array.length_toList] at this
    exact this
  stop := fun F i ι H M C p e => by
    have := List.getElem?_eq_none_iff.mp (Option.some.inj e)
    rw [List.length_map, Array.length_toList] at this
    exact this
  yld := fun F i v ι H M x H' C p e y => by
    obtain ⟨rfl, c, hc, rfl⟩ := y
    obtain ⟨n, hn, rfl⟩ := map_get (Option.some.inj e)
    rw [Array.getElem?_toList, hc] at hn
    cases hn
    exact ⟨.inl rfl, .str _⟩
theorem wk_rng {lo : Int} {n : Nat} : Wk k (Itr lo n) (fun _ _ _ => True) (Src.vals ((List.range n).map fun j : Nat => I.int (lo + (j : Int)))).nth where
  stay := fun _ _ _ _ _ _ _ => trivial
  mono := fun _ _ _ _ _ _ => trivial
  far := fun _ _ _ _ _ _ _ _ _ => trivial
  go := fun F i ι H M v C p e => by
    have := (List.getElem?_eq_some_iff.mp (Option.some.inj e)).1
    rw [List.length_map, List.length_range] at this
    exact this
  stop := fun F i ι H M C p e => by
    have := List.getElem?_eq_none_iff.mp (Option.some.inj e)
    rw [List.length_map, List.length_range] at this
    exact this
  yld := fun F i v ι H M x H' C p e y => by
    obtain ⟨rfl, rfl⟩ := y
    obtain ⟨j, hj, rfl⟩ := map_get (Option.some.inj e)
    have ek : j = i := by
      have := (List.getElem?_eq_some_iff.mp hj).2
      rw [List.getElem_range] at this
      exact this.symm
    subst ek
    exact ⟨.inl rfl, .int _⟩
theorem seq_wk {x : V} {v : I} {s : Src} {R : L2.It → Hp → Prop} (C : CsOk k F ι H M) (h : IsI k F ι H x v) (e : seqItems M v = some s) (q : ∀ J P, Wk k J P s.nth → P F ι H → R J H) :
    (∃ a xs, x = .ref a ∧ SqL k.K H a xs ∧ R (Itl k.K a) H) ∨ (∃ a xs, x = .ref a ∧ SqT k.K H a xs ∧ R (Itt k.K a) H) ∨ ∃ s, x = .str s ∧ R (Its s) H := by
  cases h with
  | non => cases e
  | bl _ => cases e
  | int _ => cases e
  | str s => cases e; exact .inr (.inr ⟨s, rfl, q _ _ wk_str trivial⟩)
  | tup h t => cases e; exact .inr (.inl ⟨_, _, rfl, tup_sq h, q _ _ wk_tup (.tup (tup_sq h) t)⟩)
  | wtp h t => cases e; exact .inr (.inl ⟨_, _, rfl, h, q _ _ wk_tup (.tup h t)⟩)
  | lst h f t => cases e; exact .inl ⟨_, _, rfl, lst_sq h, q _ _ wk_lst (.lst h f t)⟩
  | dic _ _ _ _ => cases e
  | dit _ _ _ _ => cases e
  | scr h => cases e; exact .inl ⟨_, _, rfl, h.sq, q _ _ wk_scr h⟩
  | obj h =>
    unfold seqItems at e
    dsimp only at e
    split at e
    · rename_i xs em
      cases e
      obtain ⟨vs, h1, h2⟩ := C.ce _ _ _ em h
      exact .inl ⟨_, _, rfl, lst_sq h1, q _ _ wk_cell h⟩
    · cases e
theorem FinI.bind {r : R I} {f : I → Mem → R Src} {Q : L2.It → Hp → Prop} {Q' : V → Hp → Prop} (h : FinI k F ι H σ τ W (r.bind f) Q)
    (i : ∀ v M1 x ι1 H1, SOk k F ι1 H1 σ τ M1 → Stp k ι H ι1 H1 → IsI k F ι1 H1 x v → FinI k F ι1 H1 σ τ W (f v M1) Q → Q' x H1) : Fin k F ι H σ τ W r Q' := by
  cases r with
  | ok v M1 =>
    refine fun x ι1 H1 S s q => i v M1 x ι1 H1 S s q ?_
    have h : FinI k F ι H σ τ W (f v M1) Q := h
    cases e : f v M1 with
    | ok a M2 => rw [e] at h; exact fun J P ι2 H2 S2 s2 w p => h J P ι2 H2 S2 (s.trans s2) w p
    | ex c M2 => rw [e] at h; exact fun ι2 H2 S2 s2 => h ι2 H2 S2 (s.trans s2)
    | no => rw [e] at h; exact h
  | ex c M1 => exact h
  | no => exact h
theorem FinI.bindA {r : R (List I)} {f : List I → Mem → R Src} {Q : L2.It → Hp → Prop} {Q' : List V → Hp → Prop} (h : FinI k F ι H σ τ W (r.bind f) Q)
    (i : ∀ v M1 x ι1 H1, SOk k F ι1 H1 σ τ M1 → Stp k ι H ι1 H1 → IsIs k F ι1 H1 x v → FinI k F ι1 H1 σ τ W (f v M1) Q → Q' x H1) : FinA k F ι H σ τ W r Q' := by
  cases r with
  | ok v M1 =>
    refine fun x ι1 H1 S s q => i v M1 x ι1 H1 S s q ?_
    have h : FinI k F ι H σ τ W (f v M1) Q := h
    cases e : f v M1 with
    | ok a M2 => rw [e] at h; exact fun J P ι2 H2 S2 s2 w p => h J P ι2 H2 S2 (s.trans s2) w p
    | ex c M2 => rw [e] at h; exact fun ι2 H2 S2 s2 => h ι2 H2 S2 (s.trans s2)
    | no => rw [e] at h; exact h
  | ex c M1 => exact h
  | no => exact h
variable {X : Cx} {tg : Expr}
theorem snd_seq {c : C} {e : Expr} (hK : k.K = X.K) (h : PE X e (tE k Φ W c)) : PI X tg e (tI k Φ W (.seq c)) := by
  obtain ⟨K0, c1, c2⟩ := k
  obtain rfl : K0 = X.K := hK
  refine PI.imp (pi_any h) fun σ H R q => ?_
  obtain ⟨F, ι, τ, M, S, f⟩ := q
  unfold evIt at f
  refine ⟨F, ι, τ, M, S, f.bind fun v M1 x ι1 H1 S1 s1 i1 f1 => ?_⟩
  cases e2 : seqItems M1 v with
  | none => rw [e2] at f1; exact f1.elim
  | some us => rw [e2] at f1; exact seq_wk S1.cs i1 e2 fun J P w p => f1 J P ι1 H1 S1 .refl w p
theorem snd_range {as : Cs} {es : List Expr} {p pos : Pos} (P : PEs k X W Φ es as) (hn : ∀ e ∈ es, Nice e) (hl : es.length = 1 ∨ es.length = 2) (hg : Gl X "range") (hm : X.mg "range" = none) : PI X tg (.Call (.Name "range" p) es [] pos) (tI k Φ W (.range as)) := by
  have conv : ∀ {σ : L2.St} {H : Hp} {R : L2.It → Hp → Prop}, tI k Φ W (.range as) σ H R → tA k Φ W as σ H fun xs H1 => (∃ n : Int, xs = [.int n] ∧ -(2 ^ 62) ≤ n ∧ n < 2 ^ 62 ∧ R (Itr 0 n.toNat) H1) ∨
      ∃ i j : Int, xs = [.int i, .int j] ∧ (-(2 ^ 62) ≤ i ∧ i < 2 ^ 62 ∧ -(2 ^ 62) ≤ j ∧ j < 2 ^ 62) ∧ R (Itr i (j - i).toNat) H1 := fun {σ H R} q => by
    obtain ⟨F, ι, τ, M, S, f⟩ := q
    unfold evIt at f
    refine ⟨F, ι, τ, M, S, f.bindA fun vs M1 xs ι1 H1 S1 s1 i1 f1 => ?_⟩
    cases e2 : rangeItems vs with
    | none => rw [e2] at f1; exact f1.elim
    | some us =>
      rw [e2] at f1
      unfold rangeItems at e2
      split at e2
      · obtain ⟨hc, e2⟩ := if_some e2
        cases e2
        cases i1 with
        | cons r t =>
          cases t
          cases r
          refine .inl ⟨_, rfl, hc.1, hc.2, ?_⟩
          have w := wk_rng (k := k) (lo := 0) (n := Int.toNat ‹Int›)
          simp only [Int.zero_add] at w
          exact f1 _ _ ι1 H1 S1 .refl w trivial
      · obtain ⟨hc, e2⟩ := if_some e2
        cases e2
        cases i1 with
        | cons r t =>
          cases t with
          | cons r2 t2 =>
            cases t2
            cases r
            cases r2
            exact .inr ⟨_, _, rfl, hc, f1 _ _ ι1 H1 S1 .refl wk_rng trivial⟩
      · cases e2
  cases P with
  | nil => simp at hl
  | cons h1 s1 t =>
    cases t with
    | nil =>
      refine PI.imp (pi_range1 hg hm (PEs.cons h1 s1 .nil).pa (s1 [])) fun σ H R q => ?_
      refine tA.mono (conv q) fun xs H1 l z => ?_
      rcases z with ⟨n, rfl, a, b, r⟩ | ⟨i, j, rfl, _⟩
      · exact ⟨n, rfl, a, b, r⟩
      · cases l
    | cons h2 s2 t2 =>
      cases t2 with
      | nil =>
        refine PI.imp (pi_range2 hg hm (PEs.cons h1 s1 (.cons h2 s2 .nil)).pa ((s1 _).trans (congrArg _ (s2 []))) (s2 [])) fun σ H R q => ?_
        refine tA.mono (conv q) fun xs H1 l z => ?_
        rcases z with ⟨n, rfl, _⟩ | ⟨i, j, rfl, c, r⟩
        · cases l
        · exact ⟨i, j, rfl, c, r⟩
      | cons _ _ t3 => simp at hl
/-! ### enumerate, zip -/
theorem enumI_get : ∀ (xs : List I) (k i : Nat), (enumI k xs)[i]? = xs[i]?.map fun x => .tup [.int ((k + i : Nat) : Int), x]
  | [], k, i => by simp [enumI]
  | x :: xs, k, 0 => by simp [enumI]
  | x :: xs, k, i + 1 => by
    have := enumI_get xs (k + 1) i
    rw [show k + 1 + i = k + (i + 1) by omega] at this
    simpa [enumI] using this
theorem zipI_get : ∀ (xs ys : List I) (i : Nat), (zipI xs ys)[i]? = match xs[i]?, ys[i]? with
    | some x, some y => some (.tup [x, y])
    | _, _ => none
  | [], ys, _ => by simp [zipI]
  | x :: xs, [], i => by
    simp only [zipI, List.getElem?_nil]
    split
    · rename_i e; cases e
    · rfl
  | x :: xs, y :: ys, 0 => by simp [zipI]
  | x :: xs, y :: ys, i + 1 => by
    simpa [zipI] using zipI_get xs ys i
theorem listItems_ok {x : V} {v : I} {ys : List I} (h : IsI k F ι H x v) (e : listItems v = some ys) : ∃ a xs l, x = .ref a ∧ LsOk k a xs ys F ι H l ∧ (l = true → ∃ ds, v = .lst ds) ∧ (l = false → ∃ ds, v = .tup ds) := by
  cases h with
  | tup h t => cases e; exact ⟨_, _, false, rfl, .tup (tup_sq h) t, (fun z => nomatch z), fun _ => ⟨_, rfl⟩⟩
  | lst h f t => cases e; exact ⟨_, _, true, rfl, .lst h f t, fun _ => ⟨_, rfl⟩, (fun z => nomatch z)⟩
  | _ => cases e
theorem pair_is {T : Addr} {x y : V} {u w : I} (hT : H T = none) (h1 : IsI k F ι H x u) (h2 : IsI k F ι H y w) : IsI k F ι (upd H T (.tup [x, y])) (.ref T) (.tup [u, w]) := by
  have st : Stp k ι H ι (upd H T (.tup [x, y])) := .new hT
  exact .tup upd_same (.cons (h1.go st) (.cons (h2.go st) .nil))
theorem enum_some {ys : List I} {i : Nat} {v : I} (e : (enumI 0 ys)[i]? = some v) : ∃ u, ys[i]? = some u ∧ v = .tup [.int ((i : Nat) : Int), u] := by
  rw [enumI_get] at e
  obtain ⟨u, h1, rfl⟩ := map_some e
  exact ⟨u, h1, by rw [Nat.zero_add]⟩
theorem enum_none {ys : List I} {i : Nat} (e : (enumI 0 ys)[i]? = none) : ys[i]? = none := by
  rw [enumI_get, Option.map_eq_none_iff] at e
  exact e
theorem wk_enumL {xs : List V} {ys : List I} : Wk k (Ite k.K a) (fun F ι H => LsOk k a xs ys F ι H true) (Src.vals (enumI 0 ys)).nth where
  stay := fun F ι H ι' H' st p => p.stay st
  mono := fun F F' ι H hF p => p.mono hF
  far := fun F ι H D ws us hD fD p => p.far hD fD
  go := fun F i ι H M v C p e => by
    obtain ⟨u, h1, rfl⟩ := enum_some (Option.some.inj e)
    obtain ⟨w, h⟩ := get_lt p.is.length h1
    exact ⟨xs, w, p.sqL, h⟩
  stop := fun F i ι H M C p e => ⟨xs, p.sqL, get_le p.is.length (enum_none (Option.some.inj e))⟩
  yld := fun F i v ι H M x H' C p e y => by
    obtain ⟨T, w, rfl, hT, rfl, q⟩ := y
    obtain ⟨u, h1, rfl⟩ := enum_some (Option.some.inj e)
    obtain ⟨w', g1, g2⟩ := p.is.get h1
    have ex := (q xs p.sqL).symm.trans g1
    cases ex
    exact ⟨.inr ⟨T, _, hT, rfl⟩, pair_is hT (.int _) g2⟩
theorem wk_enumT {xs : List V} {ys : List I} : Wk k (IteT k.K a) (fun F ι H => LsOk k a xs ys F ι H false) (Src.vals (enumI 0 ys)).nth where
  stay := fun F ι H ι' H' st p => p.stay st
  mono := fun F F' ι H hF p => p.mono hF
  far := fun F ι H D ws us hD fD p => p.far hD fD
  go := fun F i ι H M v C p e => by
    obtain ⟨u, h1, rfl⟩ := enum_some (Option.some.inj e)
    obtain ⟨w, h⟩ := get_lt p.is.length h1
    exact ⟨xs, w, p.sqT, h⟩
  stop := fun F i ι H M C p e => ⟨xs, p.sqT, get_le p.is.length (enum_none (Option.some.inj e))⟩
  yld := fun F i v ι H M x H' C p e y => by
    obtain ⟨T, w, rfl, hT, rfl, q⟩ := y
    obtain ⟨u, h1, rfl⟩ := enum_some (Option.some.inj e)
    obtain ⟨w', g1, g2⟩ := p.is.get h1
    have ex := (q xs p.sqT).symm.trans g1
    cases ex
    exact ⟨.inr ⟨T, _, hT, rfl⟩, pair_is hT (.int _) g2⟩
theorem zip_some {ys zs : List I} {i : Nat} {v : I} (e : (zipI ys zs)[i]? = some v) : ∃ u w, ys[i]? = some u ∧ zs[i]? = some w ∧ v = .tup [u, w] := by
  rw [zipI_get] at e
  split at e
  · rename_i u w e1 e2; cases e; exact ⟨u, w, e1, e2, rfl⟩
  · cases e
theorem zip_none {ys zs : List I} {i : Nat} (e : (zipI ys zs)[i]? = none) : ys[i]? = none ∨ zs[i]? = none := by
  rw [zipI_get] at e
  cases e1 : ys[i]? with
  | none => exact .inl rfl
  | some u =>
    cases e2 : zs[i]? with
    | none => exact .inr rfl
    | some w => rw [e1, e2] at e; cases e
theorem wk_zipL {xs us : List V} {ys ws : List I} : Wk k (Itz k.K a b) (fun F ι H => LsOk k a xs ys F ι H true ∧ LsOk k b us ws F ι H true) (Src.vals (zipI ys ws)).nth where
  stay := fun F ι H ι' H' st p => ⟨p.1.stay st, p.2.stay st⟩
  mono := fun F F' ι H hF p => ⟨p.1.mono hF, p.2.mono hF⟩
  far := fun F ι H D ws us hD fD p => ⟨p.1.far hD fD, p.2.far hD fD⟩
  go := fun F i ι H M v C p e => by
    obtain ⟨u1, u2, h1, h2, rfl⟩ := zip_some (Option.some.inj e)
    obtain ⟨w1, g1⟩ := get_lt p.1.is.length h1
    obtain ⟨w2, g2⟩ := get_lt p.2.is.length h2
    exact ⟨xs, us, w1, w2, p.1.sqL, p.2.sqL, g1, g2⟩
  stop := fun F i ι H M C p e => ⟨xs, us, p.1.sqL, p.2.sqL, (zip_none (Option.some.inj e)).imp (get_le p.1.is.length) (get_le p.2.is.length)⟩
  yld := fun F i v ι H M x H' C p e y => by
    obtain ⟨T, w1, w2, rfl, hT, rfl, q1, q2⟩ := y
    obtain ⟨u1, u2, g1, g2, rfl⟩ := zip_some (Option.some.inj e)
    obtain ⟨z1, a1, b1⟩ := p.1.is.get g1
    obtain ⟨z2, a2, b2⟩ := p.2.is.get g2
    have ex := (q1 xs p.1.sqL).symm.trans a1
    cases ex
    have ex := (q2 us p.2.sqL).symm.trans a2
    cases ex
    exact ⟨.inr ⟨T, _, hT, rfl⟩, pair_is hT b1 b2⟩
theorem wk_zipT {xs us : List V} {ys ws : List I} : Wk k (RZ.ItzT k.K a b) (fun F ι H => LsOk k a xs ys F ι H false ∧ LsOk k b us ws F ι H false) (Src.vals (zipI ys ws)).nth where
  stay := fun F ι H ι' H' st p => ⟨p.1.stay st, p.2.stay st⟩
  mono := fun F F' ι H hF p => ⟨p.1.mono hF, p.2.mono hF⟩
  far := fun F ι H D ws us hD fD p => ⟨p.1.far hD fD, p.2.far hD fD⟩
  go := fun F i ι H M v C p e => by
    obtain ⟨u1, u2, h1, h2, rfl⟩ := zip_some (Option.some.inj e)
    obtain ⟨w1, g1⟩ := get_lt p.1.is.length h1
    obtain ⟨w2, g2⟩ := get_lt p.2.is.length h2
    exact ⟨xs, us, w1, w2, p.1.sqT, p.2.sqT, g1, g2⟩
  stop := fun F i ι H M C p e => ⟨xs, us, p.1.sqT, p.2.sqT, (zip_none (Option.some.inj e)).imp (get_le p.1.is.length) (get_le p.2.is.length)⟩
  yld := fun F i v ι H M x H' C p e y => by
    obtain ⟨T, w1, w2, rfl, hT, rfl, q1, q2⟩ := y
    obtain ⟨u1, u2, g1, g2, rfl⟩ := zip_some (Option.some.inj e)
    obtain ⟨z1, a1, b1⟩ := p.1.is.get g1
    obtain ⟨z2, a2, b2⟩ := p.2.is.get g2
    have ex := (q1 xs p.1.sqT).symm.trans a1
    cases ex
    have ex := (q2 us p.2.sqT).symm.trans a2
    cases ex
    exact ⟨.inr ⟨T, _, hT, rfl⟩, pair_is hT b1 b2⟩
theorem snd_enum {c : C} {e : Expr} {p pos tpos : Pos} {elts : List Expr} {kk : Nat} (hK : k.K = X.K) (h : PE X e (tE k Φ W c)) (hn : Nice e) (hg : Gl X "enumerate") (hm : X.mg "enumerate" = none) : PI X (.Tuple elts kk tpos) (.Call (.Name "enumerate" p) [e] [] pos) (tI k Φ W (.enum c)) := by
  obtain ⟨K0, c1, c2⟩ := k
  obtain rfl : K0 = X.K := hK
  refine PI.imp (pi_enum2 hg hm (pa_cons h pa_nil (hn.starEach [] X.env)) (hn.starEach [] X.env)) fun σ H R q => ?_
  obtain ⟨F, ι, τ, M, S, f⟩ := q
  unfold evIt at f
  refine ⟨F, ι, τ, M, S, f.bind fun v M1 x ι1 H1 S1 s1 i1 f1 => ?_⟩
  cases e2 : listItems v with
  | none => rw [e2] at f1; exact f1.elim
  | some us =>
    rw [e2] at f1
    obtain ⟨a, xs, l, rfl, hl, _, _⟩ := listItems_ok i1 e2
    cases l with
    | true => exact ⟨a, xs, rfl, .inl ⟨hl.sqL, f1 _ _ ι1 H1 S1 .refl wk_enumL hl⟩⟩
    | false => exact ⟨a, xs, rfl, .inr ⟨hl.sqT, f1 _ _ ι1 H1 S1 .refl wk_enumT hl⟩⟩
theorem snd_zip {c d : C} {e e2 : Expr} {p pos tpos : Pos} {elts : List Expr} {kk : Nat} (hK : k.K = X.K) (h : PE X e (tE k Φ W c)) (h2 : PE X e2 (tE k Φ W d)) (hn : Nice e) (hn2 : Nice e2) (hg : Gl X "zip") (hm : X.mg "zip" = none) :
    PI X (.Tuple elts kk tpos) (.Call (.Name "zip" p) [e, e2] [] pos) (tI k Φ W (.zip c d)) := by
  obtain ⟨K0, c1, c2⟩ := k
  obtain rfl : K0 = X.K := hK
  refine PI.imp (RZ.pi_zipA hg hm (pa_cons h (pa_cons h2 pa_nil (hn2.starEach [] X.env)) (hn.starEach [e2] X.env)) (hs := hn.starEach [e2] X.env) (hpl := any_back (es := [e2]) fun e m => by rw [List.mem_singleton.mp m]; exact hn2)) fun σ H R q => ?_
  obtain ⟨F, ι, τ, M, S, f⟩ := q
  unfold evIt at f
  refine ⟨F, ι, τ, M, S, f.bind fun v M1 x ι1 H1 S1 s1 i1 f1 => ⟨F, ι1, τ, M1, S1, f1.bind fun u M2 y ι2 H2 S2 s2 i2 f2 => ?_⟩⟩
  split at f2
  · rename_i xs ys l1 l2
    split at f2
    · rename_i hk
      obtain ⟨a, ws, k1, rfl, o1, k1a, k1b⟩ := listItems_ok (i1.go s2) l1
      obtain ⟨b, vs, k2, rfl, o2, k2a, k2b⟩ := listItems_ok i2 l2
      cases k1 with
      | true =>
        cases k2 with
        | true => exact ⟨a, b, ws, vs, rfl, .inl ⟨o1.sqL, o2.sqL, f2 _ _ ι2 H2 S2 .refl wk_zipL ⟨o1, o2⟩⟩⟩
        | false =>
          obtain ⟨d1, z1⟩ := k1a rfl
          obtain ⟨d2, z2⟩ := k2b rfl
          rw [z1, z2] at hk; cases hk
      | false =>
        cases k2 with
        | true =>
          obtain ⟨d1, z1⟩ := k1b rfl
          obtain ⟨d2, z2⟩ := k2a rfl
          rw [z1, z2] at hk; cases hk
        | false => exact ⟨a, b, ws, vs, rfl, .inr ⟨o1.sqT, o2.sqT, f2 _ _ ι2 H2 S2 .refl wk_zipT ⟨o1, o2⟩⟩⟩
    · exact f2.elim
  · exact f2.elim
end
end Rs

/-! second layer, part j: targets, comprehensions -/
namespace Rs
open PySem PySem.Spec PyProof.Rows L2
mutual
def gTg (K : PySem.W.Frag) : Tg → TG
  | .nm i => gName i
  | .tup ts => gTup K ts.len (gTgs K ts)
def gTgs (K : PySem.W.Frag) : Tgs → TGs
  | .nil => gNil
  | .cons t ts => gCons (gTg K t) (gTgs K ts)
end
mutual
def Tg.has (j : Nat) : Tg → Prop
  | .nm i => j = i
  | .tup ts => ts.has j
def Tgs.has (j : Nat) : Tgs → Prop
  | .nil => False
  | .cons t ts => t.has j ∨ ts.has j
end
section
variable {k : Kx} {F F' : Addr → Prop} {ι ι' : List Addr} {H H' : Hp} {M : Mem}
theorem set_at {τ : Env} {i j : Nat} {s u : Option I} (h : (τ.set i s)[j]? = some u) : (j = i ∧ u = s) ∨ (j ≠ i ∧ τ[j]? = some u) := by
  by_cases e : j = i
  · subst e
    rw [List.getElem?_set_self' ] at h
    cases e2 : τ[j]? with
    | none => rw [e2] at h; cases h
    | some w => rw [e2] at h; cases h; exact .inl ⟨rfl, rfl⟩
  · rw [List.getElem?_set_ne (Ne.symm e)] at h
    exact .inr ⟨e, h⟩
theorem SOk.put {σ : L2.St} {τ : Env} {i : Nat} {x : V} {v : I} (S : SOk k F ι H σ τ M) (hi : i < τ.length) (h : IsI k F ι H x v) : SOk k F ι H (σ.set i (some x)) (τ.set i (some v)) M := by
  have hσ : i < σ.length := by rw [S.len]; exact hi
  refine ⟨by rw [List.length_set, List.length_set]; exact S.len, fun j u e => ?_, S.cs⟩
  rcases set_at e with ⟨rfl, z⟩ | ⟨n, z⟩
  · cases z
    exact ⟨x, List.getElem?_set_self hσ, h⟩
  · obtain ⟨w, e1, h1⟩ := S.sl j u z
    exact ⟨w, by rw [List.getElem?_set_ne (Ne.symm n)]; exact e1, h1⟩
mutual
theorem asgT_ok : ∀ (g : Tg) {x : V} {v : I} {τ τ' : Env} {σ : L2.St} {R : L2.St → Hp → Prop}, SOk k F ι H σ τ M → asgT g v τ = some τ' → IsI k F ι H x v →
    (∀ σ', SOk k F ι H σ' τ' M → σ'.length = σ.length → (∀ j, ¬ g.has j → σ'[j]? = σ[j]?) → R σ' H) → gTg k.K g x σ H R
  | .nm i, x, v, τ, τ', σ, R, S, e, h, q => by
    have e : (if i < τ.length then some (τ.set i (some v)) else none) = some τ' := e
    obtain ⟨hi, e⟩ := if_some e
    cases e
    exact q _ (S.put hi h) (by rw [List.length_set]) fun j n => by rw [List.getElem?_set_ne (fun z => n z.symm)]
  | .tup ts, x, v, τ, τ', σ, R, S, e, h, q => by
    have go : ∀ {a : Addr} {xs : List V} {ys : List I}, SqT k.K H a xs → IsIs k F ι H xs ys → asgTs ts ys τ = some τ' → gTg k.K (.tup ts) (.ref a) σ H R := fun {a xs ys} hs t e => by
      refine ⟨a, xs, rfl, hs, by rw [t.length]; exact asgTs_len ts e, ?_⟩
      exact asgTs_ok ts S e t q
    cases h with
    | tup h t => exact go (tup_sq h) t e
    | wtp h t => exact go h t e
    | _ => cases e
theorem asgTs_len : ∀ (ts : Tgs) {vs : List I} {τ τ' : Env}, asgTs ts vs τ = some τ' → vs.length = ts.len
  | .nil, vs, τ, τ', e => by
    cases vs with
    | nil => rfl
    | cons _ _ => cases e
  | .cons t ts, vs, τ, τ', e => by
    cases vs with
    | nil => cases e
    | cons v vs =>
      unfold asgTs at e
      obtain ⟨τ1, _, e⟩ := Option.bind_eq_some_iff.mp e
      exact congrArg (· + 1) (asgTs_len ts e)
theorem asgTs_ok : ∀ (ts : Tgs) {xs : List V} {vs : List I} {τ τ' : Env} {σ : L2.St} {R : L2.St → Hp → Prop}, SOk k F ι H σ τ M → asgTs ts vs τ = some τ' → IsIs k F ι H xs vs →
    (∀ σ', SOk k F ι H σ' τ' M → σ'.length = σ.length → (∀ j, ¬ ts.has j → σ'[j]? = σ[j]?) → R σ' H) → gTgs k.K ts xs σ H R
  | .nil, xs, vs, τ, τ', σ, R, S, e, h, q => by
    cases h with
    | nil =>
      cases e
      exact ⟨rfl, q σ S rfl fun _ _ => rfl⟩
    | cons _ _ => cases e
  | .cons t ts, xs, vs, τ, τ', σ, R, S, e, h, q => by
    cases h with
    | nil => cases e
    | cons h1 h2 =>
      unfold asgTs at e
      obtain ⟨τ1, e1, e2⟩ := Option.bind_eq_some_iff.mp e
      refine ⟨_, _, rfl, asgT_ok t S e1 h1 fun σ1 S1 l1 o1 => ?_⟩
      exact asgTs_ok ts S1 e2 h2 fun σ' S' l2 o2 => q σ' S' (l2.trans l1) fun j n => (o2 j fun z => n (.inr z)).trans (o1 j fun z => n (.inl z))
end
/-! ### targets in the text -/
variable {X : Cx}
theorem ckTs_len {N : List Str} {cel : Bool} {sc : Scope} {own : List Nat} : ∀ {ts : Tgs} {es : List Expr} {env : PySem.Env}, ckTs N cel sc own ts es = true → (assignEach es env).length = ts.len ∧ (assignEach es env).findIdx? (·.1) = none
  | .nil, [], _, _ => ⟨rfl, rfl⟩
  | .nil, _ :: _, _, h => by cases h
  | .cons t ts, [], _, h => by cases h
  | .cons t ts, e :: es, env, h => by
    unfold ckTs at h
    rw [Bool.and_eq_true] at h
    obtain ⟨h1, h2⟩ := ckTs_len (env := env) h.2
    have he : assignEach (e :: es) env = (false, assign e env) :: assignEach es env := by
      have hh := h.1
      cases t with
      | nm i => cases e <;> first | rfl | cases hh
      | tup ts => cases e <;> first | rfl | cases hh
    rw [he]
    refine ⟨congrArg (· + 1) h1, ?_⟩
    rw [List.findIdx?_cons, h2]
    rfl
theorem assignEach_cons {N : List Str} {cel : Bool} {sc : Scope} {own : List Nat} {t : Tg} {e : Expr} {es : List Expr} {env : PySem.Env} (h : ckT N cel sc own t e = true) : (assignEach (e :: es) env).map (·.2) = assign e env :: (assignEach es env).map (·.2) := by
  cases t with
  | nm i => cases e <;> first | rfl | cases h
  | tup ts => cases e <;> first | rfl | cases h
mutual
theorem sndT (hc : X.calm = true) (hN : X.N.Nodup) {cel : Bool} {sc : Scope} {own : List Nat} (hs : ∀ x, (locB sc x || cel && decide (sc.names.lookup x = some .cell)) = true → X.env.scope.names.lookup x = some .local ∨ (X.env.scope.names.lookup x = some .cell ∧ X.fn x = true)) : ∀ (g : Tg) (e : Expr), ckT X.N cel sc own g e = true → PG X e (gTg X.K g)
  | .nm i, e, h => by
    cases e <;> first
      | (cases h; done)
      | (rename_i x pos
         have h : (decide (X.N[i]? = some x) && (locB sc x || cel && decide (sc.names.lookup x = some .cell)) && own.contains i) = true := h
         rw [Bool.and_eq_true, Bool.and_eq_true, decide_eq_true_eq] at h
         rcases hs x h.1.2 with q | ⟨q, q2⟩
         · exact pg_name hN h.1.1 (.inl q) (.inr q)
         · exact pg_name hN h.1.1 (.inr q) (.inl q2))
  | .tup ts, e, h => by
    cases e <;> first
      | (cases h; done)
      | (rename_i es k pos
         have h : ckTs X.N cel sc own ts es = true := h
         obtain ⟨h1, h2⟩ := ckTs_len (env := X.env) h
         exact pg_tup hc (sndTs hc hN hs ts es h) h1 h2)
theorem sndTs (hc : X.calm = true) (hN : X.N.Nodup) {cel : Bool} {sc : Scope} {own : List Nat} (hs : ∀ x, (locB sc x || cel && decide (sc.names.lookup x = some .cell)) = true → X.env.scope.names.lookup x = some .local ∨ (X.env.scope.names.lookup x = some .cell ∧ X.fn x = true)) : ∀ (ts : Tgs) (es : List Expr), ckTs X.N cel sc own ts es = true → PGs X es (gTgs X.K ts)
  | .nil, es, h => by
    cases es with
    | nil => exact pgs_nil
    | cons _ _ => cases h
  | .cons t ts, es, h => by
    cases es with
    | nil => cases h
    | cons e es =>
      unfold ckTs at h
      rw [Bool.and_eq_true] at h
      exact pgs_cons (sndT hc hN hs t e h.1) (sndTs hc hN hs ts es h.2) (assignEach_cons h.1)
end
mutual
theorem ckT_has {N : List Str} {cel : Bool} {sc : Scope} {own : List Nat} {j : Nat} : ∀ (g : Tg) (e : Expr), ckT N cel sc own g e = true → g.has j → j ∈ own
  | .nm i, e, h, z => by
    cases e <;> first
      | (cases h; done)
      | (rename_i x pos
         have h : (decide (N[i]? = some x) && (locB sc x || cel && decide (sc.names.lookup x = some .cell)) && own.contains i) = true := h
         rw [Bool.and_eq_true, Bool.and_eq_true] at h
         have z : j = i := z
         subst z
         simpa using h.2)
  | .tup ts, e, h, z => by
    cases e <;> first
      | (cases h; done)
      | (rename_i es k pos
         exact ckTs_has ts es h z)
theorem ckTs_has {N : List Str} {cel : Bool} {sc : Scope} {own : List Nat} {j : Nat} : ∀ (ts : Tgs) (es : List Expr), ckTs N cel sc own ts es = true → ts.has j → j ∈ own
  | .nil, _, _, z => z.elim
  | .cons t ts, es, h, z => by
    cases es with
    | nil => cases h
    | cons e es =>
      unfold ckTs at h
      rw [Bool.and_eq_true] at h
      rcases z with z | z
      · exact ckT_has t e h.1 z
      · exact ckTs_has ts es h.2 z
end

/-! ### values, their cells known otherwise -/
mutual
theorem IsI.re {F' : Addr → Prop} {ι' : List Addr} (hF : ∀ a, H a ≠ none → Fr F ι a → Fr F' ι' a) (hS : ∀ a o xs, H a = some (.frz o (.lst xs)) → a ∉ ι → a ∉ ι') (hι : ∀ (n : Nat) (a : Addr), ι[n]? = some a → ι'[n]? = some a) : ∀ {v : V} {x : I}, IsI k F ι H v x → IsI k F' ι' H v x
  | _, _, .non => .non
  | _, _, .bl b => .bl b
  | _, _, .int i => .int i
  | _, _, .str s => .str s
  | _, _, .tup h t => .tup h (IsIs.re hF hS hι t)
  | _, _, .wtp h t => .wtp h (IsIs.re hF hS hι t)
  | _, _, .lst h r t => .lst h (hF _ (by rw [h]; exact fun z => nomatch z) r) (IsIs.re hF hS hι t)
  | _, _, .dic h r e t => .dic h (hF _ (by rw [h]; exact fun z => nomatch z) r) e (IsIs.re hF hS hι t)
  | _, _, .dit h r e t => .dit h (hF _ (by rw [h]; exact fun z => nomatch z) r) e (IsIs.re hF hS hι t)
  | _, _, .scr h => .scr (h.imp (fun ⟨o, q, z⟩ => ⟨o, q, hS _ _ _ q z⟩) id)
  | _, _, .obj h => .obj (hι _ _ h)
theorem IsIs.re {F' : Addr → Prop} {ι' : List Addr} (hF : ∀ a, H a ≠ none → Fr F ι a → Fr F' ι' a) (hS : ∀ a o xs, H a = some (.frz o (.lst xs)) → a ∉ ι → a ∉ ι') (hι : ∀ (n : Nat) (a : Addr), ι[n]? = some a → ι'[n]? = some a) : ∀ {vs : List V} {xs : List I}, IsIs k F ι H vs xs → IsIs k F' ι' H vs xs
  | _, _, .nil => .nil
  | _, _, .cons h t => .cons (IsI.re hF hS hι h) (IsIs.re hF hS hι t)
end
theorem CellOk.re {F' : Addr → Prop} {ι' : List Addr} (hF : ∀ a, H a ≠ none → Fr F ι a → Fr F' ι' a) (hS : ∀ a o xs, H a = some (.frz o (.lst xs)) → a ∉ ι → a ∉ ι') (hι : ∀ (n : Nat) (a : Addr), ι[n]? = some a → ι'[n]? = some a) {a : Addr} {c : Cell} (h : CellOk k F ι H a c) : CellOk k F' ι' H a c := by
  cases c with
  | lst xs => obtain ⟨vs, h1, h2⟩ := h; exact ⟨vs, h1, h2.re hF hS hι⟩
  | dic ks xs => obtain ⟨vs, h1, hk, h2⟩ := h; exact ⟨vs, h1, hk, h2.re hF hS hι⟩
  | dit ks xs => obtain ⟨vs, h1, hk, h2⟩ := h; exact ⟨vs, h1, hk, h2.re hF hS hι⟩
  | ins c fs => obtain ⟨dx, fvs, h1, ho, hk, h2⟩ := h; exact ⟨dx, fvs, h1, ho, hk, h2.re hF hS hι⟩
theorem CellOk.far {D a : Addr} {ws us : List V} {c : Cell} (hD : H D = some (.lst ws)) (fD : F D) (n : a ≠ D) (h : CellOk k F ι H a c) : CellOk k F ι (upd H D (.lst us)) a c := by
  cases c with
  | lst xs => obtain ⟨vs, h1, h2⟩ := h; exact ⟨vs, by rw [upd_ne n]; exact h1, h2.far hD fD⟩
  | dic ks xs => obtain ⟨vs, h1, hk, h2⟩ := h; exact ⟨vs, by rw [upd_ne n]; exact h1, hk, h2.far hD fD⟩
  | dit ks xs => obtain ⟨vs, h1, hk, h2⟩ := h; exact ⟨vs, by rw [upd_ne n]; exact h1, hk, h2.far hD fD⟩
  | ins c fs => obtain ⟨dx, fvs, h1, ho, hk, h2⟩ := h; exact ⟨dx, fvs, by rw [upd_ne n]; exact h1, by rw [upd_ne (ne_lst hD ho (fun _ z => nomatch z))]; exact ho, hk, h2.far hD fD⟩
theorem SOk.far {D : Addr} {ws us : List V} {σ : L2.St} {τ : Env} (hD : H D = some (.lst ws)) (fD : F D) (n : D ∉ ι) (S : SOk k F ι H σ τ M) : SOk k F ι (upd H D (.lst us)) σ τ M :=
  ⟨S.len, fun i x e => by obtain ⟨v, e1, h⟩ := S.sl i x e; exact ⟨v, e1, h.far hD fD⟩, S.cs.li, S.cs.nd, fun a h z => by
    by_cases e : a = D
    · rw [e, upd_same] at z; cases z
    · rw [upd_ne e] at z; exact S.cs.fd a h z, fun m c a h1 h2 => (S.cs.ce m c a h1 h2).far hD fD fun e => n (by rw [← e]; exact List.mem_iff_getElem?.mpr ⟨m, h2⟩)⟩
/-- .. as the state ahead of it sees that -/
theorem Stp.far {D : Addr} {ws us : List V} (s : Stp k ι H ι' H') (hn : H D = none) (hD : H' D = some (.lst ws)) : Stp k ι H ι' (upd H' D (.lst us)) :=
  ⟨s.ip, fun a o h n => by rw [upd_ne (ne_of_none h hn)]; exact s.kp a o h n, fun a xs h => SqT.put hD trivial (s.tp a xs h), fun a xs h => by rw [upd_ne (ne_of_none h hn)]; exact s.tt a xs h,
   fun a x h => by rw [upd_ne (ne_of_none h hn)]; exact s.ow a x h, fun a h => by
    by_cases e : a = D
    · rw [e]; exact hn
    · rw [upd_ne e] at h; exact s.dm a h, s.nw⟩
theorem SOk.re {F' : Addr → Prop} {σ : L2.St} {τ : Env} (S : SOk k F ι H σ τ M) (hF : ∀ a, H a ≠ none → Fr F ι a → Fr F' ι a) (fd : ∀ a, F' a → H a ≠ none) : SOk k F' ι H σ τ M :=
  ⟨S.len, fun i x e => by obtain ⟨v, e1, h⟩ := S.sl i x e; exact ⟨v, e1, h.re hF (fun _ _ _ _ z => z) fun _ _ z => z⟩, S.cs.li, S.cs.nd, fd, fun m c a h1 h2 => (S.cs.ce m c a h1 h2).re hF (fun _ _ _ _ z => z) fun _ _ z => z⟩

/-! ### names within a comprehension -/
theorem wipeE_get {own : List Nat} {τ : Env} {j : Nat} {s : Option I} (h : (wipeE own τ)[j]? = some s) : (s = none) ∨ (j ∉ own ∧ τ[j]? = some s) := by
  induction own with
  | nil => exact .inr ⟨by simp, h⟩
  | cons i own ih =>
    have h : ((wipeE own τ).set i none)[j]? = some s := h
    rcases set_at h with ⟨rfl, e⟩ | ⟨n, e⟩
    · exact .inl e
    · rcases ih e with z | ⟨z1, z2⟩
      · exact .inl z
      · exact .inr ⟨by simp [n, z1], z2⟩
theorem wipeE_len {own : List Nat} {τ : Env} : (wipeE own τ).length = τ.length := by
  induction own with
  | nil => rfl
  | cons i own ih =>
    show ((wipeE own τ).set i none).length = _
    rw [List.length_set, ih]
theorem wipe_get {vs : List Nat} {σ : L2.St} {j : Nat} (h : j ∉ vs) : (wipe σ vs)[j]? = σ[j]? := by
  induction vs with
  | nil => rfl
  | cons i vs ih =>
    show ((wipe σ vs).set i none)[j]? = _
    rw [List.getElem?_set_ne (fun e => h (by simp [e])), ih (fun z => h (by simp [z]))]
theorem wipe_in {vs : List Nat} {σ : L2.St} {j : Nat} (h : j ∈ vs) (hl : j < σ.length) : (wipe σ vs)[j]? = some none := by
  induction vs with
  | nil => cases h
  | cons i vs ih =>
    show ((wipe σ vs).set i none)[j]? = _
    by_cases e : j = i
    · subst e
      exact List.getElem?_set_self (by rw [wipe_length]; exact hl)
    · rw [List.getElem?_set_ne (Ne.symm e)]
      rcases List.mem_cons.mp h with z | z
      · exact absurd z e
      · exact ih z
theorem wipe_eq {vs : List Nat} {σ σ' : L2.St} (hl : σ'.length = σ.length) (h : ∀ j, j ∉ vs → σ'[j]? = σ[j]?) : wipe σ' vs = wipe σ vs := by
  apply List.ext_getElem?
  intro j
  by_cases hj : j ∈ vs
  · by_cases hlt : j < σ.length
    · rw [wipe_in hj hlt, wipe_in hj (by rw [hl]; exact hlt)]
    · rw [List.getElem?_eq_none_iff.mpr, List.getElem?_eq_none_iff.mpr]
      · rw [wipe_length]; omega
      · rw [wipe_length, hl]; omega
  · rw [wipe_get hj, wipe_get hj, h j hj]
theorem SOk.wiped {σ : L2.St} {τ : Env} (S : SOk k F ι H σ τ M) (own : List Nat) : SOk k F ι H (wipe σ own) (wipeE own τ) M := by
  refine ⟨by rw [wipe_length, wipeE_len]; exact S.len, fun i s e => ?_, S.cs⟩
  rcases wipeE_get e with z | ⟨h1, h2⟩
  · cases z
  · rw [wipe_get h1]
    exact S.sl i s h2
end

section
variable {k : Kx} {Φ : Oracle} {W : WX} {σ : L2.St} {H : Hp} {cl : Bool}
/-- behind tests -/
def FinTs (k : Kx) (F : Addr → Prop) (ι : List Addr) (H : Hp) (σ : L2.St) (τ : Env) (r : R Bool) (Q : Bool → Hp → Prop) : Prop := match r with
  | .ok b M' => ∀ (ι' : List Addr) (H' : Hp), SOk k F ι' H' σ τ M' → Stp k ι H ι' H' → Q b H'
  | _ => False
def W0 : WX := fun _ _ _ _ => False
def tTs (k : Kx) (Φ : Oracle) (ifs : Cs) : TT := fun σ H Q => ∃ F ι τ M, SOk k F ι H σ τ M ∧ FinTs k F ι H σ τ (evT Φ ifs τ M) Q
def compF (Φ : Oracle) (own : List Nat) (elt : C) (g : Tg) (ifs : Cs) (τ : Env) (v : I) (M2 : Mem) : R (Option I) := match asgT g v (wipeE own τ) with
  | some τ2 => match evT Φ ifs τ2 M2 with
    | .ok true M3 => match evE Φ elt τ2 M3 with
      | .ok d M4 => .ok (some d) M4
      | _ => .no
    | .ok false M3 => .ok none M3
    | _ => .no
  | none => .no
theorem compL_eq (g : I → Mem → R (Option I)) (xs : List I) : ∀ (n i : Nat) (acc : List I) (M : Mem), n = xs.length - i → i ≤ xs.length → compL g (xs.drop i) acc M = compG (Src.vals xs).nth g (n + 1) i acc M
  | 0, i, acc, M, h, hi => by
    have e : i = xs.length := by omega
    subst e
    rw [List.drop_length]
    show R.ok acc M = match (some xs[xs.length]? : Option (Option I)) with
      | some none => R.ok acc M
      | some (some v) => _
      | none => .no
    rw [List.getElem?_eq_none (Nat.le_refl _)]
  | n + 1, i, acc, M, h, hi => by
    have hlt : i < xs.length := by omega
    have ih := compL_eq g xs n (i + 1)
    rw [List.drop_eq_getElem_cons hlt]
    have hn : (Src.vals xs).nth M i = some (some xs[i]) := by
      show some xs[i]? = _
      rw [List.getElem?_eq_getElem hlt]
    unfold compL
    unfold compG
    rw [hn]
    dsimp only
    cases e : g xs[i] M with
    | ok o M1 =>
      cases o with
      | none => exact ih _ _ (by omega) (by omega)
      | some d =>
        dsimp only
        rw [ih _ _ (by omega) (by omega)]
    | ex c M1 => rfl
    | no => rfl
theorem comp_imp {own : List Nat} {elt : C} {g : Tg} {it : It} {ifs : Cs} {Q : VK} (hg : ∀ j, g.has j → j ∈ own) (h : tE k Φ W (mkC cl (.comp own elt g it ifs)) σ H Q) : tLc (tI k Φ W it) (gTg k.K g) (tTs k Φ ifs) (tE k Φ W0 elt) own σ H Q := by
  obtain ⟨F, ι0, τ, M0, S0, f⟩ := h
  -- what is to be shown once the list is made
  let fin : List I → Mem → Prop := fun res Mf => ∀ ι' H' D accV, SOk k (fun a => F a ∨ a = D) ι' H' σ τ Mf → Stp k ι0 H ι' H' → H D = none → H' D = some (.lst accV) → D ∉ ι' → IsIs k (fun a => F a ∨ a = D) ι' H' accV res → Q (.ref D) H'
  have nF : ∀ D, H D = none → ¬ F D := fun D hn z => S0.cs.fd D z hn
  have close : ∀ res Mf, (match cl with
      | false => Fin k F ι0 H σ τ W (.ok (.lst res) Mf) Q
      | true => Fin k F ι0 H σ τ W (.ok (.obj Mf.length) (Mf ++ [.lst res])) Q) → fin res Mf := fun res Mf f ι' H' D accV S st hn hD nD is => by
    cases cl with
    | false =>
      have S' : SOk k F ι' H' σ τ Mf := S.re (fun a _ r => ⟨r.1, fun z => r.2 (.inl z)⟩) fun a z => S.cs.fd a (.inl z)
      exact f (.ref D) ι' H' S' st (.lst hD ⟨nD, nF D hn⟩ (is.F fun a _ z => .inl z))
    | true =>
      have hFr : ∀ a, H' a ≠ none → Fr (fun a => F a ∨ a = D) ι' a → Fr F (ι' ++ [D]) a := fun a _ r => ⟨fun z => (List.mem_append.mp z).elim r.1 fun z => r.2 (.inr (List.mem_singleton.mp z)), fun z => r.2 (.inl z)⟩
      have hS : ∀ a o xs, H' a = some (.frz o (.lst xs)) → a ∉ ι' → a ∉ ι' ++ [D] := fun a o xs h n z => (List.mem_append.mp z).elim n fun z => by
        rw [List.mem_singleton.mp z, hD] at h; cases h
      have hι : ∀ n a, ι'[n]? = some a → (ι' ++ [D])[n]? = some a := fun n a h => get_prefix (List.prefix_append _ _) h
      have S' : SOk k F (ι' ++ [D]) H' σ τ (Mf ++ [.lst res]) := by
        refine ⟨S.len, fun i x e => by obtain ⟨v, e1, h⟩ := S.sl i x e; exact ⟨v, e1, h.re hFr hS hι⟩, by rw [List.length_append, List.length_append, S.cs.li]; rfl, List.nodup_append.mpr ⟨S.cs.nd, by simp, fun a ha b hb e => ?_⟩, fun a z => S.cs.fd a (.inl z), fun n c a h1 h2 => ?_⟩
        · rw [List.mem_singleton.mp hb] at e
          exact nD (by rw [← e]; exact ha)
        · by_cases hl : n < Mf.length
          · rw [List.getElem?_append_left hl] at h1
            rw [List.getElem?_append_left (by rw [S.cs.li]; exact hl)] at h2
            exact (S.cs.ce n c a h1 h2).re hFr hS hι
          · have e : n = Mf.length := by
              have := (List.getElem?_eq_some_iff.mp h1).1
              rw [List.length_append] at this
              have e1 : [Cell.lst res].length = 1 := rfl
              omega
            subst e
            rw [List.getElem?_append_right (Nat.le_refl _), Nat.sub_self] at h1
            rw [List.getElem?_append_right (by rw [S.cs.li]; exact Nat.le_refl _), S.cs.li, Nat.sub_self] at h2
            cases h1; cases h2
            exact ⟨accV, hD, is.re hFr hS hι⟩
      have st' : Stp k ι0 H (ι' ++ [D]) H' := ⟨st.ip.trans (List.prefix_append _ _), st.kp, st.tp, st.tt, st.ow, st.dm, fun a m => (List.mem_append.mp m).elim (st.nw a) fun z => .inr (by rw [List.mem_singleton.mp z]; exact hn)⟩
      refine f (.ref D) _ H' S' st' (.obj ?_)
      rw [← S.cs.li]; simp
  -- the evaluator
  have ev : ∃ r : R Src, r = evIt Φ it τ M0 ∧ match r with
      | .ok src M1 => ∃ w res Mf, compG src.nth (compF Φ own elt g ifs τ) w 0 [] M1 = .ok res Mf ∧ fin res Mf
      | .ex c M1 => ∀ (ι' : List Addr) (H' : Hp), SOk k F ι' H' σ τ M1 → Stp k ι0 H ι' H' → W (.ref (k.xc c)) none σ H'
      | .no => False := by
    refine ⟨_, rfl, ?_⟩
    have key : ∀ {r : R (List I)}, (match cl with
        | false => Fin k F ι0 H σ τ W (r.bind fun r M2 => .ok (.lst r) M2) Q
        | true => Fin k F ι0 H σ τ W ((r.bind fun r M2 => .ok (.lst r) M2).bind fun v M1 => match toCell v with
          | some cc => .ok (.obj M1.length) (M1 ++ [cc])
          | none => .no) Q) → (∀ c M, r ≠ .ex c M) → ∃ res Mf, r = .ok res Mf ∧ fin res Mf := fun {r} f ne => by
      cases r with
      | ok res Mf => exact ⟨res, Mf, rfl, close res Mf (by cases cl <;> exact f)⟩
      | ex c M => exact absurd rfl (ne c M)
      | no => cases cl <;> exact f.elim
    have nex : ∀ nth (w i : Nat) acc M c M', compG nth (compF Φ own elt g ifs τ) w i acc M ≠ .ex c M' := by
      intro nth w
      induction w with
      | zero => intro i acc M c M' z; cases z
      | succ w ih =>
        intro i acc M c M' z
        unfold compG at z
        split at z
        · cases z
        · split at z
          · split at z
            · exact ih _ _ _ _ _ z
            · cases z
          · exact ih _ _ _ _ _ z
          · cases z
        · cases z
    cases e : evIt Φ it τ M0 with
    | no =>
      cases cl with
      | false =>
        have f : Fin k F ι0 H σ τ W (evE Φ (.comp own elt g it ifs) τ M0) Q := f
        unfold evE at f; rw [e] at f; exact f.elim
      | true =>
        have f : Fin k F ι0 H σ τ W (evE Φ (.cell (.comp own elt g it ifs)) τ M0) Q := f
        unfold evE at f; unfold evE at f; rw [e] at f; exact f.elim
    | ex c M1 =>
      cases cl with
      | false =>
        have f : Fin k F ι0 H σ τ W (evE Φ (.comp own elt g it ifs) τ M0) Q := f
        unfold evE at f; rw [e] at f; exact f
      | true =>
        have f : Fin k F ι0 H σ τ W (evE Φ (.cell (.comp own elt g it ifs)) τ M0) Q := f
        unfold evE at f; unfold evE at f; rw [e] at f; exact f
    | ok src M1 =>
      cases src with
      | vals xs =>
        have eL := compL_eq (compF Φ own elt g ifs τ) xs xs.length 0 [] M1 rfl (Nat.zero_le _)
        rw [List.drop_zero] at eL
        have : ∃ res Mf, compL (compF Φ own elt g ifs τ) xs [] M1 = .ok res Mf ∧ fin res Mf := by
          refine key ?_ fun c M z => nex (Src.vals xs).nth _ _ _ _ _ _ (eL ▸ z)
          cases cl with
          | false =>
            have f : Fin k F ι0 H σ τ W (evE Φ (.comp own elt g it ifs) τ M0) Q := f
            unfold evE at f; rw [e] at f; exact f
          | true =>
            have f : Fin k F ι0 H σ τ W (evE Φ (.cell (.comp own elt g it ifs)) τ M0) Q := f
            unfold evE at f; unfold evE at f; rw [e] at f; exact f
        obtain ⟨res, Mf, e1, hf⟩ := this
        exact ⟨_, res, Mf, eL ▸ e1, hf⟩
      | cell n =>
        have : ∃ res Mf, compG (cellItem · n) (compF Φ own elt g ifs τ) 1000000 0 [] M1 = .ok res Mf ∧ fin res Mf := by
          refine key ?_ fun c M z => nex _ _ _ _ _ _ _ z
          cases cl with
          | false =>
            have f : Fin k F ι0 H σ τ W (evE Φ (.comp own elt g it ifs) τ M0) Q := f
            unfold evE at f; rw [e] at f; exact f
          | true =>
            have f : Fin k F ι0 H σ τ W (evE Φ (.cell (.comp own elt g it ifs)) τ M0) Q := f
            unfold evE at f; unfold evE at f; rw [e] at f; exact f
        obtain ⟨res, Mf, e1, hf⟩ := this
        exact ⟨_, res, Mf, e1, hf⟩
  obtain ⟨r, er, ev⟩ := ev
  refine ⟨F, ι0, τ, M0, S0, ?_⟩
  rw [← er]
  cases r with
  | no => exact ev.elim
  | ex c M1 => exact ev
  | ok src M1 =>
    obtain ⟨w, res, Mf, ec, hfin⟩ := ev
    intro J Pp ι1 H1 S1 P1 wk hp Da hD
    have hD0 : H Da = none := P1.dm Da hD
    let F' : Addr → Prop := fun a => F a ∨ a = Da
    let Inv : Nat → Nat → Hp → Prop := fun i w Hc => ∃ ι M acc accV, SOk k F' ι Hc σ τ M ∧ Stp k ι0 H ι Hc ∧ compG src.nth (compF Φ own elt g ifs τ) w i acc M = .ok res Mf ∧
        Hc Da = some (.lst accV) ∧ IsIs k F' ι Hc accV acc ∧ Da ∉ ι ∧ Pp F' ι Hc
    refine ⟨Inv, ⟨w, ?_⟩, fun i w Hc hW => ?_⟩
    · have st : Stp k ι1 H1 ι1 (upd H1 Da (.lst [])) := .new hD
      have nD : Da ∉ ι1 := fun z => S1.cs.dom z hD
      refine ⟨ι1, M1, [], [], ?_, P1.trans st, ec, upd_same, .nil, nD, wk.stay _ _ _ _ _ st (wk.mono F F' ι1 H1 (fun a ha z => z.elim id fun z => absurd (by rw [z]; exact hD) ha) hp)⟩
      have S1' : SOk k F ι1 (upd H1 Da (.lst [])) σ τ M1 := S1.next st (S1.cs.new hD)
      -- values stand elsewhere
      have e1 : SOk k F' ι1 H1 σ τ M1 → SOk k F' ι1 (upd H1 Da (.lst [])) σ τ M1 := fun S => S.next st (S.cs.new hD)
      refine ⟨S1.len, fun i x e => ?_, S1.cs.li, S1.cs.nd, fun a z => ?_, fun n c a h1 h2 => ?_⟩
      · obtain ⟨v, q1, q2⟩ := S1.sl i x e
        exact ⟨v, q1, (q2.re (F' := F') (fun a ha r => ⟨r.1, fun z => z.elim r.2 fun z => ha (by rw [z]; exact hD)⟩) (fun _ _ _ _ z => z) fun _ _ z => z).go st⟩
      · rcases z with z | z
        · exact S1'.cs.fd a z
        · rw [z, upd_same]; exact fun z => nomatch z
      · exact ((S1.cs.ce n c a h1 h2).re (F' := F') (fun a ha r => ⟨r.1, fun z => z.elim r.2 fun z => ha (by rw [z]; exact hD)⟩) (fun _ _ _ _ z => z) fun _ _ z => z).go st (upd_ne fun z => nD (by rw [← z]; exact List.mem_iff_getElem?.mpr ⟨n, h2⟩))
    · obtain ⟨ι, M, acc, accV, S, P, ec, hDa, is, nD, hp⟩ := hW
      cases w with
      | zero => cases ec
      | succ w =>
        unfold compG at ec
        split at ec
        · rename_i en
          cases ec
          exact .inl ⟨wk.stop F' i ι Hc _ S.cs hp en, hfin ι Hc Da accV S P hD0 hDa nD is⟩
        · rename_i v en
          refine .inr ⟨wk.go F' i ι Hc M v S.cs hp en, fun H' => Inv (i + 1) w H', fun H' hN => ⟨w, Nat.lt_succ_self _, hN⟩, fun x H2 hy => ?_⟩
          obtain ⟨hH, iv⟩ := wk.yld F' i v ι Hc M x H2 S.cs hp en hy
          have st2 : Stp k ι Hc ι H2 ∧ SOk k F' ι H2 σ τ M ∧ H2 Da = some (.lst accV) := by
            rcases hH with rfl | ⟨T, ts, hT, rfl⟩
            · exact ⟨.refl, S, hDa⟩
            · exact ⟨.new hT, S.next (.new hT) (S.cs.new hT), upd_some hDa hT⟩
          obtain ⟨st2, S2, hD2⟩ := st2
          cases eg : compF Φ own elt g ifs τ v M with
          | no => rw [eg] at ec; cases ec
          | ex c M3 => rw [eg] at ec; cases ec
          | ok o M3 =>
            rw [eg] at ec
            unfold compF at eg
            cases ea : asgT g v (wipeE own τ) with
            | none => rw [ea] at eg; cases eg
            | some τ2 =>
              rw [ea] at eg
              dsimp only at eg
              refine asgT_ok g (S2.wiped own) ea iv fun σ2 S3 l3 o3 => ⟨?_, ?_⟩
              · refine wipe_eq (by rw [l3, wipe_length]) fun j hj => ?_
                rw [o3 j fun z => hj (hg j z), wipe_get hj]
              · -- the slots of the surroundings go on
                have step : ∀ ι3 H3 M4, CsOk k F' ι3 H3 M4 → Stp k ι H2 ι3 H3 → SOk k F' ι3 H3 σ τ M4 ∧ Stp k ι0 H ι3 H3 ∧ H3 Da = some (.lst accV) ∧ IsIs k F' ι3 H3 accV acc ∧ Da ∉ ι3 ∧ Pp F' ι3 H3 := fun ι3 H3 M4 C3 s3 => by
                  refine ⟨S2.next s3 C3, (P.trans st2).trans s3, s3.kp _ _ hD2 nD, (is.go st2).go s3, fun z => ?_, wk.stay _ _ _ _ _ s3 (wk.stay _ _ _ _ _ st2 hp)⟩
                  rcases s3.nw _ z with z | z
                  · exact nD z
                  · rw [hD2] at z; cases z
                refine ⟨F', ι, τ2, M, S3, ?_⟩
                cases et : evT Φ ifs τ2 M with
                | no => rw [et] at eg; cases eg
                | ex c M4 => rw [et] at eg; cases eg
                | ok b M4 =>
                  rw [et] at eg
                  refine fun ι3 H3 S4 s4 => ?_
                  cases b with
                  | false =>
                    rw [if_neg Bool.false_ne_true]
                    cases eg
                    obtain ⟨a1, a2, a3, a4, a5, a6⟩ := step ι3 H3 _ S4.cs s4
                    exact ⟨ι3, _, acc, accV, a1, a2, ec, a3, a4, a5, a6⟩
                  | true =>
                    rw [if_pos rfl]
                    dsimp only at eg
                    refine ⟨F', ι3, τ2, M4, S4, ?_⟩
                    cases ee : evE Φ elt τ2 M4 with
                    | no => rw [ee] at eg; cases eg
                    | ex c M5 => rw [ee] at eg; cases eg
                    | ok d M5 =>
                      rw [ee] at eg
                      cases eg
                      dsimp only at ec
                      refine fun y ι4 H4 S5 s5 iy => ?_
                      split at ec
                      · rename_i hz
                        obtain ⟨a1, a2, a3, a4, a5, a6⟩ := step ι4 H4 _ S5.cs (s4.trans s5)
                        have fD : F' Da := .inr rfl
                        refine ⟨accV, a3, by rw [a4.length]; exact hz, ι4, _, acc ++ [d], accV ++ [y], a1.far a3 fD a5, a2.far hD0 a3, ec, upd_same, (a4.far a3 fD).append (.cons (iy.far a3 fD) .nil), a5, ?_⟩
                        exact wk.far F' ι4 H4 Da accV (accV ++ [y]) a3 fD a6
                      · cases ec
        · cases ec
end
end Rs

/-! second layer, part k: every expression of the language is read in the text -/
namespace Rs
open PySem PySem.Spec PyProof.Rows L2
section
variable {k : Kx} {Φ : Oracle} {W : WX} {σ : L2.St} {H : Hp} {Q : VK} {F : Addr → Prop} {ι : List Addr} {τ : Env} {M : Mem}
/-! ### methods that write -/
/-- a list's cell is written -/
theorem put_lst {n : Nat} {xs ys : List I} {a : Addr} {vs us : List V} (S : SOk k F ι H σ τ M) (em : M[n]? = some (.lst xs)) (ea : ι[n]? = some a) (ha : H a = some (.lst vs)) (hy : IsIs k F ι H us ys) :
    SOk k F ι (upd H a (.lst us)) σ τ (M.set n (.lst ys)) ∧ Stp k ι H ι (upd H a (.lst us)) := by
  have st : Stp k ι H ι (upd H a (.lst us)) := .put ha trivial (List.mem_iff_getElem?.mpr ⟨n, ea⟩)
  exact ⟨S.next st (S.cs.put em ea ha trivial ⟨us, upd_same, hy.go st⟩), st⟩
theorem cell_at {n : Nat} {x : V} {xs : List I} (S : SOk k F ι H σ τ M) (h : IsI k F ι H x (.obj n)) (em : M[n]? = some (.lst xs)) : ∃ a vs, x = .ref a ∧ ι[n]? = some a ∧ H a = some (.lst vs) ∧ IsIs k F ι H vs xs := by
  cases h with
  | obj h =>
    obtain ⟨vs, h1, h2⟩ := S.cs.ce n _ _ em h
    exact ⟨_, vs, rfl, h, h1, h2⟩
theorem app_imp {o a : C} (h : tE k Φ W (.app o a) σ H Q) : tBM k.K "list" rAppend (tE k Φ W o) (tA k Φ W (.cons a .nil)) σ H Q := by
  obtain ⟨F, ι, τ, M, S, f⟩ := h
  unfold evE at f
  refine ⟨F, ι, τ, M, S, f.bind fun v M1 x ι1 H1 S1 s1 i1 f1 => ?_⟩
  split at f1
  · rename_i n
    split at f1
    · rename_i xs em
      obtain ⟨p, vs, rfl, ea, ha, hx⟩ := cell_at S1 i1 em
      refine ⟨.inl ⟨rfl, _, lst_sq ha⟩, F, ι1, τ, M1, S1, ?_⟩
      have f2 : Fin k F ι1 H1 σ τ W ((evE Φ a τ M1).bind _) Q := f1
      have f3 := f2.bind (Q' := fun y H2 => rAppend (.ref p) [y] H2 Q) fun d M2 y ι2 H2 S2 s2 i2 f2 => ?_
      · have e : evEs Φ (.cons a .nil) τ M1 = (evE Φ a τ M1).bind fun v M1 => .ok [v] M1 := by
          conv => lhs; unfold evEs
          rfl
        rw [e]
        cases er : evE Φ a τ M1 with
        | no => rw [er] at f3; exact f3
        | ex _ _ => rw [er] at f3; exact f3
        | ok d M2 =>
          rw [er] at f3
          intro ys ι2 H2 S2 s2 i2
          cases i2 with
          | cons i2 t => cases t; exact f3 _ ι2 H2 S2 s2 i2
      · split at f2
        · rename_i ys em2
          obtain ⟨p', us, e, ea2, ha2, hy⟩ := cell_at S2 (.obj (get_prefix s2.ip ea)) em2
          cases e
          split at f2
          · rename_i hz
            obtain ⟨S3, s3⟩ := put_lst S2 em2 ea2 ha2 (hy.append (.cons i2 .nil))
            exact ⟨p, us, y, rfl, rfl, ha2, by rw [hy.length]; exact hz, f2 .non ι2 _ S3 s3 .non⟩
          · exact f2.elim
        · exact f2.elim
    · exact f1.elim
  · exact f1.elim
theorem ext_imp {o a : C} (h : tE k Φ W (.ext o a) σ H Q) : tBM k.K "list" rExtend (tE k Φ W o) (tA k Φ W (.cons a .nil)) σ H Q := by
  obtain ⟨F, ι, τ, M, S, f⟩ := h
  unfold evE at f
  refine ⟨F, ι, τ, M, S, f.bind fun v M1 x ι1 H1 S1 s1 i1 f1 => ?_⟩
  split at f1
  · rename_i n
    split at f1
    · rename_i xs em
      obtain ⟨p, vs, rfl, ea, ha, hx⟩ := cell_at S1 i1 em
      refine ⟨.inl ⟨rfl, _, lst_sq ha⟩, F, ι1, τ, M1, S1, ?_⟩
      have f2 : Fin k F ι1 H1 σ τ W ((evE Φ a τ M1).bind _) Q := f1
      have f3 := f2.bind (Q' := fun y H2 => rExtend (.ref p) [y] H2 Q) fun d M2 y ι2 H2 S2 s2 i2 f2 => ?_
      · have e : evEs Φ (.cons a .nil) τ M1 = (evE Φ a τ M1).bind fun v M1 => .ok [v] M1 := by
          conv => lhs; unfold evEs
          rfl
        rw [e]
        cases er : evE Φ a τ M1 with
        | no => rw [er] at f3; exact f3
        | ex _ _ => rw [er] at f3; exact f3
        | ok d M2 =>
          rw [er] at f3
          intro ys ι2 H2 S2 s2 i2
          cases i2 with
          | cons i2 t => cases t; exact f3 _ ι2 H2 S2 s2 i2
      · split at f2
        · rename_i ys em2
          obtain ⟨p', us, e, ea2, ha2, hy⟩ := cell_at S2 (.obj (get_prefix s2.ip ea)) em2
          cases e
          split at f2
          · rename_i zs ez
            split at f2
            · rename_i hz
              have iz := sh_ok S2.cs i2
              rw [ez] at iz
              obtain ⟨b, ws, rfl, hb, hw⟩ := isS_lst iz
              obtain ⟨S3, s3⟩ := put_lst S2 em2 ea2 ha2 (hy.append hw)
              exact ⟨p, b, us, ws, rfl, rfl, ha2, hb, by rw [hy.length, hw.length]; exact hz, f2 .non ι2 _ S3 s3 .non⟩
            · exact f2.elim
          · exact f2.elim
        · exact f2.elim
    · exact f1.elim
  · exact f1.elim
theorem pop_imp {o : C} (h : tE k Φ W (.pop o) σ H Q) : tBM0 k.K "list" rPop (tE k Φ W o) σ H Q := by
  obtain ⟨F, ι, τ, M, S, f⟩ := h
  unfold evE at f
  refine ⟨F, ι, τ, M, S, f.bind fun v M1 x ι1 H1 S1 s1 i1 f1 => ?_⟩
  split at f1
  · rename_i n
    split at f1
    · rename_i xs em
      obtain ⟨p, vs, rfl, ea, ha, hx⟩ := cell_at S1 i1 em
      split at f1
      · rename_i d ed
        have e2 : xs[xs.length - 1]? = some d := by rw [← List.getLast?_eq_getElem?]; exact ed
        obtain ⟨y, h1, h2⟩ := hx.get e2
        obtain ⟨S3, s3⟩ := put_lst S1 em ea ha hx.dropLast
        exact ⟨.inl ⟨rfl, _, lst_sq ha⟩, p, vs, y, rfl, rfl, ha, by rw [hx.length]; exact h1, f1 y ι1 _ S3 s3 (h2.go s3)⟩
      · exact f1.elim
    · exact f1.elim
  · exact f1.elim
/-! ### chains -/
variable {X : Cx} {Γ : Ctx}
def rAft (k : Kx) (o : Op) : R2 := fun x y H Q => ∃ F ι M vx vy v, CsOk k F ι H M ∧ IsI k F ι H x vx ∧ IsI k F ι H y vy ∧ opM o M [vx, vy] = some v ∧ CN k F ι H v false Q
theorem aft_of {o : Op} {x y : V} (h : rAft k o x y H Q) : Aft k false o Q [x, y] H := by
  obtain ⟨F, ι, M, vx, vy, v, C, i1, i2, e, c⟩ := h
  exact ⟨F, ι, M, [vx, vy], v, C, .cons i1 (.cons i2 .nil), e, c⟩
theorem link_rule (O : XOk k Γ Φ W X) {o : Op} {c : CmpOp} (h : link o = some c) : OpR X (compareOp c) (rAft k o) := by
  obtain ⟨K0, c1, c2⟩ := k
  obtain rfl : K0 = X.K := O.K
  have hu := O.hu
  unfold link at h
  split at h <;> cases h
  · intro pins s σ H x y v u Q I rx ry h; exact op_lt2 pins s σ H x y v u Q I rx ry (ru_lt (aft_of h))
  · intro pins s σ H x y v u Q I rx ry h; exact op_le pins s σ H x y v u Q I rx ry (ru_cmp (op := .le) rfl (fun _ _ _ e => e) (aft_of h))
  · intro pins s σ H x y v u Q I rx ry h; exact op_eqD (by omega) pins s σ H x y v u Q I rx ry (ru_eq (aft_of h))
theorem link_bool {o : Op} {c : CmpOp} (h : link o = some c) {M : Mem} {vs : List I} {v : I} (e : opM o M vs = some v) : ∃ b, v = .bl b := by
  unfold opM at e
  obtain ⟨us, _, e⟩ := Option.bind_eq_some_iff.mp e
  unfold link at h
  split at h <;> cases h
  · match us, e with
    | [a, b], e =>
      have e : cmpI (fun i j => decide (i < j)) (fun i j => some (decide (i < j))) a b = some v := e
      unfold cmpI at e
      split at e
      · cases e; exact ⟨_, rfl⟩
      · obtain ⟨r, _, rfl⟩ := map_some e; exact ⟨_, rfl⟩
      · cases e
  · match us, e with
    | [a, b], e =>
      have e : cmpI (fun i j => decide (i ≤ j)) (fun _ _ => none) a b = some v := e
      unfold cmpI at e
      split at e
      · cases e; exact ⟨_, rfl⟩
      · cases e
      · cases e
  · match us, e with
    | [a, b], e =>
      obtain ⟨r, _, rfl⟩ := map_some (show (eqD a b).map I.bl = some v from e)
      exact ⟨_, rfl⟩
theorem chain_imp {o p : Op} {a b c : C} {o' : CmpOp} (ho : link o = some o') (h : tE k Φ W (.chain o p a b c) σ H Q) : tChain (rAft k o) (rAft k p) (tE k Φ W a) (tE k Φ W b) (tE k Φ W c) σ H Q := by
  obtain ⟨F, ι, τ, M, S, f⟩ := h
  unfold evE at f
  refine ⟨F, ι, τ, M, S, f.bind fun v M1 x ι1 H1 S1 s1 i1 f1 => ⟨F, ι1, τ, M1, S1, f1.bind fun u M2 y ι2 H2 S2 s2 i2 f2 => ?_⟩⟩
  cases e : opM o M2 [v, u] with
  | none => rw [e] at f2; exact f2.elim
  | some r =>
    obtain ⟨d, rfl⟩ := link_bool ho e
    rw [e] at f2
    have i1' := i1.go s2
    refine ⟨F, ι2, M2, v, u, _, S2.cs, i1', i2, e, ⟨fun _ z hz => ?_, (fun _ z => nomatch z), (fun _ z => nomatch z), (fun _ _ z => nomatch z), (fun _ _ z => nomatch z)⟩⟩
    cases hz
    cases d with
    | false => exact ⟨false, rfl, iteF (f2 (.bl false) ι2 H2 S2 .refl (.bl _))⟩
    | true =>
      refine ⟨true, rfl, iteT ⟨F, ι2, τ, M2, S2, f2.bind fun w M3 z ι3 H3 S3 s3 i3 f3 => ?_⟩⟩
      cases e3 : opM p M3 [u, w] with
      | none => rw [e3] at f3; exact f3.elim
      | some r => rw [e3] at f3; exact ⟨F, ι3, M3, u, w, r, S3.cs, i2.go s3, i3, e3, Fin.cn S3 f3⟩
theorem chain_bool {o p : Op} {a b c : C} {p' : CmpOp} (hp : link p = some p') {v : I} {M' : Mem} (e : evE Φ (.chain o p a b c) τ M = .ok v M') : ∃ b, v = .bl b := by
  unfold evE at e
  cases e1 : evE Φ a τ M with
  | no => rw [e1] at e; cases e
  | ex _ _ => rw [e1] at e; cases e
  | ok x M1 =>
    rw [e1] at e
    have e : ((evE Φ b τ M1).bind fun y M2 => match opM o M2 [x, y] with
      | some (.bl true) => (evE Φ c τ M2).bind fun z M3 => .of (opM p M3 [y, z]) M3
      | some (.bl false) => .ok (.bl false) M2
      | _ => .no) = .ok v M' := e
    cases e2 : evE Φ b τ M1 with
    | no => rw [e2] at e; cases e
    | ex _ _ => rw [e2] at e; cases e
    | ok y M2 =>
      rw [e2] at e
      dsimp only [R.bind] at e
      split at e
      · cases e3 : evE Φ c τ M2 with
        | no => rw [e3] at e; cases e
        | ex _ _ => rw [e3] at e; cases e
        | ok z M3 =>
          rw [e3] at e
          have e : R.of (opM p M3 [y, z]) M3 = .ok v M' := e
          cases e4 : opM p M3 [y, z] with
          | none => rw [e4] at e; cases e
          | some r => rw [e4] at e; cases e; exact link_bool hp e4
      · cases e; exact ⟨_, rfl⟩
      · cases e
end

theorem pt_ife {X : Cx} {c a b : Expr} {pos : Pos} {t u v : TT} (hc : PT X c t) (ha : PT X a u) (hb : PT X b v) : PT X (.IfExp c a b pos) (tIfT t u v) := by
  refine ⟨fun pins s σ H Q I h => ?_⟩
  refine isTrue_IfExp (thn (hc.run pins s σ H _ I h) fun d s1 ⟨H1, I1, q1⟩ => ?_)
  cases d with
  | true => exact ha.run pins s1 σ H1 Q I1 q1
  | false => exact hb.run pins s1 σ H1 Q I1 q1
theorem pw_of {X : Cx} {op : BoolOp} {es : List Expr} {pos : Pos} {t : TT} (h : PT X (.BoolOp op es pos) t) : PW X (.BoolOp op es pos) t := ⟨fun _ pins s σ H Q I q => h.run pins s σ H Q I q⟩
section
variable {Γ : Ctx} {Φ : Oracle} {k : Kx} {W : WX}
theorem XOk.blk {X : Cx} (O : XOk k Γ Φ W X) (s : Shared) (H : Hp) (scope : Scope) (env : PySem.Env) (fp : List Addr) : XOk k Γ Φ W0 (X.blk s H scope env fp) :=
  ⟨O.K, O.N, O.nd, O.calm, takes0, PassesOwn.never, O.hu, O.blt, O.glb, O.call⟩
theorem relS_eq {X : Cx} {sc scope : Scope} (hs : X.env.scope = sc) (C : Addr) (cl : List (Str × Addr)) : (compEnvC scope cl C X.env).scope = relS sc scope := by
  subst hs; rfl
mutual
theorem same_eq : ∀ (a b : I), I.same a b = true → a = b
  | .non, b, h => by cases b <;> first | rfl | cases h
  | .bl x, b, h => by cases b <;> first | (cases h; done) | (rw [of_decide_eq_true (show decide (x = _) = true from h)])
  | .int x, b, h => by cases b <;> first | (cases h; done) | (rw [of_decide_eq_true (show decide (x = _) = true from h)])
  | .str x, b, h => by cases b <;> first | (cases h; done) | (rw [of_decide_eq_true (show decide (x = _) = true from h)])
  | .scr x, b, h => by cases b <;> first | (cases h; done) | (rw [of_decide_eq_true (show decide (x = _) = true from h)])
  | .obj x, b, h => by cases b <;> first | (cases h; done) | (rw [of_decide_eq_true (show decide (x = _) = true from h)])
  | .tup x, b, h => by cases b <;> first | (cases h; done) | (rw [sames_eq x _ (show I.sames x _ = true from h)])
  | .wtp x, b, h => by cases b <;> first | (cases h; done) | (rw [sames_eq x _ (show I.sames x _ = true from h)])
  | .lst x, b, h => by cases b <;> first | (cases h; done) | (rw [sames_eq x _ (show I.sames x _ = true from h)])
  | .dic j x, b, h => by
    cases b <;> first | (cases h; done) | skip
    rename_i l y
    have h : (decide (j = l) && I.sames x y) = true := h
    rw [Bool.and_eq_true] at h
    rw [of_decide_eq_true h.1, sames_eq x y h.2]
  | .dit j x, b, h => by
    cases b <;> first | (cases h; done) | skip
    rename_i l y
    have h : (decide (j = l) && I.sames x y) = true := h
    rw [Bool.and_eq_true] at h
    rw [of_decide_eq_true h.1, sames_eq x y h.2]
theorem sames_eq : ∀ (a b : List I), I.sames a b = true → a = b
  | [], b, h => by cases b <;> first | rfl | cases h
  | x :: xs, b, h => by
    cases b with
    | nil => cases h
    | cons y ys =>
      have h : (I.same x y && I.sames xs ys) = true := h
      rw [Bool.and_eq_true] at h
      rw [same_eq x y h.1, sames_eq xs ys h.2]
end
theorem cnt_pe {X : Cx} {x : I} {c : Const} {j : Nat} {pos : Pos} (h : cnt x c = true) : PE X (.Constant c j pos) (tE k Φ W (.const x)) := by
  have one : ∀ {v : V}, (∀ F H ι, IsI k F ι H v x) → ∀ σ H Q, tE k Φ W (.const x) σ H Q → Q v H := fun hv σ H Q q => by
    obtain ⟨F, ι, τ, M, S, f⟩ := q
    exact f _ ι H S .refl (hv F H ι)
  unfold cnt at h
  split at h
  · exact PE.imp pe_non (one fun _ _ _ => .non)
  · rw [← of_decide_eq_true h]; exact PE.imp pe_bl (one fun _ _ _ => .bl _)
  · rw [← of_decide_eq_true h]; exact PE.imp pe_int (one fun _ _ _ => .int _)
  · rw [← of_decide_eq_true h]; exact PE.imp pe_str (one fun _ _ _ => .str _)
  · cases h
theorem var_pe {X : Cx} {i : Nat} {x : Str} {pos : Pos} (hN : X.N[i]? = some x) (hv : Vis X.env.scope x) (hp : plainN x = true) : PE X (.Name x pos) (tE k Φ W (.var i)) := by
  unfold plainN at hp
  simp only [Bool.and_eq_true, Bool.not_eq_true', decide_eq_false_iff_not] at hp
  refine PE.imp (pe_var hN hv hp.1.1 hp.1.2) fun σ H Q q => ?_
  obtain ⟨F, ι, τ, M, S, f⟩ := q
  unfold evE at f
  split at f
  · rename_i d e
    obtain ⟨w, e2, h⟩ := S.sl i _ e
    exact ⟨w, e2, f w ι H S .refl h⟩
  · exact f.elim
theorem call_pe {X : Cx} (O : XOk k Γ Φ W X) (hΦ : ∀ f x ps vs M, Γ.fns[f]? = some (x, ps) → Φ f vs M ≠ .no → vs.length = ps.length) {f : Nat} {x : Str} {ps : List Str} {p pos : Pos} {e : Expr} {es : List Expr} {as : Cs} (hf : Γ.fns[f]? = some (x, ps)) (hg : Gl X x) (hd : (x == ("__debug__" : Str)) = false) (P : PEs k X W Φ (e :: es) as) (hn : ∀ a ∈ e :: es, Nice a) :
    PE X (.Call (.Name x p) (e :: es) [] pos) (tE k Φ W (.call f as)) := by
  obtain ⟨a, fd, j, F, hr, hm, hk, hb, _⟩ := O.call f x ps hf
  exact PE.imp (pe_callS F hr hg hm hk hb (passAt O.tk) P.pa hd ((hn e List.mem_cons_self).starEach es X.env) (any_back fun e m => hn e (List.mem_cons_of_mem _ m))) fun σ H Q q => call_imp q fun vs M e => hΦ f x ps vs M hf e
theorem PK.imp {X : Cx} {kws : List Keyword} {t t' : TA} (h : PK X kws t) (i : ∀ σ H Q, t' σ H Q → t σ H Q) : PK X kws t' := ⟨fun pos pins s σ H Q I q => h.run pos pins s σ H Q I (i σ H Q q)⟩
theorem pk_of {X : Cx} : ∀ {kws : List Keyword} {cs : Cs}, PEs k X W Φ (kws.map (·.value)) cs → PK X kws (tA k Φ W cs)
  | [], _, h => by
    cases h
    exact PK.imp pk_nil fun σ H Q q => tA_nil q
  | ⟨nm, e, kp⟩ :: kws, _, h => by
    cases h with
    | cons h1 hs t => exact PK.imp (pk_cons h1 (pk_of t)) fun σ H Q q => tA_cons q
theorem kw_all {pos : Pos} {env : PySem.Env} : ∀ {kws : List Keyword} {ks : List Str}, kwNames kws = some ks → (backToKw pos (keywordEach kws env)).all (·.1.isSome) = true ∧ (backToKw pos (keywordEach kws env)).filterMap (·.1) = ks ∧ (backToKw pos (keywordEach kws env)).any (·.1.isNone) = false
  | [], ks, h => by cases h; exact ⟨rfl, rfl, rfl⟩
  | ⟨nm, e, kp⟩ :: kws, ks, h => by
    cases nm with
    | none => cases h
    | some n =>
      have h : (kwNames kws).map (n :: ·) = some ks := h
      cases e1 : kwNames kws with
      | none => rw [e1] at h; cases h
      | some r =>
        rw [e1] at h
        cases h
        obtain ⟨q1, q2, q3⟩ := kw_all (pos := pos) (env := env) e1
        exact ⟨q1, congrArg (n :: ·) q2, q3⟩
theorem run_fnkS {X : Cx} {CX : CXT} {j : Nat} {f : Addr} {fd : FuncData} {ps ks : List Str} {sp : Sp} {g : List Value → List Value → List Value} {gV : List V → List V → List V} {E : XK} {pins : List (Addr × Obj)} {σ : L2.St} {H : Hp} {s : Shared} {Q : VK} {us ws : List Value} {vs zs : List V} (F : FnOk X.prog X.w X.K X.mg X.base CX j f fd ps sp) (hr : Room j X.A) (hb : KBinds X.K fd ps ks g gV) (hx : PassesAt CX X σ E)
    (I : Inv X pins σ H s) (r : Vals vs us) (rz : Vals zs ws) (h : sp (gV vs zs) H Q E) : wpAny (model X.prog X.w) X.A (call (.ref f) us (ks.zip ws)) (EP X pins σ Q) X.xe s := by
  have r2 := hb.rel r rz
  have hl : (g us ws).length = ps.length := by rw [← r2.length]; exact F.len _ _ _ _ h
  refine wpAny_call (codeAny_mono (F.run X.A X.stack s H ⟨us, ks.zip ws⟩ (g us ws) (gV vs zs) Q E hr I.env0 (hb.to s us ws I.kIn hl) r2 h) fun r s' hq => ?_)
  cases r with
  | error e => exact hx pins H s e s' I hq
  | ok fl =>
    cases fl with
    | ret u => exact I.after hq
    | next => exact False.elim hq
    | brk => exact False.elim hq
    | cont => exact False.elim hq
theorem pe_callK0 {X : Cx} {CX : CXT} {f : Addr} {fd : FuncData} {ps ks : List Str} {sp : Sp} {g : List Value → List Value → List Value} {gV : List V → List V → List V} {j : Nat} {x : Str} {p pos : Pos} {kws : List Keyword} {tk : TA} {E : L2.St → XK} (F : FnOk X.prog X.w X.K X.mg X.base CX j f fd ps sp) (hr : Room j X.A) (hg : Gl X x) (hm : X.mg x = some (.ref f)) (hk : PySem.W.keepIn X.K (.ref f) = true) (hb : KBinds X.K fd ps ks g gV)
    (hx : ∀ σ, PassesAt CX X σ (E σ)) (hkw : PK X kws tk) (hn : kwNames kws = some ks) (hdb : (x == ("__debug__" : Str)) = false) : PE X (.Call (.Name x p) [] kws pos) (fun σ H Q => tk σ H fun zs H2 => sp (gV [] zs) H2 Q (E σ)) := by
  refine ⟨fun pins s σ H Q I h => ?_⟩
  obtain ⟨q1, q2, q3⟩ := kw_all (pos := pos) (env := X.env) hn
  refine wpAny_Call_Name_kw (ld_glob I hg hm ?_ hdb)
  refine PySem.W.callWith_KW0 (h₀ := X.base) I.ok.mod.kin hk q1 (thn (hkw.run pos pins s σ H _ I h) fun ws s2 ⟨zs, H2, I2, rz, q⟩ => ⟨I2.kIn, ?_⟩) (by rw [q3]; rfl)
  rw [q2]
  exact run_fnkS F hr hb (hx σ) I2 .nil rz q
theorem ckEs_nice {sc : Scope} : ∀ {cs : Cs} {es : List Expr}, ckEs Γ sc cs es = true → ∀ e ∈ es, Nice e
  | .nil, [], _, _, m => nomatch m
  | .nil, _ :: _, h, _, _ => by cases h
  | .cons _ _, [], h, _, _ => by cases h
  | .cons c cs, e :: es, h, a, m => by
    unfold ckEs at h
    rw [Bool.and_eq_true] at h
    rcases List.mem_cons.mp m with rfl | m
    · exact nice_of h.1
    · exact ckEs_nice h.2 a m
/-- how a plain expression is a test -/
theorem plain_test {c : C} {e : Expr} {X : Cx} (hK : k.K = X.K) (h : PE X e (tE k Φ W c)) (he : ∀ whole, isTrue e X.env whole = (do let v ← whole; standAt e.pos; holding [v] (truthy v))) : PT X e (tT k Φ W c) := by
  obtain ⟨K0, c1, c2⟩ := k
  obtain rfl : K0 = X.K := hK
  exact PT.imp (pt_truth h he) fun σ H Q q => tT_val q
theorem shape_plain {sc : Scope} {o : Op} {e : Expr} {es : List Expr} {env : PySem.Env} (h : shape sc o e = some es) (hc : o.cmp = false) (whole : Sem Value) : isTrue e env whole = (do let v ← whole; standAt e.pos; holding [v] (truthy v)) := by
  unfold shape at h
  split at h <;> first | rfl | (cases hc; done) | (cases h; done)
theorem opD_bool {o : Op} (hc : o.cmp = true) {us : List I} {v : I} (e : opD o us = some v) : ∃ b, v = .bl b := by
  have two : ∀ {a b : I} {p : Int → Int → Bool} {q : List Nat → List Nat → Option Bool}, cmpI p q a b = some v → ∃ b, v = .bl b := fun {a b p q} e => by
    unfold cmpI at e
    split at e
    · cases e; exact ⟨_, rfl⟩
    · obtain ⟨r, _, rfl⟩ := map_some e; exact ⟨_, rfl⟩
    · cases e
  have isn : ∀ {a w : I}, isN a = some w → ∃ b, w = .bl b := fun {a w} e => by
    unfold isN at e
    split at e <;> (cases e; exact ⟨_, rfl⟩)
  unfold opD at e
  split at e <;> first | (cases hc; done) | (cases e; done) | (exact two e) | (exact isn e) | (obtain ⟨r, _, rfl⟩ := map_some e; exact ⟨_, rfl⟩) | skip
  obtain ⟨w, e1, e⟩ := Option.bind_eq_some_iff.mp e
  split at e
  · cases e; exact ⟨_, rfl⟩
  · cases e
theorem ev_bool {o : Op} {as : Cs} (hc : o.cmp = true) {τ : Env} {M M' : Mem} {v : I} (e : evE Φ (.op o as) τ M = .ok v M') : ∃ b, v = .bl b := by
  unfold evE at e
  cases e1 : evEs Φ as τ M with
  | no => rw [e1] at e; cases e
  | ex _ _ => rw [e1] at e; cases e
  | ok vs M1 =>
    rw [e1] at e
    have e : R.of (opM o M1 vs) M1 = .ok v M' := e
    cases e2 : opM o M1 vs with
    | none => rw [e2] at e; cases e
    | some w =>
      rw [e2] at e; cases e
      unfold opM at e2
      obtain ⟨us, _, e3⟩ := Option.bind_eq_some_iff.mp e2
      exact opD_bool hc e3
theorem cmp_pt {X : Cx} (O : XOk k Γ Φ W X) {sc : Scope} {o : Op} {e : Expr} {es : List Expr} {as : Cs} (h : shape sc o e = some es) (hc : o.cmp = true) (P : PEs k X W Φ es as) (ne : ∀ a ∈ es, Nice a) : PT X e (tT k Φ W (.op o as)) := by
  obtain ⟨K0, c1, c2⟩ := k
  obtain rfl : K0 = X.K := O.K
  have conv : ∀ σ H Q, tT ⟨X.K, c1, c2⟩ Φ W (.op o as) σ H Q → tE ⟨X.K, c1, c2⟩ Φ W (mkC false (.op o as)) σ H fun x H' => ∃ k, x = .bl k ∧ Q k H' := fun σ H Q q => tT_bool q fun τ M v M' e => ev_bool hc e
  unfold shape at h
  split at h <;> first | (cases hc; done) | (cases h; done) | skip
  · cases h; obtain ⟨ca, cb, rfl, h1, h2⟩ := P.inv2 rfl; exact PT.imp (pt_cmpR (op_eqD (by have := O.hu; omega)) h1 h2 (nomark _)) fun _ _ Q q => two_imp (fun _ _ _ => ru_eq) (conv _ _ _ q)
  · cases h; obtain ⟨ca, cb, rfl, h1, h2⟩ := P.inv2 rfl; exact PT.imp (pt_cmpR (op_neD (by have := O.hu; omega)) h1 h2 (nomark _)) fun _ _ Q q => two_imp (fun _ _ _ => ru_ne) (conv _ _ _ q)
  · cases h; obtain ⟨ca, cb, rfl, h1, h2⟩ := P.inv2 rfl; exact PT.imp (pt_cmpR op_lt2 h1 h2 (nomark _)) fun _ _ Q q => two_imp (fun _ _ _ => ru_lt) (conv _ _ _ q)
  · cases h; obtain ⟨ca, cb, rfl, h1, h2⟩ := P.inv2 rfl; exact PT.imp (pt_cmpR op_le h1 h2 (nomark _)) fun _ _ Q q => two_imp (fun _ _ _ => ru_cmp (op := .le) rfl fun _ _ _ e => e) (conv _ _ _ q)
  · cases h; obtain ⟨ca, cb, rfl, h1, h2⟩ := P.inv2 rfl; exact PT.imp (pt_cmpR op_gt h1 h2 (nomark _)) fun _ _ Q q => two_imp (fun _ _ _ => ru_cmp (op := .gt) rfl fun _ _ _ e => e) (conv _ _ _ q)
  · cases h; obtain ⟨ca, cb, rfl, h1, h2⟩ := P.inv2 rfl; exact PT.imp (pt_cmpR op_ge h1 h2 (nomark _)) fun _ _ Q q => two_imp (fun _ _ _ => ru_cmp (op := .ge) rfl fun _ _ _ e => e) (conv _ _ _ q)
  · cases h; obtain ⟨ca, rfl, h1⟩ := P.inv1 rfl; exact PT.imp (pt_cmp (pc_isN h1)) fun _ _ Q q => one_imp (fun _ _ z => ru_isN z) (conv _ _ _ q)
  · cases h; obtain ⟨ca, rfl, h1⟩ := P.inv1 rfl; exact PT.imp (pt_cmp (pc_notN h1)) fun _ _ Q q => one_imp (fun _ _ z => ru_notN z) (conv _ _ _ q)
  · obtain ⟨hc, h⟩ := if_some h
    cases h
    obtain ⟨ca, rfl, h1⟩ := P.inv1 rfl
    rw [of_decide_eq_true hc]
    exact (isB_pe (cl := false) (ng := false) h1).2
  · obtain ⟨hc, h⟩ := if_some h
    cases h
    obtain ⟨ca, rfl, h1⟩ := P.inv1 rfl
    rw [of_decide_eq_true hc]
    exact (isB_pe (cl := false) (ng := true) h1).2
  · cases h; obtain ⟨ca, cb, rfl, h1, h2⟩ := P.inv2 rfl; exact PT.imp (pt_cmpR (op_in4 O.hu) h1 h2 ((ne _ (by simp)).marks _)) fun _ _ Q q => two_imp (fun _ _ _ => ru_in) (conv _ _ _ q)
  · cases h; obtain ⟨ca, cb, rfl, h1, h2⟩ := P.inv2 rfl; exact PT.imp (pt_cmpR (op_notIn4 O.hu) h1 h2 ((ne _ (by simp)).marks _)) fun _ _ Q q => two_imp (fun _ _ _ => ru_notin) (conv _ _ _ q)
  · cases o <;> first | (cases hc; done) | (cases h; done)
  · cases o <;> first | (cases hc; done) | (cases h; done)
theorem nice_it {sc : Scope} {it : It} {tg e : Expr} (h : ckIt Γ sc it tg e = true) : Nice e := by
  cases it with
  | seq c => exact nice_of (show ckE Γ sc c e = true by unfold ckIt at h; exact h)
  | range as => cases e <;> first | (cases h; done) | exact ⟨(fun _ _ z => nomatch z), (fun _ _ _ z => nomatch z), (fun _ _ _ _ z => nomatch z)⟩
  | enum c => cases tg <;> first | (cases h; done) | (cases e <;> first | (cases h; done) | exact ⟨(fun _ _ z => nomatch z), (fun _ _ _ z => nomatch z), (fun _ _ _ _ z => nomatch z)⟩)
  | zip a b => cases tg <;> first | (cases h; done) | (cases e <;> first | (cases h; done) | exact ⟨(fun _ _ z => nomatch z), (fun _ _ _ z => nomatch z), (fun _ _ _ _ z => nomatch z)⟩)
theorem tTs_nil {σ : L2.St} {H : Hp} {Q : Bool → Hp → Prop} (h : tTs k Φ .nil σ H Q) : tYes σ H Q := by
  obtain ⟨F, ι, τ, M, S, f⟩ := h
  exact f ι H S .refl
theorem tTs_one {c : C} {σ : L2.St} {H : Hp} {Q : Bool → Hp → Prop} (h : tTs k Φ (.cons c .nil) σ H Q) : tT k Φ W0 c σ H Q := by
  obtain ⟨F, ι, τ, M, S, f⟩ := h
  refine ⟨F, ι, τ, M, S, ?_⟩
  unfold evT at f
  cases e : evE Φ c τ M with
  | no => rw [e] at f; exact f
  | ex _ _ => rw [e] at f; exact f.elim
  | ok v M1 =>
    rw [e] at f
    have f : FinTs k F ι H σ τ (match truth (sh M1 v) with
      | some true => evT Φ .nil τ M1
      | some false => .ok false M1
      | none => .no) Q := f
    cases et : truth (sh M1 v) with
    | none => rw [et] at f; exact f.elim
    | some b =>
      rw [et] at f
      refine ⟨b, et, fun ι1 H1 S1 s1 => ?_⟩
      cases b with
      | true => exact f ι1 H1 S1 s1
      | false => exact f ι1 H1 S1 s1
end
end Rs

/-! second layer, part l: every expression of the language is read in the text, the whole -/
namespace Rs
open PySem PySem.Spec PyProof.Rows L2
section
variable {Γ : Ctx} {Φ : Oracle} {k : Kx} {W : WX}
theorem pa_of1 {X : Cx} {e : Expr} {c : C} (h : PE X e (tE k Φ W c)) (n : Nice e) : PA X [e] (tA k Φ W (.cons c .nil)) := (PEs.cons h (fun r => n.starEach r X.env) .nil).pa
theorem meth_pe {X : Cx} {sc : Scope} (O : XOk k Γ Φ W X) {m : Mth} {o : C} {as : Cs} {eo : Expr} {es : List Expr} {ap cp : Pos} (hr : plainRecv eo = true) (hl : (ap.endLine == cp.line) = true) (hn : es.length = mthArgs m) (ho : PE X eo (tE k Φ W o)) (P : PEs k X W Φ es as) (ne : ∀ a ∈ es, Nice a) :
    PE X (.Call (.Attribute eo (Str.ofString (mthName m)) ap) es [] cp) (tE k Φ W (.meth m o as)) := by
  obtain ⟨K0, c1, c2⟩ := k
  obtain rfl : K0 = X.K := O.K
  have hu : X.A.units + 1 < cLine := by have := O.hu; omega
  have one : mthArgs m = 1 → ∃ e c, es = [e] ∧ as = .cons c .nil ∧ PE X e (tE ⟨X.K, c1, c2⟩ Φ W c) ∧ Nice e := fun h1 => by
    obtain ⟨e, rfl⟩ := List.length_eq_one_iff.mp (hn.trans h1)
    obtain ⟨c, rfl, hc⟩ := P.inv1 rfl
    exact ⟨e, c, rfl, rfl, hc, ne _ List.mem_cons_self⟩
  cases m with
  | join =>
    obtain ⟨e, c, rfl, rfl, hc, n⟩ := one rfl
    exact PE.imp (pe_join ho hc (n.starEach [] X.env) (recv_base hr _ _ _) hl) fun σ H Q q => join_imp q
  | split =>
    obtain ⟨e, c, rfl, rfl, hc, n⟩ := one rfl
    exact PE.imp (pe_split ho hc (n.starEach [] X.env) (recv_base hr _ _ _) hl) fun σ H Q q => split_imp q
  | get1 =>
    obtain ⟨e, c, rfl, rfl, hc, n⟩ := one rfl
    refine PE.imp (pe_dget1 hu ho hc ⟨recv_base hr _ _ _, ?_, hl, ?_⟩) fun σ H Q q => get1_imp q
    · rw [n.starEach]; rfl
    · rw [n.starEach]; rfl
  | get2 =>
    obtain ⟨e, f, rfl⟩ : ∃ e f, es = [e, f] := by
      match es, hn with
      | [e, f], _ => exact ⟨e, f, rfl⟩
    obtain ⟨c, d, rfl, hc, hd⟩ := P.inv2 rfl
    have n1 := ne e List.mem_cons_self
    have n2 := ne f (List.mem_cons_of_mem _ List.mem_cons_self)
    refine PE.imp (pe_dget2 hu ho hc hd ⟨recv_base hr _ _ _, ?_, hl, ?_⟩) fun σ H Q q => get2_imp q
    · rw [n1.starEach, n2.starEach]; rfl
    · rw [n1.starEach, n2.starEach]; rfl
  | index =>
    obtain ⟨e, c, rfl, rfl, hc, n⟩ := one rfl
    exact PE.imp (pe_bm PySem.F.plainAttrs_list PySem.F.slot_list_index PySem.F.type_list_index (mt_indexD O.hu) ho (pa_of1 hc n) (recv_base hr _ _ _) (by rw [n.starEach]; rfl) hl (n.starEach [] X.env) rfl) fun σ H Q q => index_imp q
theorem comp_pe {X : Cx} {sc scope : Scope} (O : XOk k Γ Φ W X) (hs : X.env.scope = sc) {cl : Bool} {own : List Nat} {elt : C} {g : Tg} {it : It} {ifs : Cs} {ee tg ie : Expr} {is : List Expr} {pos : Pos}
    (h1 : blkC Γ.N sc scope (ownP Γ.N own) = true) (h2 : ckT Γ.N false (relS sc scope) own g tg = true) (hi : PI X tg ie (tI k Φ W it)) (ni : Nice ie)
    (he : ∀ (s : Shared) (H : Hp) (C : Addr) (cl : List (Str × Addr)) (fp : List Addr), PE (X.blk s H scope (compEnvC scope cl C X.env) fp) ee (tE k Φ W0 elt))
    (ht : ∀ (s : Shared) (H : Hp) (C : Addr) (cl : List (Str × Addr)) (fp : List Addr), PTs (X.blk s H scope (compEnvC scope cl C X.env) fp) is (tTs k Φ ifs)) :
    PE X (.ListComp ee [⟨tg, ie, is, 0⟩] scope pos) (tE k Φ W (mkC cl (.comp own elt g it ifs))) ∧ ∀ {y : Str} {py spos : Pos} {i : Nat}, X.N[i]? = some y → X.env.scope.names.lookup y = some .local → (py.line == pos.line) = true → (scope.names.any fun (n, k) => n == y && (k == .local || k == .cell)) = false →
      PS X (.Assign [.Name y py] (.ListComp ee [⟨tg, ie, is, 0⟩] scope pos) spos) (tAsg (tE k Φ W (mkC cl (.comp own elt g it ifs))) (gName i)) := by
  obtain ⟨K0, c1, c2⟩ := k
  obtain rfl : K0 = X.K := O.K
  have ok : BlkOk X.N X.env.scope scope (ownP Γ.N own) := by
    rw [O.N, hs]; exact blkOk_by h1
  have ho : (ownP Γ.N own).map (·.2) = own := by
    unfold ownP
    rw [List.map_map]
    exact List.map_id _
  have hg : ∀ (s : Shared) (H : Hp) (C : Addr) (cl : List (Str × Addr)) (fp : List Addr), PG (X.blk s H scope (compEnvC scope cl C X.env) fp) tg (gTg X.K g) := fun s H C cl fp => by
    refine sndT (X := X.blk s H scope (compEnvC scope cl C X.env) fp) O.calm O.nd (cel := false) (sc := relS sc scope) (own := own) (fun x hx => .inl ?_) g tg ?_
    · show (compEnvC scope cl C X.env).scope.names.lookup x = _
      rw [relS_eq hs]
      rw [Bool.false_and, Bool.or_false] at hx
      exact of_decide_eq_true hx
    · show ckT X.N false _ own g tg = true
      rw [O.N]; exact h2
  refine ⟨PE.imp (pe_lc (pos := pos) O.calm O.nd hi ok hg ht he (ni.folded X.env)) fun σ H Q q => ?_, fun {y py spos i} hy hyl hln hsc => ?_⟩
  · rw [ho]
    exact comp_imp (fun j hj => ckT_has g tg h2 hj) q
  · refine ⟨fun pins s σ H D I q => ?_⟩
    have hk : X.env.blockKind = .function := by
      unfold PySem.Env.blockKind
      rw [I.ok.kind]; rfl
    have hsw : swapsWith (.ListComp ee [⟨tg, ie, is, 0⟩] scope pos) (some (.Name y py)) spos.line X.env = pure true := by
      have e2 : X.env.kindOf y = some .local := hyl
      have k3 : py.line = pos.line := by simpa using hln
      unfold swapsWith
      simp [hk, e2, k3, Expr.pos]
      have k5 : (scope.names.any fun x => x.fst == y && (x.snd == NameKind.local || x.snd == NameKind.cell)) = false := hsc
      rw [k5]; rfl
    refine (ps_setLc (pos := pos) (spos := spos) (py := py) O.calm O.nd hy hyl hsw hi ok hg ht he (ni.folded X.env)).run pins s σ H D I ?_
    rw [ho]
    exact comp_imp (fun j hj => ckT_has g tg h2 hj) q
variable (hΦ : ∀ f x ps vs M, Γ.fns[f]? = some (x, ps) → Φ f vs M ≠ .no → vs.length = ps.length)
include hΦ
mutual
theorem sndE : ∀ (c : C) (W : WX) (sc : Scope) (X : Cx) (e : Expr), XOk k Γ Φ W X → X.env.scope = sc → ckE Γ sc c e = true → PE X e (tE k Φ W c) ∧ PT X e (tT k Φ W c)
  | .const x, W, sc, X, e, O, hs, h => by
    cases e <;> first | (cases h; done) | skip
    rename_i c j pos
    have p := cnt_pe (k := k) (Φ := Φ) (W := W) (X := X) (j := j) (pos := pos) (show cnt x c = true from h)
    exact ⟨p, plain_test O.K p fun _ => rfl⟩
  | .glob x v, W, sc, X, e, O, hs, h => by
    cases e <;> first | (cases h; done) | skip
    rename_i y pos
    have h : (decide (x = y) && glB sc y && Γ.glb.any fun p => decide (p.1 = x) && I.same p.2 v) = true := h
    simp only [Bool.and_eq_true, decide_eq_true_eq, List.any_eq_true] at h
    obtain ⟨⟨rfl, g⟩, p, hp, rfl, hv⟩ := h
    obtain ⟨g, d, n⟩ := glB_of hs g
    obtain ⟨u, w, hm, r, hi⟩ := O.glb p hp
    rw [same_eq _ _ hv] at hi
    have q : PE X (.Name p.1 pos) (tE k Φ W (.glob p.1 v)) := PE.imp (pe_glob g hm r d) fun σ H Q q => by
      obtain ⟨F, ι, τ, M, S, f⟩ := q
      exact f w ι H S .refl (hi F ι H)
    exact ⟨q, plain_test O.K q fun _ => rfl⟩
  | .var i, W, sc, X, e, O, hs, h => by
    cases e <;> first | (cases h; done) | skip
    rename_i y pos
    have h : (decide (Γ.N[i]? = some y) && visB sc y && plainN y) = true := h
    simp only [Bool.and_eq_true, decide_eq_true_eq] at h
    have q := var_pe (k := k) (W := W) (Φ := Φ) (X := X) (pos := pos) (by rw [O.N]; exact h.1.1) (visB_of hs h.1.2) h.2
    exact ⟨q, plain_test O.K q fun _ => rfl⟩
  | .op o as, W, sc, X, e, O, hs, h => by
    unfold ckE at h
    split at h
    · rename_i es e1
      have P := sndEs as W sc X es O hs h
      have ne := ckEs_nice h
      have q := sndOp (cl := false) O hs (fun z => nomatch z) e1 P ne
      refine ⟨q, ?_⟩
      cases hc : o.cmp with
      | true => exact cmp_pt O e1 hc P ne
      | false => exact plain_test O.K q (shape_plain e1 hc)
    · cases h
  | .disp t as, W, sc, X, e, O, hs, h => by
    cases t with
    | true =>
      cases e <;> first | (cases h; done) | skip
      rename_i es j pos
      have P := sndEs as W sc X es O hs (show ckEs Γ sc as es = true from h)
      have q : PE X (.Tuple es j pos) (tE k Φ W (.disp true as)) := PE.imp (pe_tup P.pa) fun σ H Q q => disp_imp (cl := false) (fun z => nomatch z) q
      exact ⟨q, plain_test O.K q fun _ => rfl⟩
    | false =>
      cases e <;> first | (cases h; done) | skip
      rename_i es pos
      have P := sndEs as W sc X es O hs (show ckEs Γ sc as es = true from h)
      have q : PE X (.List es pos) (tE k Φ W (.disp false as)) := PE.imp (pe_lst P.pa) fun σ H Q q => disp_imp (cl := false) (fun z => nomatch z) q
      exact ⟨q, plain_test O.K q fun _ => rfl⟩
  | .dict t, W, sc, X, e, O, hs, h => by
    cases e <;> first | (cases h; done) | skip
    rename_i ks vs pos
    cases ks with
    | cons _ _ => cases vs <;> cases h
    | nil =>
      cases vs with
      | cons _ _ => cases h
      | nil =>
        have q : PE X (.Dict [] [] pos) (tE k Φ W (.dict t)) := by
          cases t with
          | true => exact PE.imp pe_dnewT fun σ H Q q => dict_imp (cl := false) q
          | false => exact PE.imp pe_dnewK fun σ H Q q => dict_imp (cl := false) q
        exact ⟨q, plain_test O.K q fun _ => rfl⟩
  | .cell (.op o as), W, sc, X, e, O, hs, h => by
    have h : (o.makes && ckE Γ sc (.op o as) e) = true := h
    rw [Bool.and_eq_true] at h
    obtain ⟨hm, h⟩ := h
    unfold ckE at h
    split at h
    · rename_i es e1
      have q := sndOp (cl := true) O hs (fun _ => hm) e1 (sndEs as W sc X es O hs h) (ckEs_nice h)
      exact ⟨q, plain_test O.K q (shape_plain e1 (by cases o <;> first | rfl | cases hm))⟩
    · cases h
  | .cell (.disp t as), W, sc, X, e, O, hs, h => by
    cases t with
    | true => cases h
    | false =>
      replace h : ckE Γ sc (.disp false as) e = true := by
        have h : (true && ckE Γ sc (.disp false as) e) = true := h
        rw [Bool.true_and] at h; exact h
      cases e <;> first | (cases h; done) | skip
      rename_i es pos
      have P := sndEs as W sc X es O hs (show ckEs Γ sc as es = true from h)
      have q : PE X (.List es pos) (tE k Φ W (.cell (.disp false as))) := PE.imp (pe_lst P.pa) fun σ H Q q => disp_imp (cl := true) (fun _ => rfl) q
      exact ⟨q, plain_test O.K q fun _ => rfl⟩
  | .cell (.dict t), W, sc, X, e, O, hs, h => by
    replace h : ckE Γ sc (.dict t) e = true := by
      have h : (true && ckE Γ sc (.dict t) e) = true := h
      rw [Bool.true_and] at h; exact h
    cases e <;> first | (cases h; done) | skip
    rename_i ks vs pos
    cases ks with
    | cons _ _ => cases vs <;> cases h
    | nil =>
      cases vs with
      | cons _ _ => cases h
      | nil =>
        have q : PE X (.Dict [] [] pos) (tE k Φ W (.cell (.dict t))) := by
          cases t with
          | true => exact PE.imp pe_dnewT fun σ H Q q => dict_imp (cl := true) q
          | false => exact PE.imp pe_dnewK fun σ H Q q => dict_imp (cl := true) q
        exact ⟨q, plain_test O.K q fun _ => rfl⟩
  | .cell (.comp own elt g it ifs), W, sc, X, e, O, hs, h => by
    replace h : ckE Γ sc (.comp own elt g it ifs) e = true := by
      have h : (true && ckE Γ sc (.comp own elt g it ifs) e) = true := h
      rw [Bool.true_and] at h; exact h
    cases e <;> first | (cases h; done) | skip
    rename_i ee gs scope pos
    cases gs with
    | nil => cases h
    | cons g1 t =>
      obtain ⟨tg, ie, is, asy⟩ := g1
      cases t with
      | cons _ _ => cases h
      | nil =>
        have h : (decide (asy = 0) && blkC Γ.N sc scope (ownP Γ.N own) && ckT Γ.N false (relS sc scope) own g tg && ckIt Γ sc it tg ie && ckE Γ (relS sc scope) elt ee && ckIfs Γ (relS sc scope) ifs is) = true := h
        simp only [Bool.and_eq_true, decide_eq_true_eq] at h
        obtain ⟨⟨⟨⟨⟨rfl, h1⟩, h2⟩, h3⟩, h4⟩, h5⟩ := h
        have q := (comp_pe (cl := true) (pos := pos) O hs h1 h2 (sndIt it W sc X tg ie O hs h3) (nice_it h3) (fun s H C cl fp => (sndE elt W0 (relS sc scope) _ ee (O.blk s H scope _ fp) (relS_eq hs C cl) h4).1) (fun s H C cl fp => sndIfs ifs (relS sc scope) _ is (O.blk s H scope _ fp) (relS_eq hs C cl) h5)).1
        exact ⟨q, plain_test O.K q fun _ => rfl⟩
  | .cell (.const _), W, sc, X, e, O, hs, h => by cases h
  | .cell (.glob _ _), W, sc, X, e, O, hs, h => by cases h
  | .cell (.var _), W, sc, X, e, O, hs, h => by cases h
  | .cell (.cell _), W, sc, X, e, O, hs, h => by cases h
  | .cell (.call _ _), W, sc, X, e, O, hs, h => by cases h
  | .cell (.callk _ _ _), W, sc, X, e, O, hs, h => by cases h
  | .cell (.and _ _), W, sc, X, e, O, hs, h => by cases h
  | .cell (.or _ _), W, sc, X, e, O, hs, h => by cases h
  | .cell (.not _), W, sc, X, e, O, hs, h => by cases h
  | .cell (.ife _ _ _), W, sc, X, e, O, hs, h => by cases h
  | .cell (.chain _ _ _ _ _), W, sc, X, e, O, hs, h => by cases h
  | .cell (.sl2 _ _ _), W, sc, X, e, O, hs, h => by cases h
  | .cell (.meth _ _ _), W, sc, X, e, O, hs, h => by cases h
  | .cell (.app _ _), W, sc, X, e, O, hs, h => by cases h
  | .cell (.pop _), W, sc, X, e, O, hs, h => by cases h
  | .cell (.ext _ _), W, sc, X, e, O, hs, h => by cases h
  | .call f as, W, sc, X, e, O, hs, h => by
    cases e <;> first | (cases h; done) | skip
    rename_i fn es kws pos
    cases fn <;> first | (cases h; done) | skip
    rename_i x p
    cases kws with
    | cons _ _ => cases h
    | nil =>
      have h : ((match (generalizing := false) Γ.fns[f]? with
        | some p => decide (p.1 = x)
        | none => false) && glB sc x && !es.isEmpty && ckEs Γ sc as es) = true := h
      rw [Bool.and_eq_true, Bool.and_eq_true, Bool.and_eq_true] at h
      obtain ⟨⟨⟨h1, h2⟩, hne⟩, h3⟩ := h
      cases es with
      | nil => cases hne
      | cons e0 es =>
        cases hf : Γ.fns[f]? with
        | none => rw [hf] at h1; cases h1
        | some pp =>
          rw [hf] at h1
          obtain ⟨y, ps⟩ := pp
          have h1 : decide (y = x) = true := h1
          have h1 := of_decide_eq_true h1
          subst h1
          obtain ⟨g, d, n⟩ := glB_of hs h2
          have q := call_pe O hΦ hf g d (sndEs as W sc X (e0 :: es) O hs h3) (ckEs_nice h3) (p := p) (pos := pos)
          exact ⟨q, plain_test O.K q fun _ => rfl⟩
  | .callk f ord as, W, sc, X, e, O, hs, h => by
    cases e <;> first | (cases h; done) | skip
    rename_i fn es kws pos
    cases fn <;> first | (cases h; done) | skip
    rename_i x p
    cases es with
    | cons _ _ => cases h
    | nil =>
      have h : ((match (generalizing := false) Γ.fns[f]? with
        | some p => decide (p.1 = x) && decide (ord.length = p.2.length)
        | none => false) && glB sc x && ckKs Γ sc as kws && (match (generalizing := false) kwNames kws with
        | some ks => Γ.kws.contains (f, ks, ord) && decide (ks.length = ord.length)
        | none => false) && decide ord.Nodup && (ord.all fun j => decide (j < ord.length)) && !kws.isEmpty) = true := h
      simp only [Bool.and_eq_true] at h
      obtain ⟨⟨⟨⟨⟨⟨h1, h2⟩, h3⟩, h4⟩, h5⟩, _⟩, _⟩ := h
      cases hf : Γ.fns[f]? with
      | none => rw [hf] at h1; cases h1
      | some pp =>
        cases hk : kwNames kws with
        | none => rw [hk] at h4; cases h4
        | some ks =>
          rw [hf] at h1
          rw [hk] at h4
          obtain ⟨y, ps⟩ := pp
          have h1 : (decide (y = x) && decide (ord.length = ps.length)) = true := h1
          have h4 : (Γ.kws.contains (f, ks, ord) && decide (ks.length = ord.length)) = true := h4
          rw [Bool.and_eq_true] at h1 h4
          have e1 := of_decide_eq_true h1.1
          subst e1
          obtain ⟨g, d, n⟩ := glB_of hs h2
          obtain ⟨a, fd, j, F, hr, hm, hkp, hb, hkb⟩ := O.call f y ps hf
          have hkb := hkb ks ord (List.contains_iff_mem.mp h4.1)
          have q : PE X (.Call (.Name y p) [] kws pos) (tE k Φ W (.callk f ord as)) := PE.imp (pe_callK0 (pos := pos) (p := p) F hr g hm hkp hkb (passAt O.tk) (pk_of (sndKs as W sc X kws O hs h3)) hk d) fun σ H Q q => callk_imp q fun vs M e => hΦ f y ps vs M hf e
          exact ⟨q, plain_test O.K q fun _ => rfl⟩
  | .and a b, W, sc, X, e, O, hs, h => by
    cases e <;> first | (cases h; done) | skip
    rename_i op es pos
    cases op <;> first | (cases h; done) | skip
    cases es with
    | nil => cases h
    | cons ea t =>
      cases t with
      | nil => cases h
      | cons eb r =>
        have h : (ckE Γ sc a ea && (match (generalizing := false) r with
          | [] => ckE Γ sc b eb
          | _ => ckE Γ sc b (.BoolOp .And (eb :: r) pos))) = true := h
        rw [Bool.and_eq_true] at h
        obtain ⟨p1, t1⟩ := sndE a W sc X ea O hs h.1
        have hK := O.K
        cases r with
        | nil =>
          obtain ⟨p2, t2⟩ := sndE b W sc X eb O hs h.2
          exact ⟨PE.imp (pe_andT p1 (pe_one p2)) fun σ H Q q => hK ▸ and_imp q, PT.imp (pw_and t1 (pw_and1 t2)).pt fun σ H Q q => tT_and q⟩
        | cons ec r =>
          obtain ⟨p2, t2⟩ := sndE b W sc X (.BoolOp .And (eb :: ec :: r) pos) O hs h.2
          exact ⟨PE.imp (pe_andT p1 p2) fun σ H Q q => hK ▸ and_imp q, PT.imp (pw_and t1 (pw_of t2)).pt fun σ H Q q => tT_and q⟩
  | .or a b, W, sc, X, e, O, hs, h => by
    cases e <;> first | (cases h; done) | skip
    rename_i op es pos
    cases op <;> first | (cases h; done) | skip
    cases es with
    | nil => cases h
    | cons ea t =>
      cases t with
      | nil => cases h
      | cons eb r =>
        have h : (ckE Γ sc a ea && (match (generalizing := false) r with
          | [] => ckE Γ sc b eb
          | _ => ckE Γ sc b (.BoolOp .Or (eb :: r) pos))) = true := h
        rw [Bool.and_eq_true] at h
        obtain ⟨p1, t1⟩ := sndE a W sc X ea O hs h.1
        have hK := O.K
        cases r with
        | nil =>
          obtain ⟨p2, t2⟩ := sndE b W sc X eb O hs h.2
          exact ⟨PE.imp (pe_orT p1 (pe_one p2)) fun σ H Q q => hK ▸ or_imp q, PT.imp (pw_or t1 (pw_or1 t2)).pt fun σ H Q q => tT_or q⟩
        | cons ec r =>
          obtain ⟨p2, t2⟩ := sndE b W sc X (.BoolOp .Or (eb :: ec :: r) pos) O hs h.2
          exact ⟨PE.imp (pe_orT p1 p2) fun σ H Q q => hK ▸ or_imp q, PT.imp (pw_or t1 (pw_of t2)).pt fun σ H Q q => tT_or q⟩
  | .not a, W, sc, X, e, O, hs, h => by
    cases e <;> first | (cases h; done) | skip
    rename_i op e pos
    cases op <;> first | (cases h; done) | skip
    obtain ⟨p1, t1⟩ := sndE a W sc X e O hs (show ckE Γ sc a e = true from h)
    have hK := O.K
    exact ⟨PE.imp (pe_notT p1) fun σ H Q q => hK ▸ not_imp q, PT.imp (pt_not t1) fun σ H Q q => tT_not q⟩
  | .ife t a b, W, sc, X, e, O, hs, h => by
    cases e <;> first | (cases h; done) | skip
    rename_i et ea eb pos
    have h : (ckE Γ sc t et && ckE Γ sc a ea && ckE Γ sc b eb) = true := h
    rw [Bool.and_eq_true, Bool.and_eq_true] at h
    obtain ⟨p1, t1⟩ := sndE t W sc X et O hs h.1.1
    obtain ⟨p2, t2⟩ := sndE a W sc X ea O hs h.1.2
    obtain ⟨p3, t3⟩ := sndE b W sc X eb O hs h.2
    exact ⟨PE.imp (pe_ifExp t1 p2 p3) fun σ H Q q => ife_imp q, PT.imp (pt_ife t1 t2 t3) fun σ H Q q => tT_ife q⟩
  | .chain o p a b c, W, sc, X, e, O, hs, h => by
    cases e <;> first | (cases h; done) | skip
    rename_i ea ops es pos
    match ops, es, h with
    | [o', p'], [eb, ec], h =>
      have h : (decide (link o = some o') && decide (link p = some p') && ckE Γ sc a ea && ckE Γ sc b eb && ckE Γ sc c ec) = true := h
      simp only [Bool.and_eq_true, decide_eq_true_eq] at h
      obtain ⟨⟨⟨⟨h1, h2⟩, h3⟩, h4⟩, h5⟩ := h
      have n := nice_of h5
      have hm : lastMarks [o', p'] [eb, ec] = false := by
        have hp : p' = .Lt ∨ p' = .LtE ∨ p' = .Eq := by
          unfold link at h2
          split at h2 <;> cases h2 <;> simp
        rcases hp with rfl | rfl | rfl <;> (cases ec <;> first | rfl | (exact absurd rfl (n.set _ _ _)))
      obtain ⟨p1, _⟩ := sndE a W sc X ea O hs h3
      obtain ⟨p2, _⟩ := sndE b W sc X eb O hs h4
      obtain ⟨p3, _⟩ := sndE c W sc X ec O hs h5
      exact ⟨PE.imp (pe_chain (link_rule O h1) (link_rule O h2) p1 p2 p3 hm) fun σ H Q q => chain_imp h1 q,
        PT.imp (pt_chain (link_rule O h1) (link_rule O h2) p1 p2 p3 hm) fun σ H Q q => chain_imp h1 (tT_bool q fun τ M v M' e => chain_bool h2 e)⟩
  | .sl2 a b c, W, sc, X, e, O, hs, h => by
    cases e <;> first | (cases h; done) | skip
    rename_i ea es pos
    cases es <;> first | (cases h; done) | skip
    rename_i lo hi st p2
    match lo, hi, st, h with
    | some eb, some ec, none, h =>
      have h : (ckE Γ sc a ea && ckE Γ sc b eb && ckE Γ sc c ec) = true := h
      rw [Bool.and_eq_true, Bool.and_eq_true] at h
      obtain ⟨p1, _⟩ := sndE a W sc X ea O hs h.1.1
      obtain ⟨p2', _⟩ := sndE b W sc X eb O hs h.1.2
      obtain ⟨p3, _⟩ := sndE c W sc X ec O hs h.2
      have hK := O.K
      have q : PE X (.Subscript ea (.Slice (some eb) (some ec) none p2) pos) (tE k Φ W (.sl2 a b c)) := PE.imp (pe_slice sl_3 p1 (po_some p2') (po_some p3)) fun σ H Q q => hK ▸ sl2_imp q
      exact ⟨q, plain_test O.K q fun _ => rfl⟩
  | .meth m o as, W, sc, X, e, O, hs, h => by
    cases e <;> first | (cases h; done) | skip
    rename_i fn es kws cp
    cases fn <;> first | (cases h; done) | skip
    rename_i eo name ap
    cases kws with
    | cons _ _ => cases h
    | nil =>
      have h : (decide (name = Str.ofString (mthName m)) && plainRecv eo && (ap.endLine == cp.line) && decide (es.length = mthArgs m) && ckE Γ sc o eo && ckEs Γ sc as es) = true := h
      rw [Bool.and_eq_true, Bool.and_eq_true, Bool.and_eq_true, Bool.and_eq_true, Bool.and_eq_true] at h
      obtain ⟨⟨⟨⟨⟨h1, h2⟩, h3⟩, h4⟩, h5⟩, h6⟩ := h
      rw [of_decide_eq_true h1]
      have q := meth_pe (sc := sc) (ap := ap) (cp := cp) O h2 h3 (of_decide_eq_true h4) (sndE o W sc X eo O hs h5).1 (sndEs as W sc X es O hs h6) (ckEs_nice h6)
      exact ⟨q, plain_test O.K q fun _ => rfl⟩
  | .app o a, W, sc, X, e, O, hs, h => by
    cases e <;> first | (cases h; done) | skip
    rename_i fn es kws cp
    cases fn <;> first | (cases h; done) | skip
    rename_i eo name ap
    match es, kws, h with
    | [e], [], h =>
      have h : (decide (name = ("append" : Str)) && plainRecv eo && (ap.endLine == cp.line) && ckE Γ sc o eo && ckE Γ sc a e) = true := h
      simp only [Bool.and_eq_true, decide_eq_true_eq] at h
      obtain ⟨⟨⟨⟨rfl, h2⟩, h3⟩, h4⟩, h5⟩ := h
      have n := nice_of h5
      have hK := O.K
      have P : PEs k X W Φ [e] (.cons a .nil) := .cons (sndE a W sc X e O hs h5).1 (fun r => n.starEach r X.env) .nil
      have q : PE X (.Call (.Attribute eo "append" ap) [e] [] cp) (tE k Φ W (.app o a)) := PE.imp (pe_bm PySem.F.plainAttrs_list PySem.F.slot_list_append PySem.F.type_list_append mt_append (sndE o W sc X eo O hs h4).1 P.pa (recv_base h2 _ _ _) (by rw [n.starEach]; rfl) (by simpa using h3) (n.starEach [] X.env) rfl) fun σ H Q q => hK ▸ app_imp q
      exact ⟨q, plain_test O.K q fun _ => rfl⟩
  | .ext o a, W, sc, X, e, O, hs, h => by
    cases e <;> first | (cases h; done) | skip
    rename_i fn es kws cp
    cases fn <;> first | (cases h; done) | skip
    rename_i eo name ap
    match es, kws, h with
    | [e], [], h =>
      have h : (decide (name = ("extend" : Str)) && plainRecv eo && (ap.endLine == cp.line) && ckE Γ sc o eo && ckE Γ sc a e) = true := h
      simp only [Bool.and_eq_true, decide_eq_true_eq] at h
      obtain ⟨⟨⟨⟨rfl, h2⟩, h3⟩, h4⟩, h5⟩ := h
      have n := nice_of h5
      have hK := O.K
      have P : PEs k X W Φ [e] (.cons a .nil) := .cons (sndE a W sc X e O hs h5).1 (fun r => n.starEach r X.env) .nil
      have q : PE X (.Call (.Attribute eo "extend" ap) [e] [] cp) (tE k Φ W (.ext o a)) := PE.imp (pe_bm PySem.F.plainAttrs_list PySem.F.slot_list_extend PySem.F.type_list_extend mt_extend (sndE o W sc X eo O hs h4).1 P.pa (recv_base h2 _ _ _) (by rw [n.starEach]; rfl) (by simpa using h3) (n.starEach [] X.env) rfl) fun σ H Q q => hK ▸ ext_imp q
      exact ⟨q, plain_test O.K q fun _ => rfl⟩
  | .pop o, W, sc, X, e, O, hs, h => by
    cases e <;> first | (cases h; done) | skip
    rename_i fn es kws cp
    cases fn <;> first | (cases h; done) | skip
    rename_i eo name ap
    match es, kws, h with
    | [], [], h =>
      have h : (decide (name = ("pop" : Str)) && plainRecv eo && (ap.endLine == cp.line) && ckE Γ sc o eo) = true := h
      simp only [Bool.and_eq_true, decide_eq_true_eq] at h
      obtain ⟨⟨⟨rfl, h2⟩, h3⟩, h4⟩ := h
      have hK := O.K
      have q : PE X (.Call (.Attribute eo "pop" ap) [] [] cp) (tE k Φ W (.pop o)) := PE.imp (pe_bm0 PySem.F.plainAttrs_list PySem.F.slot_list_pop PySem.F.type_list_pop mt_pop (sndE o W sc X eo O hs h4).1 (recv_base h2 _ _ _) (by simpa using h3)) fun σ H Q q => hK ▸ pop_imp q
      exact ⟨q, plain_test O.K q fun _ => rfl⟩
  | .comp own elt g it ifs, W, sc, X, e, O, hs, h => by
    cases e <;> first | (cases h; done) | skip
    rename_i ee gs scope pos
    cases gs with
    | nil => cases h
    | cons g1 t =>
      obtain ⟨tg, ie, is, asy⟩ := g1
      cases t with
      | cons _ _ => cases h
      | nil =>
        have h : (decide (asy = 0) && blkC Γ.N sc scope (ownP Γ.N own) && ckT Γ.N false (relS sc scope) own g tg && ckIt Γ sc it tg ie && ckE Γ (relS sc scope) elt ee && ckIfs Γ (relS sc scope) ifs is) = true := h
        simp only [Bool.and_eq_true, decide_eq_true_eq] at h
        obtain ⟨⟨⟨⟨⟨rfl, h1⟩, h2⟩, h3⟩, h4⟩, h5⟩ := h
        have q := (comp_pe (cl := false) (pos := pos) O hs h1 h2 (sndIt it W sc X tg ie O hs h3) (nice_it h3) (fun s H C cl fp => (sndE elt W0 (relS sc scope) _ ee (O.blk s H scope _ fp) (relS_eq hs C cl) h4).1) (fun s H C cl fp => sndIfs ifs (relS sc scope) _ is (O.blk s H scope _ fp) (relS_eq hs C cl) h5)).1
        exact ⟨q, plain_test O.K q fun _ => rfl⟩
theorem sndIfs : ∀ (ifs : Cs) (sc : Scope) (X : Cx) (is : List Expr), XOk k Γ Φ W0 X → X.env.scope = sc → ckIfs Γ sc ifs is = true → PTs X is (tTs k Φ ifs)
  | .nil, sc, X, is, O, hs, h => by
    cases is with
    | nil => exact ⟨fun pins s' σ H' Q I q => pts_nil.run pins s' σ H' Q I (tTs_nil q)⟩
    | cons _ _ => cases h
  | .cons c .nil, sc, X, is, O, hs, h => by
    match is, h with
    | [e], h =>
      have q := (sndE c W0 sc X e O hs h).2
      exact ⟨fun pins s' σ H' Q I w => (pts_one q).run pins s' σ H' Q I (tTs_one w)⟩
  | .cons c (.cons _ _), sc, X, is, O, hs, h => by cases is <;> cases h
theorem sndEs : ∀ (cs : Cs) (W : WX) (sc : Scope) (X : Cx) (es : List Expr), XOk k Γ Φ W X → X.env.scope = sc → ckEs Γ sc cs es = true → PEs k X W Φ es cs
  | .nil, W, sc, X, es, O, hs, h => by
    cases es with
    | nil => exact .nil
    | cons _ _ => cases h
  | .cons c cs, W, sc, X, es, O, hs, h => by
    cases es with
    | nil => cases h
    | cons e es =>
      unfold ckEs at h
      rw [Bool.and_eq_true] at h
      exact .cons (sndE c W sc X e O hs h.1).1 (fun r => (nice_of h.1).starEach r X.env) (sndEs cs W sc X es O hs h.2)
theorem sndKs : ∀ (cs : Cs) (W : WX) (sc : Scope) (X : Cx) (kws : List Keyword), XOk k Γ Φ W X → X.env.scope = sc → ckKs Γ sc cs kws = true → PEs k X W Φ (kws.map (·.value)) cs
  | .nil, W, sc, X, es, O, hs, h => by
    cases es with
    | nil => exact .nil
    | cons _ _ => cases h
  | .cons c cs, W, sc, X, es, O, hs, h => by
    cases es with
    | nil => cases h
    | cons e es =>
      unfold ckKs at h
      rw [Bool.and_eq_true] at h
      exact .cons (sndE c W sc X e.value O hs h.1).1 (fun r => (nice_of h.1).starEach r X.env) (sndKs cs W sc X es O hs h.2)
theorem sndIt : ∀ (it : It) (W : WX) (sc : Scope) (X : Cx) (tg e : Expr), XOk k Γ Φ W X → X.env.scope = sc → ckIt Γ sc it tg e = true → PI X tg e (tI k Φ W it)
  | .seq c, W, sc, X, tg, e, O, hs, h => by
    have h : ckE Γ sc c e = true := by unfold ckIt at h; exact h
    exact snd_seq O.K (sndE c W sc X e O hs h).1
  | .range as, W, sc, X, tg, e, O, hs, h => by
    cases e <;> first | (cases h; done) | skip
    rename_i fn es kws pos
    cases fn <;> first | (cases h; done) | skip
    rename_i x p
    cases kws with
    | cons _ _ => cases h
    | nil =>
      have h : (decide (x = ("range" : Str)) && glB sc x && ckEs Γ sc as es && (es.length == 1 || es.length == 2)) = true := h
      simp only [Bool.and_eq_true, decide_eq_true_eq, Bool.or_eq_true, beq_iff_eq] at h
      obtain ⟨⟨⟨rfl, g⟩, hes⟩, hl⟩ := h
      obtain ⟨g, d, n⟩ := glB_of hs g
      exact snd_range (sndEs as W sc X es O hs hes) (ckEs_nice hes) hl g (O.blt _ (by decide))
  | .enum c, W, sc, X, tg, e, O, hs, h => by
    cases tg <;> first | (cases h; done) | skip
    rename_i elts kk tpos
    cases e <;> first | (cases h; done) | skip
    rename_i fn es kws pos
    cases fn <;> first | (cases h; done) | skip
    rename_i x p
    match es, kws, h with
    | [e], [], h =>
      have h : (decide (x = ("enumerate" : Str)) && glB sc x && ckE Γ sc c e) = true := h
      simp only [Bool.and_eq_true, decide_eq_true_eq] at h
      obtain ⟨⟨rfl, g⟩, hc⟩ := h
      obtain ⟨g, d, n⟩ := glB_of hs g
      exact snd_enum O.K (sndE c W sc X e O hs hc).1 (nice_of hc) g (O.blt _ (by decide))
  | .zip a b, W, sc, X, tg, e, O, hs, h => by
    cases tg <;> first | (cases h; done) | skip
    rename_i elts kk tpos
    cases e <;> first | (cases h; done) | skip
    rename_i fn es kws pos
    cases fn <;> first | (cases h; done) | skip
    rename_i x p
    match es, kws, h with
    | [e, e2], [], h =>
      have h : (decide (x = ("zip" : Str)) && glB sc x && ckE Γ sc a e && ckE Γ sc b e2) = true := h
      simp only [Bool.and_eq_true, decide_eq_true_eq] at h
      obtain ⟨⟨⟨rfl, g⟩, h1⟩, h2⟩ := h
      obtain ⟨g, d, n⟩ := glB_of hs g
      exact snd_zip O.K (sndE a W sc X e O hs h1).1 (sndE b W sc X e2 O hs h2).1 (nice_of h1) (nice_of h2) g (O.blt _ (by decide))
end
end
end Rs

/-! second layer, part m: statements -/
namespace Rs
open PySem PySem.Spec PyProof.Rows L2
def FinS (k : Kx) (F : Addr → Prop) (ι : List Addr) (H : Hp) (W : WX) (D : Ends) (o : Option Out) : Prop := match o with
  | some (.nx τ' M') => ∀ (σ' : L2.St) (ι' : List Addr) (H' : Hp), SOk k F ι' H' σ' τ' M' → Stp k ι H ι' H' → D.nx σ' H'
  | some (.brk τ' M') => ∀ (σ' : L2.St) (ι' : List Addr) (H' : Hp), SOk k F ι' H' σ' τ' M' → Stp k ι H ι' H' → D.bk σ' H'
  | some (.cont τ' M') => ∀ (σ' : L2.St) (ι' : List Addr) (H' : Hp), SOk k F ι' H' σ' τ' M' → Stp k ι H ι' H' → D.ct σ' H'
  | some (.ret v M') => ∀ (x : V) (ι' : List Addr) (H' : Hp), CsOk k F ι' H' M' → Stp k ι H ι' H' → IsI k F ι' H' x v → D.rt x H'
  | some (.ex c τ' M') => ∀ (σ' : L2.St) (ι' : List Addr) (H' : Hp), SOk k F ι' H' σ' τ' M' → Stp k ι H ι' H' → W (.ref (k.xc c)) none σ' H'
  | none => False
def tS (k : Kx) (Φ : Oracle) (W : WX) (Wn : Nat) (s : S) : TS := fun D σ H => ∃ F ι τ M, SOk k F ι H σ τ M ∧ FinS k F ι H W D (evS Φ Wn s τ M)
def tSs (k : Kx) (Φ : Oracle) (W : WX) (Wn : Nat) (ss : Ss) : TS := fun D σ H => ∃ F ι τ M, SOk k F ι H σ τ M ∧ FinS k F ι H W D (evSs Φ Wn ss τ M)
theorem PS.imp {X : Cx} {st : Stmt} {t t' : TS} (h : PS X st t) (i : ∀ D σ H, t' D σ H → t D σ H) : PS X st t' := ⟨fun pins s σ H D I q => h.run pins s σ H D I (i D σ H q)⟩
theorem PSs.imp {X : Cx} {st : List Stmt} {t t' : TS} (h : PSs X st t) (i : ∀ D σ H, t' D σ H → t D σ H) : PSs X st t' := ⟨fun pins s σ H D I q => h.run pins s σ H D I (i D σ H q)⟩
section
variable {k : Kx} {F : Addr → Prop} {ι ι' : List Addr} {H H' : Hp} {W : WX} {D : Ends} {Φ : Oracle} {Wn : Nat} {σ : L2.St} {τ : Env} {M : Mem}
theorem FinS.back {o : Option Out} (st : Stp k ι H ι' H') (f : FinS k F ι H W D o) : FinS k F ι' H' W D o := by
  cases o with
  | none => exact f
  | some o =>
    cases o with
    | nx _ _ => exact fun a b c S s => f a b c S (st.trans s)
    | brk _ _ => exact fun a b c S s => f a b c S (st.trans s)
    | cont _ _ => exact fun a b c S s => f a b c S (st.trans s)
    | ret _ _ => exact fun a b c S s => f a b c S (st.trans s)
    | ex _ _ _ => exact fun a b c S s => f a b c S (st.trans s)
theorem FinS.out {r : R I} {g : I → Mem → Option Out} {Q : V → Hp → Prop} (f : FinS k F ι H W D (r.out τ g))
    (i : ∀ v M1 x ι1 H1, SOk k F ι1 H1 σ τ M1 → Stp k ι H ι1 H1 → IsI k F ι1 H1 x v → FinS k F ι1 H1 W D (g v M1) → Q x H1) : Fin k F ι H σ τ W r Q := by
  cases r with
  | ok v M1 => exact fun x ι1 H1 S s q => i v M1 x ι1 H1 S s q (FinS.back s f)
  | ex c M1 => exact fun ι1 H1 S s => f σ ι1 H1 S s
  | no => exact f
theorem FinS.outT {r : R I} {g : I → Mem → Option Out} {Q : Bool → Hp → Prop} (f : FinS k F ι H W D (r.out τ g))
    (i : ∀ v M1, r = .ok v M1 → ∃ b, truth (sh M1 v) = some b ∧ ∀ ι1 H1, SOk k F ι1 H1 σ τ M1 → Stp k ι H ι1 H1 → FinS k F ι1 H1 W D (g v M1) → Q b H1) : FinT k F ι H σ τ W r Q := by
  cases r with
  | ok v M1 =>
    obtain ⟨b, e, i⟩ := i v M1 rfl
    exact ⟨b, e, fun ι1 H1 S s => i ι1 H1 S s (FinS.back s f)⟩
  | ex c M1 => exact fun ι1 H1 S s => f σ ι1 H1 S s
  | no => exact f
theorem FinS.outI {r : R Src} {g : Src → Mem → Option Out} {Q : L2.It → Hp → Prop} (f : FinS k F ι H W D (r.out τ g))
    (i : ∀ s M1 J P ι1 H1, SOk k F ι1 H1 σ τ M1 → Stp k ι H ι1 H1 → Wk k J P s.nth → P F ι1 H1 → FinS k F ι1 H1 W D (g s M1) → Q J H1) : FinI k F ι H σ τ W r Q := by
  cases r with
  | ok v M1 => exact fun J P ι1 H1 S s w p => i v M1 J P ι1 H1 S s w p (FinS.back s f)
  | ex c M1 => exact fun ι1 H1 S s => f σ ι1 H1 S s
  | no => exact f
theorem asg_imp {g : Tg} {e : C} (h : tS k Φ W Wn (.asg g e) D σ H) : tAsg (tE k Φ W e) (gTg k.K g) D σ H := by
  obtain ⟨F, ι, τ, M, S, f⟩ := h
  unfold evS at f
  refine ⟨F, ι, τ, M, S, f.out fun v M1 x ι1 H1 S1 s1 i1 f1 => ?_⟩
  cases ea : asgT g v τ with
  | none => rw [ea] at f1; exact f1.elim
  | some τ2 => rw [ea] at f1; exact asgT_ok g S1 ea i1 fun σ' S' _ _ => f1 σ' ι1 H1 S' .refl
theorem ex_imp {c : C} (h : tS k Φ W Wn (.ex c) D σ H) : tDrop (tE k Φ W c) D σ H := by
  obtain ⟨F, ι, τ, M, S, f⟩ := h
  unfold evS at f
  exact ⟨F, ι, τ, M, S, f.out fun v M1 x ι1 H1 S1 s1 i1 f1 => f1 σ ι1 H1 S1 .refl⟩
theorem ret_imp {c : C} (h : tS k Φ W Wn (.ret c) D σ H) : tRet (tE k Φ W c) D σ H := by
  obtain ⟨F, ι, τ, M, S, f⟩ := h
  unfold evS at f
  exact ⟨F, ι, τ, M, S, f.out fun v M1 x ι1 H1 S1 s1 i1 f1 => f1 x ι1 H1 S1.cs .refl i1⟩
theorem aug_imp {i : Nat} {o : Op} {c : C} {g : Int → Int → Int} (hg : (o = .add ∧ g = fun x y => x + y) ∨ (o = .sub ∧ g = fun x y => x - y)) (h : tS k Φ W Wn (.aug i o c) D σ H) : tAug i (tE k Φ W c) (ipI g) D σ H := by
  obtain ⟨F, ι, τ, M, S, f⟩ := h
  unfold evS at f
  split at f
  · rename_i x e
    obtain ⟨w, e1, h1⟩ := S.sl i _ e
    cases h1
    have hi : i < τ.length := (List.getElem?_eq_some_iff.mp e).1
    refine ⟨.int x, e1, F, ι, τ, M, S, f.out fun v M1 y ι1 H1 S1 s1 i1 f1 => ?_⟩
    split at f1
    · cases i1
      rcases hg with ⟨rfl, rfl⟩ | ⟨rfl, rfl⟩
      · exact ⟨x, _, rfl, rfl, f1 _ ι1 H1 (S1.put hi (.int _)) .refl⟩
      · exact ⟨x, _, rfl, rfl, f1 _ ι1 H1 (S1.put hi (.int _)) .refl⟩
    · exact f1.elim
  · exact f.elim
/-! ### cells written -/
def rSet2 : TSet := fun o i v H Q => rSetL o i v H Q ∨ rSetD o i v H Q
theorem set_two {X : Cx} (hu : X.A.units + 1 < cLine) : PSet X rSet2 := by
  intro pins s σ H o i v ov iv u Q I ro ri rv h
  rcases h with h | h
  · exact set_list pins s σ H o i v ov iv u Q I ro ri rv h
  · exact set_dict hu pins s σ H o i v ov iv u Q I ro ri rv h
theorem keysV {κ : Type} [DecidableEq κ] : ∀ (kvs : List (κ × V)) (xs : List I) (j : κ) (v : V) (d : I), IsI k F ι H v d → IsIs k F ι H (kvs.map (·.2)) xs →
    (kvs.map fun kv => if kv.1 = j then (kv.1, v) else kv).map (·.1) = kvs.map (·.1) ∧ IsIs k F ι H ((kvs.map fun kv => if kv.1 = j then (kv.1, v) else kv).map (·.2)) (putV (kvs.map (·.1)) xs j d)
  | [], xs, j, v, d, hv, h => by
    cases h
    exact ⟨rfl, .nil⟩
  | (k0, v0) :: kvs, xs, j, v, d, hv, h => by
    cases h with
    | cons h t =>
      rename_i x xs
      have ih := keysV kvs xs j v d hv t
      by_cases hk : k0 = j
      · refine ⟨?_, ?_⟩
        · rw [List.map_cons, List.map_cons, List.map_cons, ih.1]
          simp [hk]
        · show IsIs k F ι H ((if k0 = j then (k0, v) else (k0, v0)).2 :: _) ((if k0 = j then d else x) :: _)
          rw [if_pos hk, if_pos hk]
          exact .cons hv ih.2
      · refine ⟨?_, ?_⟩
        · rw [List.map_cons, List.map_cons, List.map_cons, ih.1]
          simp [hk]
        · show IsIs k F ι H ((if k0 = j then (k0, v) else (k0, v0)).2 :: _) ((if k0 = j then d else x) :: _)
          rw [if_neg hk, if_neg hk]
          exact .cons h ih.2
theorem keysK {κ : Type} [DecidableEq κ] (kvs : List (κ × V)) (xs : List I) (j : κ) (v : V) (d : I) (hv : IsI k F ι H v d) (h : IsIs k F ι H (kvs.map (·.2)) xs) :
    (L2.putK kvs j v).map (·.1) = (Rs.putK (kvs.map (·.1)) xs j d).1 ∧ IsIs k F ι H ((L2.putK kvs j v).map (·.2)) (Rs.putK (kvs.map (·.1)) xs j d).2 := by
  unfold L2.putK Rs.putK
  rw [List.any_map]
  show (_ ∧ _)
  by_cases hk : (kvs.any fun kv => decide (kv.1 = j)) = true
  · rw [if_pos hk]
    have e : (kvs.any ((fun k => decide (k = j)) ∘ fun x => x.fst)) = true := hk
    rw [if_pos e]
    exact keysV kvs xs j v d hv h
  · rw [if_neg hk]
    have e : ¬ (kvs.any ((fun k => decide (k = j)) ∘ fun x => x.fst)) = true := hk
    rw [if_neg e]
    refine ⟨by rw [List.map_append]; rfl, ?_⟩
    rw [List.map_append]
    exact h.append (.cons hv .nil)
theorem seti_imp {o ix e : C} (h : tS k Φ W Wn (.seti o ix e) D σ H) : tAsg (tE k Φ W e) (gSub (tE k Φ W o) (tE k Φ W ix) rSet2) D σ H := by
  obtain ⟨F, ι, τ, M, S, f⟩ := h
  unfold evS at f
  refine ⟨F, ι, τ, M, S, f.out fun d M1 y ι1 H1 S1 s1 iy f1 => ⟨F, ι1, τ, M1, S1, f1.out fun v M2 x ι2 H2 S2 s2 ix' f2 => ⟨F, ι2, τ, M2, S2, f2.out fun kk M3 z ι3 H3 S3 s3 iz f3 => ?_⟩⟩⟩
  split at f3
  · rename_i n
    have ix3 := ix'.go s3
    have iy3 := (iy.go s2).go s3
    cases ix3 with
    | obj ea =>
      rename_i p
      split at f3
      · rename_i c em
        have hc := S3.cs.ce n c p em ea
        cases es : setC c kk d with
        | none => rw [es] at f3; exact f3.elim
        | some c' =>
          rw [es] at f3
          -- one write
          have fin : ∀ {o o' : HO}, H3 p = some o → Wr o → (∀ st : Stp k ι3 H3 ι3 (upd H3 p o'), CellOk k F ι3 (upd H3 p o') p c') → D.nx σ (upd H3 p o') := fun {o o'} hp ho hh => by
            have st : Stp k ι3 H3 ι3 (upd H3 p o') := .put hp ho (List.mem_iff_getElem?.mpr ⟨n, ea⟩)
            exact f3 σ ι3 _ (S3.next st (S3.cs.put em ea hp ho (hh st))) st
          cases c with
          | lst xs =>
            obtain ⟨vs, hp, hx⟩ := hc
            cases kk <;> first | (cases es; done) | skip
            cases iz
            obtain ⟨ys, ep, rfl⟩ := map_some (show (putAt xs _ d).map Cell.lst = some c' from es)
            obtain ⟨j, ej, rfl⟩ := map_some (show (ixN xs.length _).map (fun j => xs.set j d) = some ys from ep)
            exact .inl ⟨p, vs, _, j, rfl, rfl, hp, by rw [hx.length]; exact ej, fin hp trivial fun st => ⟨_, upd_same, (hx.set j iy3).go st⟩⟩
          | dic ks xs =>
            obtain ⟨kvs, hp, hk, hx⟩ := hc
            subst hk
            have es : (match keyI kk with
              | some k => if (kvs.map (·.1)).length < sizeLine then some (Cell.dic (Rs.putK (kvs.map (·.1)) xs k d).1 (Rs.putK (kvs.map (·.1)) xs k d).2) else none
              | none => none) = some c' := by
              cases kk <;> exact es
            split at es
            · rename_i j ej
              obtain ⟨hl, es⟩ := if_some es
              cases es
              rw [List.length_map] at hl
              obtain ⟨q1, q2⟩ := keysK kvs xs j y d iy3 hx
              have ez := keyI_of iz ej
              subst ez
              exact .inr ⟨p, _, rfl, .k hp hl, fin hp trivial fun st => ⟨_, upd_same, q1, q2.go st⟩⟩
            · cases es
          | dit ks xs =>
            obtain ⟨kvs, hp, hk, hx⟩ := hc
            subst hk
            cases kk <;> first | (cases es; done) | skip
            rename_i bs
            have es : (match keysI bs with
              | some k => if (kvs.map (·.1)).length < sizeLine then some (Cell.dit (Rs.putK (kvs.map (·.1)) xs k d).1 (Rs.putK (kvs.map (·.1)) xs k d).2) else none
              | none => none) = some c' := es
            split at es
            · rename_i j ej
              obtain ⟨hl, es⟩ := if_some es
              cases es
              rw [List.length_map] at hl
              obtain ⟨q1, q2⟩ := keysK kvs xs j y d iy3 hx
              cases iz with
              | tup hb tb =>
                rw [keysI_of tb ej] at hb
                exact .inr ⟨p, _, rfl, .t hp hb hl, fin hp trivial fun st => ⟨_, upd_same, q1, q2.go st⟩⟩
            · cases es
          | ins _ _ => cases es
      · exact f3.elim
  · exact f3.elim
/-! ### flow -/
theorem seq_imp {s : S} {ss : Ss} (h : tSs k Φ W Wn (.cons s ss) D σ H) : tSeq (tS k Φ W Wn s) (tSs k Φ W Wn ss) D σ H := by
  obtain ⟨F, ι, τ, M, S, f⟩ := h
  unfold evSs at f
  refine ⟨F, ι, τ, M, S, ?_⟩
  cases e : evS Φ Wn s τ M with
  | none => rw [e] at f; exact f
  | some o =>
    rw [e] at f
    cases o with
    | nx τ1 M1 => exact fun σ' ι' H' S' s' => ⟨F, ι', τ1, M1, S', FinS.back s' f⟩
    | brk _ _ => exact f
    | cont _ _ => exact f
    | ret _ _ => exact f
    | ex _ _ _ => exact f
theorem if_imp {t : C} {a b : Ss} (h : tS k Φ W Wn (.cond t a b) D σ H) : tIfS (tT k Φ W t) (tSs k Φ W Wn a) (tSs k Φ W Wn b) D σ H := by
  obtain ⟨F, ι, τ, M, S, f⟩ := h
  unfold evS at f
  refine ⟨F, ι, τ, M, S, f.outT fun v M1 er => ?_⟩
  rw [er] at f
  have f : FinS k F ι H W D (match truth (sh M1 v) with
    | some true => evSs Φ Wn a τ M1
    | some false => evSs Φ Wn b τ M1
    | none => none) := f
  cases e : truth (sh M1 v) with
  | none => rw [e] at f; exact f.elim
  | some c =>
    refine ⟨c, rfl, fun ι1 H1 S1 s1 f1 => ?_⟩
    cases c with
    | true => exact iteT ⟨F, ι1, τ, M1, S1, f1⟩
    | false => exact iteF ⟨F, ι1, τ, M1, S1, f1⟩
theorem loop_imp {t : C} {b : Ss} (h : tS k Φ W Wn (.loop t b) D σ H) : tWhile (tT k Φ W t) (tSs k Φ W Wn b) D σ H := by
  obtain ⟨F, ι, τ, M, S, f⟩ := h
  let Wm : Nat → L2.St → Hp → Prop := fun m σ H => ∃ F ι τ M, SOk k F ι H σ τ M ∧ FinS k F ι H W D (loopW (evE Φ t) (evSs Φ Wn b) m τ M)
  refine ⟨Wm, ⟨Wn, F, ι, τ, M, S, f⟩, fun m σ H hW => ?_⟩
  obtain ⟨F, ι, τ, M, S, f⟩ := hW
  cases m with
  | zero => exact f.elim
  | succ m =>
    unfold loopW at f
    refine ⟨F, ι, τ, M, S, f.outT fun v M1 er => ?_⟩
    rw [er] at f
    have f : FinS k F ι H W D (match truth (sh M1 v) with
      | some true => match evSs Φ Wn b τ M1 with
        | some (.nx τ2 M2) => loopW (evE Φ t) (evSs Φ Wn b) m τ2 M2
        | some (.cont τ2 M2) => loopW (evE Φ t) (evSs Φ Wn b) m τ2 M2
        | some (.brk τ2 M2) => some (.nx τ2 M2)
        | r => r
      | some false => some (.nx τ M1)
      | none => none) := f
    cases e : truth (sh M1 v) with
    | none => rw [e] at f; exact f.elim
    | some c =>
      refine ⟨c, rfl, fun ι1 H1 S1 s1 f1 => ?_⟩
      cases c with
      | false => exact iteF (f1 σ ι1 H1 S1 .refl)
      | true =>
        refine iteT ⟨fun σ' H' => Wm m σ' H', fun σ' H' hN => ⟨m, Nat.lt_succ_self _, hN⟩, F, ι1, τ, M1, S1, ?_⟩
        dsimp only at f1
        cases eb : evSs Φ Wn b τ M1 with
        | none => rw [eb] at f1; exact f1.elim
        | some o =>
          rw [eb] at f1
          cases o with
          | nx τ2 M2 => exact fun σ2 ι2 H2 S2 s2 => ⟨F, ι2, τ2, M2, S2, FinS.back s2 f1⟩
          | cont τ2 M2 => exact fun σ2 ι2 H2 S2 s2 => ⟨F, ι2, τ2, M2, S2, FinS.back s2 f1⟩
          | brk τ2 M2 => exact f1
          | ret _ _ => exact f1
          | ex _ _ _ => exact f1
theorem eachL_eq (g : Tg) (b : Env → Mem → Option Out) (xs : List I) : ∀ (n i : Nat) (τ : Env) (M : Mem), n = xs.length - i → i ≤ xs.length → eachL g b (xs.drop i) τ M = eachG (Src.vals xs).nth g b (n + 1) i τ M
  | 0, i, τ, M, h, hi => by
    have e : i = xs.length := by omega
    subst e
    rw [List.drop_length]
    have hn : (Src.vals xs).nth M xs.length = some none := by
      show some xs[xs.length]? = _
      rw [List.getElem?_eq_none (Nat.le_refl _)]
    unfold eachG
    rw [hn]; rfl
  | n + 1, i, τ, M, h, hi => by
    have hlt : i < xs.length := by omega
    have ih := eachL_eq g b xs n (i + 1)
    rw [List.drop_eq_getElem_cons hlt]
    have hn : (Src.vals xs).nth M i = some (some xs[i]) := by
      show some xs[i]? = _
      rw [List.getElem?_eq_getElem hlt]
    unfold eachL
    unfold eachG
    rw [hn]
    dsimp only
    cases asgT g xs[i] τ with
    | none => rfl
    | some τ1 =>
      dsimp only
      cases b τ1 M with
      | none => rfl
      | some o =>
        cases o with
        | nx τ2 M2 => exact ih _ _ (by omega) (by omega)
        | cont τ2 M2 => exact ih _ _ (by omega) (by omega)
        | brk _ _ => rfl
        | ret _ _ => rfl
        | ex _ _ _ => rfl
theorem each_imp {g : Tg} {it : It} {b : Ss} (h : tS k Φ W Wn (.each g it b) D σ H) : tFor (tI k Φ W it) (gTg k.K g) (tSs k Φ W Wn b) D σ H := by
  obtain ⟨F, ι, τ, M, S, f⟩ := h
  unfold evS at f
  refine ⟨F, ι, τ, M, S, f.outI fun src M1 J P ι1 H1 S1 s1 wk p f1 => ?_⟩
  have f1 : ∃ w, FinS k F ι1 H1 W D (eachG src.nth g (evSs Φ Wn b) w 0 τ M1) := by
    cases src with
    | vals xs =>
      have e := eachL_eq g (evSs Φ Wn b) xs xs.length 0 τ M1 rfl (Nat.zero_le _)
      rw [List.drop_zero] at e
      exact ⟨xs.length + 1, e ▸ f1⟩
    | cell n => exact ⟨Wn, f1⟩
  obtain ⟨w, f1⟩ := f1
  clear f s1
  let Wm : Nat → Nat → L2.St → Hp → Prop := fun i m σ H => ∃ F ι τ M, SOk k F ι H σ τ M ∧ P F ι H ∧ FinS k F ι H W D (eachG src.nth g (evSs Φ Wn b) m i τ M)
  refine ⟨Wm, ⟨w, F, ι1, τ, M1, S1, p, f1⟩, fun i m σ H hW => ?_⟩
  obtain ⟨F, ι, τ, M, S, p, f⟩ := hW
  cases m with
  | zero => exact f.elim
  | succ m =>
    unfold eachG at f
    split at f
    · rename_i en
      exact .inl ⟨wk.stop F i ι H M S.cs p en, f σ ι H S .refl⟩
    · rename_i v en
      refine .inr ⟨wk.go F i ι H M v S.cs p en, fun σ' H' => Wm (i + 1) m σ' H', fun σ' H' hN => ⟨m, Nat.lt_succ_self _, hN⟩, fun x H2 hy => ?_⟩
      obtain ⟨hH, iv⟩ := wk.yld F i v ι H M x H2 S.cs p en hy
      have st2 : Stp k ι H ι H2 ∧ SOk k F ι H2 σ τ M := by
        rcases hH with rfl | ⟨T, ts, hT, rfl⟩
        · exact ⟨.refl, S⟩
        · exact ⟨.new hT, S.next (.new hT) (S.cs.new hT)⟩
      obtain ⟨st2, S2⟩ := st2
      split at f
      · rename_i τ1 ea
        refine asgT_ok g S2 ea iv fun σ2 S3 _ _ => ⟨F, ι, τ1, M, S3, ?_⟩
        have f := FinS.back st2 f
        have p2 := wk.stay _ _ _ _ _ st2 p
        cases eb : evSs Φ Wn b τ1 M with
        | none => rw [eb] at f; exact f.elim
        | some o =>
          rw [eb] at f
          cases o with
          | nx τ2 M2 => exact fun σ2 ι2 H2 S2 s2 => ⟨F, ι2, τ2, M2, S2, wk.stay _ _ _ _ _ s2 p2, FinS.back s2 f⟩
          | cont τ2 M2 => exact fun σ2 ι2 H2 S2 s2 => ⟨F, ι2, τ2, M2, S2, wk.stay _ _ _ _ _ s2 p2, FinS.back s2 f⟩
          | brk τ2 M2 => exact f
          | ret _ _ => exact f
          | ex _ _ _ => exact f
      · exact f.elim
    · exact f.elim
theorem pair_imp {i j : Nat} {as : Cs} (h : tS k Φ W Wn (.asg (.tup (.cons (.nm i) (.cons (.nm j) .nil))) (.disp true as)) D σ H) : tPar i j (tA k Φ W as) D σ H := by
  obtain ⟨F, ι, τ, M, S, f⟩ := h
  unfold evS at f
  refine ⟨F, ι, τ, M, S, ?_⟩
  unfold evE at f
  cases e : evEs Φ as τ M with
  | no => rw [e] at f; exact f
  | ex c M1 => rw [e] at f; exact fun ι1 H1 S1 s1 => f σ ι1 H1 S1 s1
  | ok vs M1 =>
    rw [e] at f
    have f : FinS k F ι H W D ((R.of (dispD true vs) M1).out τ fun v M1 => (asgT (.tup (.cons (.nm i) (.cons (.nm j) .nil))) v τ).map fun τ2 => .nx τ2 M1) := f
    intro xs ι1 H1 S1 s1 i1
    cases ed : dispD true vs with
    | none => rw [ed] at f; exact f.elim
    | some v =>
      rw [ed] at f
      replace f : FinS k F ι H W D ((asgT (.tup (.cons (.nm i) (.cons (.nm j) .nil))) v τ).map fun τ2 => .nx τ2 M1) := f
      cases ea : asgT (.tup (.cons (.nm i) (.cons (.nm j) .nil))) v τ with
      | none => rw [ea] at f; exact f.elim
      | some τ2 =>
        rw [ea] at f
        replace f : ∀ (σ' : L2.St) (ι' : List Addr) (H' : Hp), SOk k F ι' H' σ' τ2 M1 → Stp k ι H ι' H' → D.nx σ' H' := f
        have hv : v = .tup vs := by
          unfold dispD at ed
          obtain ⟨_, ed⟩ := if_some ed
          cases ed; rfl
        subst hv
        have q := asgTs_ok (R := fun σ' H' => D.nx σ' H') (.cons (.nm i) (.cons (.nm j) .nil)) S1 ea i1 fun σ' S' _ _ => f σ' ι1 H1 S' s1
        obtain ⟨v, r, rfl, v2, r2, rfl, rfl, q⟩ := q
        exact ⟨v, v2, rfl, q⟩
end
end Rs

/-! second layer, part n: statements in the text -/
namespace Rs
open PySem PySem.Spec PyProof.Rows L2
def noComp : Expr → Bool
  | .ListComp .. => false
  | .SetComp .. => false
  | .DictComp .. => false
  | _ => true
theorem swaps_no {e : Expr} (h : noComp e = true) (t : Option Expr) (l : Nat) (env : PySem.Env) : swapsWith e t l env = pure false := by
  cases e <;> first | (cases h; done) | rfl
def noSwap : Expr → Expr → Bool
  | .Tuple _ _ _, .Tuple vs _ _ => vs.all (foldedForSure 8)
  | .List _ _, .Tuple vs _ _ => vs.all (foldedForSure 8)
  | _, _ => true
theorem noSwap_ok {tg e : Expr} {env : PySem.Env} (h : noSwap tg e = true) : swappedStores [tg] e env = pure none := by
  cases tg <;> cases e <;> first
    | rfl
    | (have h : List.all _ (foldedForSure 8) = true := h
       unfold swappedStores
       dsimp only
       rw [h]
       split
       · rfl
       · split
         · rfl
         · split
           · rfl
           · rfl)
def ckPair (Γ : Ctx) (sc : Scope) : Tg → C → Expr → Expr → Bool
  | .tup (.cons (.nm i) (.cons (.nm j) .nil)), .disp true as, .Tuple [.Name x px, .Name y py] _ _, .Tuple [a, b] _ _ =>
    decide (Γ.N[i]? = some x) && decide (Γ.N[j]? = some y) && !(i == j) && locB sc x && locB sc y && (py.line == px.line) && !([a, b].all (foldedForSure 8)) && !([a, b].all (constantsAlone 8)) && !([x, y].eraseDups.length != [x, y].length) && ckEs Γ sc as [a, b]
  | _, _, _, _ => false
def ckLc (Γ : Ctx) (sc : Scope) : Tg → C → Expr → Expr → Bool
  | .nm i, .comp own elt g it ifs, .Name y py, .ListComp ee [⟨tg, ie, is, asy⟩] scope lp =>
    decide (Γ.N[i]? = some y) && locB sc y && (py.line == lp.line) && !(scope.names.any fun (n, k) => n == y && (k == .local || k == .cell)) &&
    decide (asy = 0) && blkC Γ.N sc scope (ownP Γ.N own) && ckT Γ.N false (relS sc scope) own g tg && ckIt Γ sc it tg ie && ckE Γ (relS sc scope) elt ee && ckIfs Γ (relS sc scope) ifs is
  | .nm i, .cell (.comp own elt g it ifs), .Name y py, .ListComp ee [⟨tg, ie, is, asy⟩] scope lp =>
    decide (Γ.N[i]? = some y) && locB sc y && (py.line == lp.line) && !(scope.names.any fun (n, k) => n == y && (k == .local || k == .cell)) &&
    decide (asy = 0) && blkC Γ.N sc scope (ownP Γ.N own) && ckT Γ.N false (relS sc scope) own g tg && ckIt Γ sc it tg ie && ckE Γ (relS sc scope) elt ee && ckIfs Γ (relS sc scope) ifs is
  | _, _, _, _ => false
def allI (Γ : Ctx) : List Nat := List.range Γ.N.length
mutual
def ckS (Γ : Ctx) (sc : Scope) : S → Stmt → Bool
  | .asg g e, st => match st with
    | .Assign [tg] ex _ => (ckT Γ.N true sc (allI Γ) g tg && ckE Γ sc e ex && noComp ex && noSwap tg ex) || ckPair Γ sc g e tg ex || ckLc Γ sc g e tg ex
    | _ => false
  | .ex c, st => match st with
    | .Expr e _ => ckE Γ sc c e && noComp e
    | _ => false
  | .aug i o c, st => match st with
    | .AugAssign (.Name x _) op e _ => decide (Γ.N[i]? = some x) && (locB sc x || decide (sc.names.lookup x = some .cell)) && (match o, op with
      | .add, .Add => true
      | .sub, .Sub => true
      | _, _ => false) && ckE Γ sc c e
    | _ => false
  | .seti o ix e, st => match st with
    | .Assign [.Subscript eo ie _] ex _ => ckE Γ sc o eo && ckE Γ sc ix ie && ckE Γ sc e ex && noComp ex
    | _ => false
  | .cond t a b, st => match st with
    | .If c p q _ => ckE Γ sc t c && ckSs Γ sc a p && ckSs Γ sc b q
    | _ => false
  | .loop t b, st => match st with
    | .While c p [] _ => ckE Γ sc t c && ckSs Γ sc b p
    | _ => false
  | .each g it b, st => match st with
    | .For tg ie p [] _ => ckT Γ.N true sc (allI Γ) g tg && ckIt Γ sc it tg ie && ckSs Γ sc b p
    | _ => false
  | .ret e, st => match st with
    | .Return (some ex) _ => ckE Γ sc e ex
    | _ => false
  | .retN, st => match st with
    | .Return none _ => true
    | _ => false
  | .pass, st => match st with
    | .Pass _ => true
    | .Expr (.Constant (.str _) _ _) _ => true
    | _ => false
  | .brk, st => match st with
    | .Break _ => true
    | _ => false
  | .cont, st => match st with
    | .Continue _ => true
    | _ => false
  | .raise _, _ => false
  | .stuck, _ => true
def ckSs (Γ : Ctx) (sc : Scope) : Ss → List Stmt → Bool
  | .nil, [] => true
  | .cons s ss, st :: r => ckS Γ sc s st && ckSs Γ sc ss r
  | _, _ => false
end
section
variable {Γ : Ctx} {Φ : Oracle} {k : Kx} {W : WX} {Wn : Nat}
variable (hΦ : ∀ f x ps vs M, Γ.fns[f]? = some (x, ps) → Φ f vs M ≠ .no → vs.length = ps.length)
include hΦ
theorem sndG {X : Cx} {sc : Scope} {g : Tg} {tg : Expr} (O : XOk k Γ Φ W X) (hs : X.env.scope = sc) (hf : ∀ x, X.fn x = true) (h : ckT Γ.N true sc (allI Γ) g tg = true) : PG X tg (gTg X.K g) := by
  refine sndT O.calm O.nd (cel := true) (sc := sc) (own := allI Γ) (fun x hx => ?_) g tg (by rw [O.N]; exact h)
  rw [Bool.true_and, Bool.or_eq_true, decide_eq_true_eq] at hx
  rcases hx with hx | hx
  · exact .inl (by rw [hs]; exact of_decide_eq_true hx)
  · exact .inr ⟨by rw [hs]; exact hx, hf x⟩
theorem sndPair {X : Cx} {sc : Scope} {g : Tg} {e : C} {tg ex : Expr} {pos : Pos} (O : XOk k Γ Φ W X) (hs : X.env.scope = sc) (h : ckPair Γ sc g e tg ex = true) : PS X (.Assign [tg] ex pos) (tS k Φ W Wn (.asg g e)) := by
  unfold ckPair at h
  split at h
  · rename_i i j as x px y py kt pt a b k2 pt2
    simp only [Bool.and_eq_true, decide_eq_true_eq, Bool.not_eq_true'] at h
    obtain ⟨⟨⟨⟨⟨⟨⟨⟨⟨h1, h2⟩, h3⟩, h4⟩, h5⟩, h6⟩, h7⟩, h8⟩, h9⟩, h10⟩ := h
    have hx : X.env.scope.names.lookup x = some .local := by rw [hs]; exact of_decide_eq_true h4
    have hy : X.env.scope.names.lookup y = some .local := by rw [hs]; exact of_decide_eq_true h5
    refine ⟨fun pins s σ H D I q => ?_⟩
    have hk : X.env.blockKind = .function := by
      unfold PySem.Env.blockKind
      rw [I.ok.kind]; rfl
    have st : ∀ e ∈ [a, b], ∀ v p, e ≠ .Starred v p := fun e he => (ckEs_nice h10 e he).star
    have hw : swappedStores [.Tuple [.Name x px, .Name y py] kt pt] (.Tuple [a, b] k2 pt2) X.env = pure (some [x, y]) := by
      have h6 : py.line = px.line := by simpa using h6
      unfold swappedStores
      dsimp only
      split
      · rename_i z
        rw [hk] at z
        cases z
      · split
        · rename_i z
          obtain ⟨e, he, w⟩ := List.any_eq_true.mp z
          cases e <;> first | (cases w; done) | exact absurd rfl (st _ he _ _)
        · rw [h7, h8]
          have h9' : [x, y].eraseDups.length = 2 := by simpa using h9
          simp [PySem.Env.kindOf, hx, hy, Expr.pos, h6, h9']
    exact (ps_par (pos := pos) O.calm O.nd (by rw [O.N]; exact h1) (by rw [O.N]; exact h2) (by simpa using h3) hx hy (sndEs hΦ as W sc X [a, b] O hs h10).pa hw).run pins s σ H D I (pair_imp q)
  · cases h
theorem sndLc {X : Cx} {sc : Scope} {g : Tg} {e : C} {tg ex : Expr} {pos : Pos} (O : XOk k Γ Φ W X) (hs : X.env.scope = sc) (h : ckLc Γ sc g e tg ex = true) : PS X (.Assign [tg] ex pos) (tS k Φ W Wn (.asg g e)) := by
  unfold ckLc at h
  split at h
  · rename_i i own elt g it ifs y py ee tg ie is asy scope lp
    simp only [Bool.and_eq_true, decide_eq_true_eq, Bool.not_eq_true'] at h
    obtain ⟨⟨⟨⟨⟨⟨⟨⟨⟨k1, k2⟩, k3⟩, k4⟩, rfl⟩, h1⟩, h2⟩, h3⟩, h4⟩, h5⟩ := h
    exact PS.imp ((comp_pe (cl := false) O hs h1 h2 (sndIt hΦ it W sc X tg ie O hs h3) (nice_it h3) (fun s H C cl fp => (sndE hΦ elt W0 (relS sc scope) _ ee (O.blk s H scope _ fp) (relS_eq hs C cl) h4).1) (fun s H C cl fp => sndIfs hΦ ifs (relS sc scope) _ is (O.blk s H scope _ fp) (relS_eq hs C cl) h5)).2
      (by rw [O.N]; exact k1) (by rw [hs]; exact of_decide_eq_true k2) k3 k4) fun D σ H q => asg_imp q
  · rename_i i own elt g it ifs y py ee tg ie is asy scope lp
    simp only [Bool.and_eq_true, decide_eq_true_eq, Bool.not_eq_true'] at h
    obtain ⟨⟨⟨⟨⟨⟨⟨⟨⟨k1, k2⟩, k3⟩, k4⟩, rfl⟩, h1⟩, h2⟩, h3⟩, h4⟩, h5⟩ := h
    exact PS.imp ((comp_pe (cl := true) O hs h1 h2 (sndIt hΦ it W sc X tg ie O hs h3) (nice_it h3) (fun s H C cl fp => (sndE hΦ elt W0 (relS sc scope) _ ee (O.blk s H scope _ fp) (relS_eq hs C cl) h4).1) (fun s H C cl fp => sndIfs hΦ ifs (relS sc scope) _ is (O.blk s H scope _ fp) (relS_eq hs C cl) h5)).2
      (by rw [O.N]; exact k1) (by rw [hs]; exact of_decide_eq_true k2) k3 k4) fun D σ H q => asg_imp q
  · cases h
mutual
theorem sndS : ∀ (s : S) (sc : Scope) (X : Cx) (st : Stmt), XOk k Γ Φ W X → X.env.scope = sc → (∀ x, X.fn x = true) → ckS Γ sc s st = true → PS X st (tS k Φ W Wn s)
  | .asg g e, sc, X, st, O, hs, hf, h => by
    unfold ckS at h
    split at h <;> first | (cases h; done) | skip
    rename_i tg ex pos
    simp only [Bool.or_eq_true, Bool.and_eq_true] at h
    have hK := O.K
    rcases h with (⟨⟨⟨h1, h2⟩, h3⟩, h4⟩ | h) | h
    · refine PS.imp (ps_asg (sndE hΦ e W sc X ex O hs h2).1 (sndG hΦ O hs hf h1) (swaps_no h3 _ _ _) (noSwap_ok h4) ?_) fun D σ H q => hK ▸ asg_imp q
      exact assignEach_cons h1
    · exact sndPair hΦ O hs h
    · exact sndLc hΦ O hs h
  | .ex c, sc, X, st, O, hs, hf, h => by
    unfold ckS at h
    split at h <;> first | (cases h; done) | skip
    rw [Bool.and_eq_true] at h
    exact PS.imp (ps_expr (sndE hΦ c W sc X _ O hs h.1).1 (swaps_no h.2 _ _ _)) fun D σ H q => ex_imp q
  | .aug i o c, sc, X, st, O, hs, hf, h => by
    unfold ckS at h
    split at h <;> first | (cases h; done) | skip
    rename_i x p op e pos
    simp only [Bool.and_eq_true, Bool.or_eq_true, decide_eq_true_eq] at h
    obtain ⟨⟨⟨h1, h2⟩, h3⟩, h4⟩ := h
    have hx : L2.Loc X.env.scope x := by
      rcases h2 with k | k
      · exact .inl (by rw [hs]; exact of_decide_eq_true k)
      · exact .inr (by rw [hs]; exact k)
    have he := (sndE hΦ c W sc X e O hs h4).1
    split at h3
    · exact PS.imp (ps_aug O.nd (by rw [O.N]; exact h1) hx he ip_add (.inl (hf x))) fun D σ H q => aug_imp (.inl ⟨rfl, rfl⟩) q
    · exact PS.imp (ps_aug O.nd (by rw [O.N]; exact h1) hx he ip_sub (.inl (hf x))) fun D σ H q => aug_imp (.inr ⟨rfl, rfl⟩) q
    · cases h3
  | .seti o ix e, sc, X, st, O, hs, hf, h => by
    unfold ckS at h
    split at h <;> first | (cases h; done) | skip
    rename_i eo ie p2 ex pos
    simp only [Bool.and_eq_true] at h
    obtain ⟨⟨⟨h1, h2⟩, h3⟩, h4⟩ := h
    have n := nice_of h2
    exact PS.imp (ps_asg (sndE hΦ e W sc X ex O hs h3).1 (pg_sub (sndE hΦ o W sc X eo O hs h1).1 (sndE hΦ ix W sc X ie O hs h2).1 (set_two (by have := O.hu; omega)) (fun v => by cases ie <;> first | rfl | exact absurd rfl (n.slice _ _ _ _))) (swaps_no h4 (some (.Subscript eo ie p2)) pos.line X.env)) fun D σ H q => seti_imp q
  | .cond t a b, sc, X, st, O, hs, hf, h => by
    unfold ckS at h
    split at h <;> first | (cases h; done) | skip
    simp only [Bool.and_eq_true] at h
    exact PS.imp (ps_if (sndE hΦ t W sc X _ O hs h.1.1).2 (sndSs a sc X _ O hs hf h.1.2) (sndSs b sc X _ O hs hf h.2)) fun D σ H q => if_imp q
  | .loop t b, sc, X, st, O, hs, hf, h => by
    unfold ckS at h
    split at h <;> first | (cases h; done) | skip
    simp only [Bool.and_eq_true] at h
    exact PS.imp (ps_while O.po (sndE hΦ t W sc X _ O hs h.1).2 (sndSs b sc X _ O hs hf h.2)) fun D σ H q => loop_imp q
  | .each g it b, sc, X, st, O, hs, hf, h => by
    unfold ckS at h
    split at h <;> first | (cases h; done) | skip
    simp only [Bool.and_eq_true] at h
    obtain ⟨⟨h1, h2⟩, h3⟩ := h
    have hK := O.K
    exact PS.imp (ps_for O.po O.calm (sndIt hΦ it W sc X _ _ O hs h2) (sndG hΦ O hs hf h1) (sndSs b sc X _ O hs hf h3) ((nice_it h2).folded X.env)) fun D σ H q => hK ▸ each_imp q
  | .ret e, sc, X, st, O, hs, hf, h => by
    unfold ckS at h
    split at h <;> first | (cases h; done) | skip
    exact PS.imp (ps_ret (sndE hΦ e W sc X _ O hs h).1) fun D σ H q => ret_imp q
  | .retN, sc, X, st, O, hs, hf, h => by
    unfold ckS at h
    split at h <;> first | (cases h; done) | skip
    refine PS.imp ps_retN fun D σ H q => ?_
    obtain ⟨F, ι, τ, M, S, f⟩ := q
    exact f .non ι H S.cs .refl .non
  | .pass, sc, X, st, O, hs, hf, h => by
    have go : ∀ D σ H, tS k Φ W Wn .pass D σ H → D.nx σ H := fun D σ H q => by
      obtain ⟨F, ι, τ, M, S, f⟩ := q
      exact f σ ι H S .refl
    unfold ckS at h
    split at h <;> first | (cases h; done) | skip
    · exact PS.imp ps_pass go
    · exact PS.imp ps_doc go
  | .brk, sc, X, st, O, hs, hf, h => by
    unfold ckS at h
    split at h <;> first | (cases h; done) | skip
    refine PS.imp ps_break fun D σ H q => ?_
    obtain ⟨F, ι, τ, M, S, f⟩ := q
    exact f σ ι H S .refl
  | .cont, sc, X, st, O, hs, hf, h => by
    unfold ckS at h
    split at h <;> first | (cases h; done) | skip
    refine PS.imp ps_continue fun D σ H q => ?_
    obtain ⟨F, ι, τ, M, S, f⟩ := q
    exact f σ ι H S .refl
  | .raise c, sc, X, st, O, hs, hf, h => by cases h
  | .stuck, sc, X, st, O, hs, hf, h => ⟨fun pins s σ H D I q => by
    obtain ⟨F, ι, τ, M, S, f⟩ := q
    exact f.elim⟩
theorem sndSs : ∀ (ss : Ss) (sc : Scope) (X : Cx) (sts : List Stmt), XOk k Γ Φ W X → X.env.scope = sc → (∀ x, X.fn x = true) → ckSs Γ sc ss sts = true → PSs X sts (tSs k Φ W Wn ss)
  | .nil, sc, X, sts, O, hs, hf, h => by
    cases sts with
    | nil =>
      refine PSs.imp pss_nil fun D σ H q => ?_
      obtain ⟨F, ι, τ, M, S, f⟩ := q
      exact f σ ι H S .refl
    | cons _ _ => cases h
  | .cons s ss, sc, X, sts, O, hs, hf, h => by
    cases sts with
    | nil => cases h
    | cons st r =>
      have h : (ckS Γ sc s st && ckSs Γ sc ss r) = true := h
      rw [Bool.and_eq_true] at h
      exact PSs.imp (pss_cons (sndS s sc X st O hs hf h.1) (sndSs ss sc X r O hs hf h.2)) fun D σ H q => seq_imp q
end
end
end Rs

/-! second layer, part o: a def in cells of its own -/
namespace Rs
open PySem PySem.Spec PyProof.Rows L2
section
theorem mapM_get {α β : Type} {f : α → Option β} : ∀ {xs : List α} {ys : List β}, xs.mapM f = some ys → xs.length = ys.length ∧ ∀ (i : Nat) (x : α), xs[i]? = some x → ∃ y, ys[i]? = some y ∧ f x = some y
  | [], ys, h => by cases h; exact ⟨rfl, fun i x e => by simp at e⟩
  | x :: xs, ys, h => by
    rw [List.mapM_cons] at h
    cases e1 : f x with
    | none => rw [e1] at h; cases h
    | some y =>
      cases e2 : xs.mapM f with
      | none => rw [e1, e2] at h; cases h
      | some zs =>
        rw [e1, e2] at h
        cases h
        obtain ⟨l, g⟩ := mapM_get e2
        refine ⟨congrArg (· + 1) l, fun i w e => ?_⟩
        cases i with
        | zero => simp at e; subst e; exact ⟨y, rfl, e1⟩
        | succ i => exact g i w (by simpa using e)
theorem mapM_of {α β : Type} {f : α → Option β} : ∀ {xs : List α}, (∀ x ∈ xs, ∃ y, f x = some y) → ∃ ys, xs.mapM f = some ys
  | [], _ => ⟨[], rfl⟩
  | x :: xs, h => by
    obtain ⟨y, e1⟩ := h x List.mem_cons_self
    obtain ⟨ys, e2⟩ := mapM_of (xs := xs) fun z m => h z (List.mem_cons_of_mem _ m)
    exact ⟨y :: ys, by rw [List.mapM_cons, e1, e2]; rfl⟩
theorem mapM_id {f : I → Option I} : ∀ {xs : List I}, (∀ x ∈ xs, f x = some x) → xs.mapM f = some xs
  | [], _ => rfl
  | x :: xs, h => by
    rw [List.mapM_cons, h x List.mem_cons_self, mapM_id fun y m => h y (List.mem_cons_of_mem _ m)]; rfl
theorem flats_mem : ∀ {xs : List I}, I.flats xs = true → ∀ x ∈ xs, x.flat = true
  | x :: xs, h, y, m => by
    unfold I.flats at h
    rw [Bool.and_eq_true] at h
    rcases List.mem_cons.mp m with rfl | m
    · exact h.1
    · exact flats_mem h.2 y m
theorem frz_flat {M : Mem} : ∀ (n : Nat) {x : I}, x.flat = true → frz M n x = some x
  | 0, x, h => by
    unfold frz
    rw [if_pos h]
  | n + 1, x, h => by
    have ih := fun {x} => @frz_flat M n x
    cases x with
    | tup xs => show (xs.mapM (frz M n)).map I.tup = _; rw [mapM_id fun x m => ih (flats_mem (by unfold I.flat at h; exact h) x m)]; rfl
    | wtp xs => show (xs.mapM (frz M n)).map I.wtp = _; rw [mapM_id fun x m => ih (flats_mem (by unfold I.flat at h; exact h) x m)]; rfl
    | lst xs => show (xs.mapM (frz M n)).map I.lst = _; rw [mapM_id fun x m => ih (flats_mem (by unfold I.flat at h; exact h) x m)]; rfl
    | dic ks xs => show (xs.mapM (frz M n)).map (I.dic ks) = _; rw [mapM_id fun x m => ih (flats_mem (by unfold I.flat at h; exact h) x m)]; rfl
    | dit ks xs => show (xs.mapM (frz M n)).map (I.dit ks) = _; rw [mapM_id fun x m => ih (flats_mem (by unfold I.flat at h; exact h) x m)]; rfl
    | obj _ => cases h
    | _ => rfl
theorem mask_len : ∀ (ns : List Nat) (M : Mem), (mask ns M).length = M.length
  | [], _ => rfl
  | n :: ns, M => by
    show ((mask ns M).set n _).length = _
    rw [List.length_set, mask_len]
theorem mask_get : ∀ (ns : List Nat) (M : Mem) (n : Nat) (c : Cell), (mask ns M)[n]? = some c → (∀ i fs, c ≠ .ins i fs) → n ∉ ns ∧ M[n]? = some c
  | [], M, n, c, h, _ => ⟨by simp, h⟩
  | m :: ns, M, n, c, h, hc => by
    have h : ((mask ns M).set m (.ins 0 []))[n]? = some c := h
    by_cases e : m = n
    · subst e
      rw [List.getElem?_set_self'] at h
      cases e2 : (mask ns M)[m]? with
      | none => rw [e2] at h; cases h
      | some w => rw [e2] at h; cases h; exact absurd rfl (hc _ _)
    · rw [List.getElem?_set_ne e] at h
      obtain ⟨a, b⟩ := mask_get ns M n c h hc
      exact ⟨fun z => (List.mem_cons.mp z).elim (fun z => e z.symm) a, b⟩
theorem put_len : ∀ (ns : List Nat) (cs : List Cell) (M : Mem), (putCells ns cs M).length = M.length
  | [], _, _ => rfl
  | _ :: _, [], _ => rfl
  | n :: ns, c :: cs, M => by
    show (putCells ns cs (M.set n c)).length = _
    rw [put_len, List.length_set]
theorem put_get : ∀ (ns : List Nat) (cs : List Cell) (M : Mem) (n : Nat) (c : Cell), ns.Nodup → cs.length = ns.length → (putCells ns cs M)[n]? = some c → (n ∉ ns ∧ M[n]? = some c) ∨ ∃ j : Nat, ns[j]? = some n ∧ cs[j]? = some c
  | [], cs, M, n, c, _, _, h => .inl ⟨by simp, by cases cs <;> exact h⟩
  | m :: ns, [], M, n, c, _, l, h => by cases l
  | m :: ns, d :: cs, M, n, c, nd, l, h => by
    rw [List.nodup_cons] at nd
    rcases put_get ns cs (M.set m d) n c nd.2 (by simpa using l) h with ⟨h1, h2⟩ | ⟨j, h1, h2⟩
    · by_cases e : m = n
      · subst e
        rw [List.getElem?_set_self'] at h2
        cases e2 : M[m]? with
        | none => rw [e2] at h2; cases h2
        | some w => rw [e2] at h2; cases h2; exact .inr ⟨0, rfl, rfl⟩
      · rw [List.getElem?_set_ne e] at h2
        exact .inl ⟨fun z => (List.mem_cons.mp z).elim (fun z => e z.symm) h1, h2⟩
    · exact .inr ⟨j + 1, h1, h2⟩
end
section
variable {k : Kx} {F F' : Addr → Prop} {ι ι0 ι1 ι' : List Addr} {H H' : Hp} {M M1 : Mem}
theorem CellOk.toF {F' : Addr → Prop} {ι' : List Addr} (hF : ∀ a, H a ≠ none → Fr F ι a → Fr F' ι' a) (hS : ∀ a o xs, H a = some (.frz o (.lst xs)) → a ∉ ι → a ∉ ι') {a : Addr} {c : Cell} (h : CellOk k F ι H a c) (f : c.flat = true) : CellOk k F' ι' H a c := by
  cases c with
  | lst xs => obtain ⟨vs, h1, h2⟩ := h; exact ⟨vs, h1, h2.to hF hS f⟩
  | dic ks xs => obtain ⟨vs, h1, hk, h2⟩ := h; exact ⟨vs, h1, hk, h2.to hF hS f⟩
  | dit ks xs => obtain ⟨vs, h1, hk, h2⟩ := h; exact ⟨vs, h1, hk, h2.to hF hS f⟩
  | ins c fs => cases f
/-- the entry: cells handed over -/
structure Ent (k : Kx) (F : Addr → Prop) (ι : List Addr) (H : Hp) (M : Mem) (ns : List Nat) (cs : List Cell) (lent : Bool) (ι0 : List Addr) : Prop where
  at_ : ∀ (j n : Nat), ns[j]? = some n → ∃ a, ι0[j]? = some a ∧ ι[n]? = some a
  len : ι0.length = ns.length
  nd : ns.Nodup
  sub : ∀ a ∈ ι0, a ∈ ι
def FF (F : Addr → Prop) (ι : List Addr) (lent : Bool) : Addr → Prop := fun a => lent = false ∧ (F a ∨ a ∈ ι)
theorem ent_of (C : CsOk k F ι H M) {ns : List Nat} {cs : List Cell} {lent : Bool} (nd : ns.Nodup) (hm : ns.mapM (M[·]?) = some cs) : ∃ ι0, Ent k F ι H M ns cs lent ι0 := by
  obtain ⟨l, g⟩ := mapM_get hm
  obtain ⟨ι0, e⟩ := mapM_of (f := fun n => ι[n]?) (xs := ns) fun n hn => by
    obtain ⟨j, hj⟩ := List.mem_iff_getElem?.mp hn
    obtain ⟨c, _, h2⟩ := g j n hj
    obtain ⟨a, h3, _⟩ := C.at h2
    exact ⟨a, h3⟩
  obtain ⟨l2, g2⟩ := mapM_get e
  refine ⟨ι0, fun j n hj => ?_, l2.symm, nd, fun a ha => ?_⟩
  · obtain ⟨a, h1, h2⟩ := g2 j n hj
    exact ⟨a, h1, h2⟩
  · obtain ⟨j, hj⟩ := List.mem_iff_getElem?.mp ha
    have hjl : j < ns.length := by rw [l2]; exact (List.getElem?_eq_some_iff.mp hj).1
    obtain ⟨b, h1, h2⟩ := g2 j _ (List.getElem?_eq_getElem hjl)
    rw [hj] at h1
    cases h1
    exact List.mem_iff_getElem?.mpr ⟨_, h2⟩
theorem Ent.not {ns : List Nat} {cs : List Cell} {lent : Bool} (E : Ent k F ι H M ns cs lent ι0) (C : CsOk k F ι H M) {n : Nat} {a : Addr} (hn : n ∉ ns) (ha : ι[n]? = some a) : a ∉ ι0 := fun m => by
  obtain ⟨j, hj⟩ := List.mem_iff_getElem?.mp m
  have hjl : j < ns.length := by rw [← E.len]; exact (List.getElem?_eq_some_iff.mp hj).1
  obtain ⟨b, h1, h2⟩ := E.at_ j _ (List.getElem?_eq_getElem hjl)
  rw [hj] at h1
  cases h1
  exact hn (by rw [nodup_get C.nd ha h2]; exact List.getElem_mem _)
theorem Ent.nd0 {ns : List Nat} {cs : List Cell} {lent : Bool} (E : Ent k F ι H M ns cs lent ι0) (C : CsOk k F ι H M) : ι0.Nodup := by
  rw [List.nodup_iff_pairwise_ne, List.pairwise_iff_getElem]
  intro i j hi hj hij e
  obtain ⟨a, h1, h2⟩ := E.at_ i _ (List.getElem?_eq_getElem (by rw [← E.len]; exact hi))
  obtain ⟨b, h3, h4⟩ := E.at_ j _ (List.getElem?_eq_getElem (by rw [← E.len]; exact hj))
  rw [List.getElem?_eq_getElem hi] at h1
  rw [List.getElem?_eq_getElem hj] at h3
  cases h1; cases h3
  rw [e] at h2
  have e2 := nodup_get C.nd h2 h4
  have := nodup_get E.nd (List.getElem?_eq_getElem (by rw [← E.len]; exact hi)) (by rw [e2]; exact List.getElem?_eq_getElem (by rw [← E.len]; exact hj))
  omega
theorem Ent.fr {ns : List Nat} {cs : List Cell} {lent : Bool} (E : Ent k F ι H M ns cs lent ι0) : ∀ a, H a ≠ none → Fr F ι a → Fr (FF F ι lent) ι0 a := fun a _ r => ⟨fun z => r.1 (E.sub a z), fun z => z.2.elim r.2 r.1⟩
theorem Ent.cs {ns : List Nat} {cs : List Cell} {lent : Bool} (E : Ent k F ι H M ns cs lent ι0) (C : CsOk k F ι H M) (hm : ns.mapM (M[·]?) = some cs) (hf : cs.all Cell.flat = true) : CsOk k (FF F ι lent) ι0 H cs := by
  obtain ⟨l, g⟩ := mapM_get hm
  refine ⟨by rw [E.len, l], E.nd0 C, fun a z => z.2.elim (C.fd a) fun z => C.dom z, fun j c a h1 h2 => ?_⟩
  have hjl : j < ns.length := by rw [← E.len]; exact (List.getElem?_eq_some_iff.mp h2).1
  have ej := List.getElem?_eq_getElem hjl
  obtain ⟨d, h3, h4⟩ := g j _ ej
  obtain ⟨b, h5, h6⟩ := E.at_ j _ ej
  rw [h1] at h3; cases h3
  rw [h2] at h5; cases h5
  exact (C.ce _ _ _ h4 h6).toF E.fr (fun a o xs _ n z => n (E.sub a z)) (List.all_eq_true.mp hf c (List.mem_iff_getElem?.mpr ⟨j, h1⟩))
/-- arguments, handed over -/
theorem Ent.args {ns : List Nat} {cs : List Cell} {lent : Bool} (E : Ent k F ι H M ns cs lent ι0) (C : CsOk k F ι H M) {mt : List Nat} {args : List I} (hns : (mt.mapM fun i => (args[i]?).bind objI) = some ns)
    (hl : lent = false → ∀ i v, mt.contains i = false → args[i]? = some v → v.flat = true) :
    ∀ (i : Nat) (vs : List I) (xs : List V) (us : List I), (∀ j, vs[j]? = args[i + j]?) → inArgs mt (mask ns M) i vs = some us → IsIs k F ι H xs vs → IsIs k (FF F ι lent) ι0 H xs us
  | _, [], xs, us, _, e, h => by cases e; cases h; exact .nil
  | i, v :: vs, xs, us, ha, e, h => by
    cases h with
    | cons h t =>
      unfold inArgs at e
      obtain ⟨u, e1, e⟩ := Option.bind_eq_some_iff.mp e
      obtain ⟨us', e2, rfl⟩ := map_some e
      have hv : args[i]? = some v := (ha 0).symm
      refine .cons ?_ (Ent.args E C hns hl (i + 1) vs _ us' (fun j => by rw [show i + 1 + j = i + (j + 1) by omega, ← ha]; rfl) e2 t)
      by_cases hc : mt.contains i = true
      · rw [if_pos hc] at e1
        obtain ⟨j, ej, rfl⟩ := map_some e1
        have ej' : mt[j]? = some i := by
          obtain ⟨hj, h1, _⟩ := List.findIdx?_eq_some_iff_getElem.mp ej
          rw [List.getElem?_eq_getElem hj]
          exact congrArg some (by simpa using h1)
        obtain ⟨l, g⟩ := mapM_get hns
        obtain ⟨n, h1, h2⟩ := g j i ej'
        rw [hv] at h2
        have h2 : objI v = some n := h2
        cases v <;> cases h2
        obtain ⟨a, h3, h4⟩ := E.at_ j _ h1
        cases h with
        | obj h =>
          rw [h] at h4
          cases h4
          exact .obj h3
      · rw [if_neg hc] at e1
        cases hlent : lent with
        | false =>
          subst hlent
          have f := hl rfl i v (by simpa using hc) hv
          rw [frz_flat _ f] at e1
          cases e1
          exact h.to E.fr (fun a o xs _ n z => n (E.sub a z)) f
        | true =>
          subst hlent
          refine frz_ok (M := mask ns M) E.fr (fun a o xs _ n z => n (E.sub a z)) (fun n c a h1 h2 h3 => ?_) dpt v u _ e1 h
          obtain ⟨q1, q2⟩ := mask_get ns M n c h1 h2
          exact ⟨C.ce n c a q2 h3, E.not C q1 h3, fun z => nomatch z.1⟩
/-- behind the callee -/
theorem Ent.stp {ns : List Nat} {cs : List Cell} {lent : Bool} (E : Ent k F ι H M ns cs lent ι0) (s : Stp k ι0 H ι1 H') : Stp k ι H ι H' :=
  ⟨List.prefix_refl _, fun a o h n => s.kp a o h fun z => n (E.sub a z), s.tp, s.tt, s.ow, s.dm, fun a h => .inl h⟩
structure Back (k : Kx) (F : Addr → Prop) (ι : List Addr) (H' : Hp) (F' : Addr → Prop) (ι1 : List Addr) (M1 : Mem) (m : Nat) (lent : Bool) : Prop where
  /-- what is frozen is held by the caller -/
  ok : ∀ (x y : I) (v : V), frz (mask (List.range m) M1) dpt x = some y → (lent = true → y.solid = true) → IsI k F' ι1 H' v x → IsI k F ι H' v y
  oks : ∀ (xs ys : List I) (vs : List V), xs.mapM (frz (mask (List.range m) M1) dpt) = some ys → (lent = true → I.solids ys = true) → IsIs k F' ι1 H' vs xs → IsIs k F ι H' vs ys
theorem Ent.back {ns : List Nat} {cs : List Cell} {lent : Bool} (E : Ent k F ι H M ns cs lent ι0) (C : CsOk k F ι H M) (C1 : CsOk k (FF F ι lent) ι1 H' M1) (s : Stp k ι0 H ι1 H') : Back k F ι H' (FF F ι lent) ι1 M1 ns.length lent := by
  have one : ∀ (x y : I) (v : V), frz (mask (List.range ns.length) M1) dpt x = some y → (lent = true → y.solid = true) → IsI k (FF F ι lent) ι1 H' v x → IsI k F ι H' v y := fun x y v e hs h => by
    cases hlent : lent with
    | true =>
      subst hlent
      have q : IsI k (fun _ => False) [] H' v y := frz_ok (F' := fun _ => False) (ι' := []) (M := mask (List.range ns.length) M1) (fun _ _ _ => ⟨(fun z => nomatch z), fun z => z⟩) (fun _ _ _ _ _ => (fun z => nomatch z)) (fun n c a h1 h2 h3 => by
        obtain ⟨_, q2⟩ := mask_get _ M1 n c h1 h2
        exact ⟨C1.ce n c a q2 h3, (fun z => nomatch z), fun z => z⟩) dpt x y v e h
      exact q.solid (hs rfl)
    | false =>
      subst hlent
      refine frz_ok (M := mask (List.range ns.length) M1) (fun a ha r => ⟨fun z => r.2 ⟨rfl, .inr z⟩, fun z => r.2 ⟨rfl, .inl z⟩⟩) (fun a o xs h n z => ?_) (fun n c a h1 h2 h3 => ?_) dpt x y v e h
      · obtain ⟨u, h1, h2⟩ := C.wr z
        have h3 := s.kp a u h1 fun w => n (s.ip.subset w)
        rw [h] at h3
        cases h3
        exact h2
      · obtain ⟨q1, q2⟩ := mask_get _ M1 n c h1 h2
        have hn : ns.length ≤ n := by
          have := mt List.mem_range.mpr q1
          omega
        have a0 : a ∉ ι0 := fun m => by
          obtain ⟨j, hj⟩ := List.mem_iff_getElem?.mp m
          have hjl : j < ι0.length := (List.getElem?_eq_some_iff.mp hj).1
          have := nodup_get C1.nd (get_prefix s.ip hj) h3
          rw [E.len] at hjl
          omega
        have hnone : H a = none := by
          rcases s.nw a (List.mem_iff_getElem?.mpr ⟨n, h3⟩) with z | z
          · exact absurd z a0
          · exact z
        exact ⟨C1.ce n c a q2 h3, fun z => C.dom z hnone, fun z => C.fd a z hnone⟩
  refine ⟨one, ?_⟩
  intro xs
  induction xs with
  | nil => intro ys vs e _ h; cases e; cases h; exact .nil
  | cons x xs ih =>
    intro ys vs e hs h
    rw [List.mapM_cons] at e
    cases e1 : frz (mask (List.range ns.length) M1) dpt x with
    | none => rw [e1] at e; cases e
    | some y =>
      cases e2 : xs.mapM (frz (mask (List.range ns.length) M1) dpt) with
      | none => rw [e1, e2] at e; cases e
      | some zs =>
        rw [e1, e2] at e
        cases e
        cases h with
        | cons h t =>
          refine .cons (one x y _ e1 (fun z => ?_) h) (ih zs _ e2 (fun z => ?_) t)
          · have := hs z
            have q : (I.solid y && I.solids zs) = true := this
            rw [Bool.and_eq_true] at q
            exact q.1
          · have := hs z
            have q : (I.solid y && I.solids zs) = true := this
            rw [Bool.and_eq_true] at q
            exact q.2
theorem Ent.done {ns : List Nat} {cs cs' : List Cell} {lent : Bool} (E : Ent k F ι H M ns cs lent ι0) (C : CsOk k F ι H M) (C1 : CsOk k (FF F ι lent) ι1 H' M1) (s : Stp k ι0 H ι1 H')
    (hm : (M1.take ns.length).mapM (frzC (mask (List.range ns.length) M1)) = some cs') (hl : cs'.length = ns.length) (hs : lent = true → cs'.all Cell.solid = true) : CsOk k F ι H' (putCells ns cs' M) := by
  have st := E.stp s
  have B := E.back C C1 s
  obtain ⟨_, g⟩ := mapM_get hm
  refine ⟨by rw [put_len]; exact C.li, C.nd, fun a h z => C.fd a h (st.dm a z), fun n c a h1 h2 => ?_⟩
  rcases put_get ns cs' M n c E.nd hl h1 with ⟨hn, h1⟩ | ⟨j, hj, hc⟩
  · have ha := C.ce n c a h1 h2
    obtain ⟨o, ho, _⟩ := ha.wr
    exact ha.go st (by rw [ho]; exact s.kp a o ho (E.not C hn h2))
  · obtain ⟨b, h3, h4⟩ := E.at_ j n hj
    rw [h2] at h4
    cases h4
    have hj1 := get_prefix s.ip h3
    have hjl : j < ns.length := (List.getElem?_eq_some_iff.mp hj).1
    have hM : j < M1.length := by rw [← C1.li]; exact (List.getElem?_eq_some_iff.mp hj1).1
    have eM := List.getElem?_eq_getElem hM
    have et : (M1.take ns.length)[j]? = some M1[j] := by
      rw [List.getElem?_take_of_lt hjl]; exact eM
    obtain ⟨c2, q1, q2⟩ := g j _ et
    rw [hc] at q1
    cases q1
    have hcell := C1.ce j _ a eM hj1
    have sol : lent = true → c.solid = true := fun z => List.all_eq_true.mp (hs z) c (List.mem_iff_getElem?.mpr ⟨j, hc⟩)
    generalize M1[j] = c1 at q2 hcell
    cases c1 with
    | lst xs =>
      obtain ⟨ys, e, rfl⟩ := map_some (show (xs.mapM (frz (mask (List.range ns.length) M1) dpt)).map Cell.lst = some c from q2)
      obtain ⟨vs, p1, p2⟩ := hcell
      exact ⟨vs, p1, B.oks xs ys vs e sol p2⟩
    | dic ks xs =>
      obtain ⟨ys, e, rfl⟩ := map_some (show (xs.mapM (frz (mask (List.range ns.length) M1) dpt)).map (Cell.dic ks) = some c from q2)
      obtain ⟨vs, p1, pk, p2⟩ := hcell
      exact ⟨vs, p1, pk, B.oks xs ys _ e sol p2⟩
    | dit ks xs =>
      obtain ⟨ys, e, rfl⟩ := map_some (show (xs.mapM (frz (mask (List.range ns.length) M1) dpt)).map (Cell.dit ks) = some c from q2)
      obtain ⟨vs, p1, pk, p2⟩ := hcell
      exact ⟨vs, p1, pk, B.oks xs ys _ e sol p2⟩
    | ins _ _ => cases q2
theorem Ent.res {ns : List Nat} {cs : List Cell} {lent : Bool} (E : Ent k F ι H M ns cs lent ι0) (C : CsOk k F ι H M) (C1 : CsOk k (FF F ι lent) ι1 H' M1) (s : Stp k ι0 H ι1 H') {x : V} {v u : I} (e : outVal ns M1 v = some u) (hs : ¬ (lent = true ∧ u.solid = false ∧ (objI u).isNone = true))
    (h : IsI k (FF F ι lent) ι1 H' x v) : IsI k F ι H' x u := by
  have B := E.back C C1 s
  unfold outVal at e
  split at e
  · rename_i n en
    cases e
    obtain ⟨j, e1, e2⟩ := Option.bind_eq_some_iff.mp en
    cases v <;> cases e1
    cases h with
    | obj h =>
      obtain ⟨b, h3, h4⟩ := E.at_ _ n e2
      have := get_prefix s.ip h3
      rw [h] at this
      cases this
      exact .obj h4
  · refine B.ok v u x e (fun hl => ?_) h
    cases hsol : u.solid with
    | true => rfl
    | false =>
      exfalso
      refine hs ⟨hl, hsol, ?_⟩
      cases u with
      | obj n =>
        -- what is frozen holds no cell
        have q : IsI k (fun _ => False) [] H' x (.obj n) := frz_ok (F' := fun _ => False) (ι' := []) (M := mask (List.range ns.length) M1) (fun _ _ _ => ⟨(fun z => nomatch z), fun z => z⟩) (fun _ _ _ _ _ => (fun z => nomatch z)) (fun n c a h1 h2 h3 => by
          obtain ⟨_, q2⟩ := mask_get _ M1 n c h1 h2
          exact ⟨C1.ce n c a q2 h3, (fun z => nomatch z), fun z => z⟩) dpt v _ x e h
        cases q with
        | obj q => simp at q
      | _ => rfl
end
end Rs

/-! second layer, part p: a text's defs, a law -/
namespace Rs
open PySem PySem.Spec PyProof.Rows L2
/-- a def of the text and what it is in the language -/
structure DefT where
  x : Str
  ps : List Str
  N : List Str
  body : Ss
  st : Stmt
  full : Bool := false
  mt : List Nat := []
structure Txt1 where
  defs : List DefT
  glb : List (Str × I) := []
  kws : List (Nat × List Str × List Nat) := []
def Txt1.ctx (T : Txt1) (N : List Str) : Ctx := { N := N, fns := T.defs.map fun d => (d.x, d.ps), glb := T.glb, kws := T.kws }
def DefT.fn (d : DefT) : Fn := { np := d.ps.length, ns := d.N.length, body := d.body, full := d.full, mt := d.mt }
def Txt1.P (T : Txt1) (i : Nat) : Option Fn := (T.defs[i]?).map DefT.fn
def okScope (N P : List Str) (sc : Scope) : Bool := decide (sc.kind = .function) && decide (sc.isCoroutine = false) && decide (sc.isGenerator = false) && decide N.Nodup && decide (N.take P.length = P) &&
  (P.all fun x => decide (sc.names.lookup x = some .local) || decide (sc.names.lookup x = some .cell)) && (sc.names.all fun y => !decide (y.2 = .free))
def Txt1.okD (T : Txt1) (d : DefT) : Bool := ckSs (T.ctx d.N) (defScope d.st) d.body (defBody d.st) && okScope d.N d.ps (defScope d.st)
def Txt1.ok (T : Txt1) : Bool := T.defs.all fun d => T.okD d
theorem okScope_ok {N P : List Str} {sc : Scope} (h : okScope N P sc = true) : FnScope N P sc := by
  unfold okScope at h
  simp only [Bool.and_eq_true, decide_eq_true_eq, List.all_eq_true, Bool.or_eq_true, Bool.not_eq_true', decide_eq_false_iff_not] at h
  obtain ⟨⟨⟨⟨⟨⟨h1, h2⟩, h3⟩, h4⟩, h5⟩, h6⟩, h7⟩ := h
  exact ⟨h1, h2, h3, h4, h5, h6, h7⟩
/-- where its defs stand -/
structure At (K : PySem.W.Frag) (mg : Str → Option Value) (T : Txt1) (i : Nat) (d : DefT) (a : Addr) (fd : FuncData) : Prop where
  f : Fun K d.x d.x d.st a fd
  m : mg d.x = some (.ref a)
  b : Binds K fd d.ps []
  k : ∀ ks ord, (i, ks, ord) ∈ T.kws → KBinds K fd d.ps ks (gK ord) (gK ord)
def start (vs : List I) (n : Nat) : Env := vs.map some ++ List.replicate n none
theorem start_ok {k : Kx} {F : Addr → Prop} {ι : List Addr} {H : Hp} {M : Mem} {xs : List V} {vs : List I} {N : List Str} (C : CsOk k F ι H M) (h : IsIs k F ι H xs vs) : SOk k F ι H (L2.start N xs) (start vs (N.length - vs.length)) M := by
  refine ⟨?_, fun i x e => ?_, C⟩
  · unfold L2.start start
    rw [List.length_append, List.length_append, List.length_map, List.length_map, List.length_replicate, List.length_replicate, h.length]
  · unfold start at e
    by_cases hi : i < vs.length
    · rw [List.getElem?_append_left (by rw [List.length_map]; exact hi), List.getElem?_map, List.getElem?_eq_getElem hi] at e
      cases e
      obtain ⟨v, h1, h2⟩ := h.get (List.getElem?_eq_getElem hi)
      refine ⟨v, ?_, h2⟩
      unfold L2.start
      rw [List.getElem?_append_left (by rw [List.length_map, h.length]; exact hi), List.getElem?_map, h1]; rfl
    · rw [List.getElem?_append_right (by rw [List.length_map]; omega)] at e
      have := List.mem_replicate.mp (List.mem_iff_getElem?.mpr ⟨_, e⟩)
      cases this.2
section
variable {P : Program} {w : World} {K : PySem.W.Frag} {mg : Str → Option Value} {base : Heap} {T : Txt1} {Wn : Nat}
theorem inArgs_len {mt : List Nat} {M : Mem} : ∀ {i : Nat} {vs us : List I}, inArgs mt M i vs = some us → us.length = vs.length
  | _, [], us, e => by cases e; rfl
  | i, v :: vs, us, e => by
    unfold inArgs at e
    obtain ⟨u, e1, e⟩ := Option.bind_eq_some_iff.mp e
    obtain ⟨us', e2, rfl⟩ := map_some e
    exact congrArg (· + 1) (inArgs_len e2)
theorem call_len {j i : Nat} {d : DefT} {vs : List I} {M : Mem} (hd : T.defs[i]? = some d) (h : evCall T.P Wn j i vs M ≠ .no) : vs.length = d.ps.length := by
  cases j with
  | zero => exact absurd rfl h
  | succ j =>
    have e : T.P i = some d.fn := by
      unfold Txt1.P
      rw [hd]; rfl
    by_cases hl : vs.length = d.fn.np
    · exact hl
    · refine absurd ?_ h
      unfold evCall
      rw [e]
      exact if_neg hl
/-- what a def's body comes to -/
theorem body_fin {k : Kx} {F : Addr → Prop} {ι : List Addr} {H : Hp} {M : Mem} {xs : List V} {vs : List I} {Q : VK} {E : XK} {fn : Fn} {Φ : Oracle} {N : List Str} (hN : fn.ns = N.length) (C : CsOk k F ι H M) (hx : IsIs k F ι H xs vs)
    (f : FinC k F ι H (if vs.length = fn.np then
        if fn.full then
          match evSs Φ Wn fn.body (vs.map some ++ List.replicate (fn.ns - fn.np) none) M with
          | some (.nx _ M1) => .ok .non M1
          | some (.ret v M1) => .ok v M1
          | some (.ex c _ M1) => .ex c M1
          | _ => .no
        else match fn.mt.mapM fun i => (vs[i]?).bind objI with
          | some ns => match ns.mapM (M[·]?), inArgs fn.mt (mask ns M) 0 vs with
            | some cs, some us => if ns.Nodup ∧ cs.all Cell.flat = true then
                let lent := !(I.flats ((List.range vs.length).filterMap fun i => if fn.mt.contains i then none else vs[i]?))
                match evSs Φ Wn fn.body (us.map some ++ List.replicate (fn.ns - fn.np) none) cs with
                | some (.nx _ M1) => match outRes ns lent (some .non) M1 M with
                  | some (some v, M2) => .ok v M2
                  | _ => .no
                | some (.ret v M1) => match outRes ns lent (some v) M1 M with
                  | some (some v, M2) => .ok v M2
                  | _ => .no
                | some (.ex c _ M1) => match outRes ns lent none M1 M with
                  | some (_, M2) => .ex c M2
                  | none => .no
                | _ => .no
              else .no
            | _, _ => .no
          | none => .no
      else .no) Q E) : tSs k Φ (fun cls d _ H => E cls d H) Wn fn.body { nx := fun _ H' => Q .non H', rt := Q } (L2.start N xs) H := by
  split at f
  · rename_i hl
    split at f
    · -- in its caller's cells
      refine ⟨F, ι, _, M, start_ok (N := N) C hx, ?_⟩
      have es : start vs (N.length - vs.length) = vs.map some ++ List.replicate (fn.ns - fn.np) none := by
        unfold start
        rw [hN, hl]
      rw [es]
      cases e : evSs Φ Wn fn.body (vs.map some ++ List.replicate (fn.ns - fn.np) none) M with
      | none => rw [e] at f; exact f
      | some o =>
        rw [e] at f
        cases o with
        | nx τ1 M1 => exact fun σ' ι' H' S s => f .non ι' H' S.cs s .non
        | ret v M1 => exact fun x ι' H' C' s i => f x ι' H' C' s i
        | ex c τ1 M1 => exact fun σ' ι' H' S s => f ι' H' S.cs s
        | brk _ _ => exact f.elim
        | cont _ _ => exact f.elim
    · split at f
      · rename_i ns hns
        split at f
        · rename_i cs us hcs hus
          split at f
          · rename_i hc
            obtain ⟨nd, hflat⟩ := hc
            generalize hlent : (!(I.flats ((List.range vs.length).filterMap fun i => if fn.mt.contains i then none else vs[i]?))) = lent at f
            have f : FinC k F ι H (match evSs Φ Wn fn.body (us.map some ++ List.replicate (fn.ns - fn.np) none) cs with
              | some (.nx _ M1) => match outRes ns lent (some .non) M1 M with
                | some (some v, M2) => .ok v M2
                | _ => .no
              | some (.ret v M1) => match outRes ns lent (some v) M1 M with
                | some (some v, M2) => .ok v M2
                | _ => .no
              | some (.ex c _ M1) => match outRes ns lent none M1 M with
                | some (_, M2) => .ex c M2
                | none => .no
              | _ => .no) Q E := f
            obtain ⟨ι0, En⟩ := ent_of (lent := lent) C nd hcs
            have hargs : IsIs k (FF F ι lent) ι0 H xs us := by
              refine En.args C hns (fun hl i v hm hv => ?_) 0 vs xs us (fun j => by rw [Nat.zero_add]) hus hx
              subst hl
              have hfl : I.flats ((List.range vs.length).filterMap fun i => if fn.mt.contains i then none else vs[i]?) = true := by
                simpa using hlent
              refine flats_mem hfl v (List.mem_filterMap.mpr ⟨i, List.mem_range.mpr (List.getElem?_eq_some_iff.mp hv).1, ?_⟩)
              rw [hm]; exact hv
            have hul : us.length = vs.length := inArgs_len hus
            refine ⟨FF F ι lent, ι0, _, cs, start_ok (N := N) (En.cs C hcs hflat) hargs, ?_⟩
            have es : start us (N.length - us.length) = us.map some ++ List.replicate (fn.ns - fn.np) none := by
              unfold start
              rw [hN, hul, hl]
            rw [es]
            -- what is handed back
            have back : ∀ {r : Option I} {M1 : Mem} {res : Option I × Mem} {ι1 : List Addr} {H' : Hp}, outRes ns lent r M1 M = some res → CsOk k (FF F ι lent) ι1 H' M1 → Stp k ι0 H ι1 H' → CsOk k F ι H' res.2 ∧ Stp k ι H ι H' ∧
                ∀ v u x, r = some v → res.1 = some u → IsI k (FF F ι lent) ι1 H' x v → IsI k F ι H' x u := fun {r M1 res ι1 H'} e C1 s => by
              unfold outRes at e
              split at e
              · rename_i cs' hm
                split at e
                · rename_i hh
                  cases r with
                  | none =>
                    cases e
                    exact ⟨En.done C C1 s hm hh.1 hh.2, En.stp s, (fun _ _ _ z => nomatch z)⟩
                  | some v =>
                    dsimp only at e
                    split at e
                    · rename_i u hu
                      split at e
                      · cases e
                      · rename_i hsol
                        cases e
                        refine ⟨En.done C C1 s hm hh.1 hh.2, En.stp s, fun v' u' x e1 e2 i => ?_⟩
                        cases e1; cases e2
                        exact En.res C C1 s hu hsol i
                    · cases e
                · cases e
              · cases e
            cases e : evSs Φ Wn fn.body (us.map some ++ List.replicate (fn.ns - fn.np) none) cs with
            | none => rw [e] at f; exact f
            | some o =>
              rw [e] at f
              cases o with
              | nx τ1 M1 =>
                dsimp only at f
                split at f
                · rename_i v M2 eo
                  refine fun σ' ι' H' S s => ?_
                  obtain ⟨b1, b2, b3⟩ := back eo S.cs s
                  exact f .non ι H' b1 b2 (b3 _ _ .non rfl rfl .non)
                · exact f.elim
              | ret v0 M1 =>
                dsimp only at f
                split at f
                · rename_i v M2 eo
                  refine fun x ι' H' C' s i => ?_
                  obtain ⟨b1, b2, b3⟩ := back eo C' s
                  exact f x ι H' b1 b2 (b3 _ _ x rfl rfl i)
                · exact f.elim
              | ex c τ1 M1 =>
                dsimp only at f
                split at f
                · rename_i r M2 eo
                  refine fun σ' ι' H' S s => ?_
                  obtain ⟨b1, b2, _⟩ := back eo S.cs s
                  exact f ι H' b1 b2
                · exact f.elim
              | brk _ _ => exact f.elim
              | cont _ _ => exact f.elim
          · exact f.elim
        · exact f.elim
      · exact f.elim
  · exact f.elim
theorem defs_ok {k : Kx} (hk : k.K = K) (hT : T.ok = true) (has : ∀ i d, T.defs[i]? = some d → ∃ a fd, At K mg T i d a fd) (hblt : ∀ x ∈ bltsOf, mg x = none) (hglb : ∀ p ∈ T.glb, ∃ u w, mg p.1 = some u ∧ RelV w u ∧ ∀ F ι H, IsI k F ι H w p.2) :
    ∀ (j i : Nat) (d : DefT), T.defs[i]? = some d → ∃ a fd, At K mg T i d a fd ∧ FnOk P w K mg base (L2.CX P w) j a fd d.ps (spF k (evCall T.P Wn j) d.ps.length i)
  | 0, i, d, hd => by
    obtain ⟨a, fd, A⟩ := has i d hd
    have no : ∀ vs H Q E, ¬ spF k (evCall T.P Wn 0) d.ps.length i vs H Q E := fun vs H Q E h => by
      obtain ⟨_, F, ι, M, vs, _, _, f⟩ := h
      exact f
    exact ⟨a, fd, A, fun vs H Q E h => absurd h (no vs H Q E), fun A outer s H args us vs Q E _ _ _ _ h => absurd h (no vs H Q E)⟩
  | j + 1, i, d, hd => by
    obtain ⟨a, fd, A⟩ := has i d hd
    refine ⟨a, fd, A, ?_⟩
    have hT0 := hT
    unfold Txt1.ok at hT
    have okd := List.all_eq_true.mp hT d (List.mem_iff_getElem?.mpr ⟨i, hd⟩)
    unfold Txt1.okD at okd
    rw [Bool.and_eq_true] at okd
    refine A.f.okX (okScope_ok okd.2) (fun vs H Q E h => h.1) fun cdv Ar outer s H xs Q E hr h => ?_
    obtain ⟨hl, F, ι, M, vs, C, hx, f⟩ := h
    refine ⟨tSs k (evCall T.P Wn j) (fun cls d _ H => E cls d H) Wn d.body, ?_, ?_⟩
    · refine sndSs (Γ := T.ctx d.N) (k := k) (Φ := evCall T.P Wn j) (Wn := Wn) (fun f x ps vs M hf h => ?_) d.body (defScope d.st) _ (defBody d.st) ?_ rfl (fun _ => rfl) okd.1
      · have hf : (T.defs.map fun d => (d.x, d.ps))[f]? = some (x, ps) := hf
        rw [List.getElem?_map] at hf
        cases e : T.defs[f]? with
        | none => rw [e] at hf; cases hf
        | some d2 =>
          rw [e] at hf
          cases hf
          exact call_len e h
      · refine ⟨hk, rfl, (okScope_ok okd.2).nd, rfl, takes_of rfl rfl rfl rfl, passes_of (X := cxOf (L2.CX P w) P w K mg base d.N d.x (defScope d.st) a cdv Ar outer s H E) rfl, ?_, hblt, hglb, fun f x ps hf => ?_⟩
        · have := hr.un
          show (Ar.deeper _).units + 65 < cLine
          omega
        · have hf : (T.defs.map fun d => (d.x, d.ps))[f]? = some (x, ps) := hf
          rw [List.getElem?_map] at hf
          cases e : T.defs[f]? with
          | none => rw [e] at hf; cases hf
          | some d2 =>
            rw [e] at hf
            cases hf
            obtain ⟨a2, fd2, A2, F2⟩ := defs_ok hk hT0 has hblt hglb j f d2 e
            exact ⟨a2, fd2, j, F2, hr, A2.m, A2.f.kp, A2.b, A2.k⟩
    · have e : T.P i = some d.fn := by
        unfold Txt1.P
        rw [hd]; rfl
      refine body_fin (fn := d.fn) (N := d.N) rfl C hx ?_
      unfold evCall at f
      rw [e] at f
      exact f
def spL (K : PySem.W.Frag) : Sp := fun xs H Q _ => ∃ (a : Addr) (ns : List Int), xs = [.ref a] ∧ Scr K [] H a (ns.map V.int) ∧ ns.length ≤ 63 ∧ ∀ H', Q (.bl true) H'
theorem spL_at {H : Hp} {a : Addr} {ns : List Int} (hl : ns.length ≤ 63) (ho : Only H) (hS : SqL K H a (ns.map V.int)) : spL K [.ref a] H (fun v _ => v = .bl true) fun _ _ _ => False := by
  refine ⟨a, ns, rfl, ?_, hl, fun _ => rfl⟩
  rcases hS with (h | ⟨o, h⟩) | h
  · rcases ho a with z | ⟨o, xs, z⟩
    · rw [z] at h; cases h
    · rw [z] at h; cases h
  · exact .inl ⟨o, h, (fun z => nomatch z)⟩
  · exact .inr h
theorem law_ok {k : Kx} (hk : k.K = K) {CX : CXT} {j i : Nat} {d : DefT} {x : Str} {a : Addr} {fd : FuncData} (hd : d.ps = [x]) (F : FnOk P w K mg base CX j a fd d.ps (spF k (evCall T.P Wn j) d.ps.length i)) (hl : ∀ ns : List Int, ns.length ≤ 63 → ∃ M, evCall T.P Wn j i [.scr ns] [] = .ok (.bl true) M) :
    FnOk P w K mg base CX j a fd [x] (spL K) := by
  rw [hd] at F
  refine F.imp fun xs H Q E h => ?_
  obtain ⟨a, ns, rfl, hS, hn, q⟩ := h
  obtain ⟨M, ev⟩ := hl ns hn
  have C : CsOk k (fun _ => False) [] H [] := ⟨rfl, List.nodup_nil, fun _ z => z.elim, fun n c a e => by simp at e⟩
  refine ⟨rfl, fun _ => False, [], [], [.scr ns], C, .cons (.scr (by rw [hk]; exact hS)) .nil, ?_⟩
  rw [ev]
  intro y ι' H' _ _ hy
  cases hy
  exact q H'
theorem cx_none {H : Hp} {s : Shared} {e : Value} {s' : Shared} (h : L2.CX P w [] H s (fun _ _ _ => False) e s') : False := by
  obtain ⟨_, _, _, _, _, _, _, _, _, _, _, _, z⟩ := h
  exact z
end
theorem vals_at {vs : List V} {us : List Value} (h : Vals vs us) (j : Nat) : (vs[j]? = none ∧ us[j]? = none) ∨ ∃ v u, vs[j]? = some v ∧ us[j]? = some u ∧ RelV v u := by
  by_cases hj : j < vs.length
  · obtain ⟨u, h1, h2⟩ := h.get (List.getElem?_eq_getElem hj)
    exact .inr ⟨_, u, List.getElem?_eq_getElem hj, h1, h2⟩
  · have := h.length
    exact .inl ⟨List.getElem?_eq_none (by omega), List.getElem?_eq_none (by omega)⟩
theorem pick_vals {zs : List V} {ws : List Value} (h : Vals zs ws) : ∀ ord : List Nat, Vals (pick ord zs) (pick ord ws)
  | [] => .nil
  | j :: ord => by
    have ih := pick_vals h ord
    unfold pick at ih ⊢
    rcases vals_at h j with ⟨e1, e2⟩ | ⟨v, u, e1, e2, r⟩
    · rw [List.filterMap_cons, List.filterMap_cons, e1, e2]; exact ih
    · rw [List.filterMap_cons, List.filterMap_cons, e1, e2]; exact .cons r ih
theorem gK_vals {ord : List Nat} {vs : List V} {us : List Value} {zs : List V} {ws : List Value} (h1 : Vals vs us) (h2 : Vals zs ws) : Vals (gK ord vs zs) (gK ord us ws) := by
  cases h1 with
  | nil => exact pick_vals h2 ord
  | cons _ _ => exact .nil
theorem fd_one {K : PySem.W.Frag} {x y : Str} {st st' : Stmt} {f : Addr} {fd fd' : FuncData} (a : Fun K x y st f fd) (b : Fun K x y st' f fd') : fd = fd' := by
  obtain ⟨oc, od, kV, doc, pm, an, cdv, ct, osl, _, e1, _⟩ := a.ex
  obtain ⟨oc', od', kV', doc', pm', an', cdv', ct', osl', _, e2, _⟩ := b.ex
  rw [e1] at e2
  cases e2
  rfl
/-- the law at its place -/
theorem law_at {l : PySem.W.OpenLaw} {w : World} {K : PySem.W.Frag} {mg : Str → Option Value} {T : Txt1} {Wn j i : Nat} {d : DefT} {x : Str} {fa : Addr} {fd : FuncData} (k : Kx) (hk : k.K = K) (hT : T.ok = true) (has : ∀ i d, T.defs[i]? = some d → ∃ a fd, At K mg T i d a fd) (hblt : ∀ x ∈ bltsOf, mg x = none)
    (hglb : ∀ p ∈ T.glb, ∃ u w, mg p.1 = some u ∧ RelV w u ∧ ∀ F ι H, IsI k F ι H w p.2) (hd : T.defs[i]? = some d) (hp : d.ps = [x]) (hfa : mg d.x = some (.ref fa)) (F : Fun K d.x d.x d.st fa fd)
    (hl : ∀ ns : List Int, ns.length ≤ 63 → ∃ M, evCall T.P Wn j i [.scr ns] [] = .ok (.bl true) M) (base : Heap) : FnOk l.prog w K mg base (L2.CX l.prog w) j fa fd [x] (spL K) := by
  obtain ⟨a, fd', A, G⟩ := defs_ok (P := l.prog) (w := w) (base := base) (Wn := Wn) hk hT has hblt hglb j i d hd
  have e := hfa.symm.trans A.m
  cases e
  have e2 := fd_one F A.f
  subst e2
  exact law_ok hk hp G hl
end Rs

/-! second layer, part q: plain facts -/
namespace Rs
open PySem PySem.Spec PyProof.Rows L2
theorem flats_of : ∀ {xs : List I}, (∀ x ∈ xs, x.flat = true) → I.flats xs = true
  | [], _ => rfl
  | x :: xs, h => by
    show (x.flat && I.flats xs) = true
    rw [h x List.mem_cons_self, flats_of fun y hy => h y (List.mem_cons_of_mem _ hy)]; rfl
theorem frzs_flat {M : Mem} {n : Nat} {xs : List I} (h : I.flats xs = true) : xs.mapM (frz M n) = some xs := mapM_id fun x hx => frz_flat n (flats_mem h x hx)
theorem frz_lst {M : Mem} {i : Nat} {xs : List I} (e : M[i]? = some (.lst xs)) (h : I.flats xs = true) : frz M dpt (.obj i) = some (.lst xs) := by
  show (match M[i]? with
    | some (.lst xs) => (xs.mapM (frz M 11)).map I.lst
    | some (.dic ks xs) => (xs.mapM (frz M 11)).map (.dic ks)
    | some (.dit ks xs) => (xs.mapM (frz M 11)).map (.dit ks)
    | _ => none) = _
  rw [e]
  dsimp only
  rw [frzs_flat h]; rfl
theorem frzC_lst {M : Mem} {xs : List I} (h : I.flats xs = true) : frzC M (.lst xs) = some (.lst xs) := by
  show (xs.mapM (frz M dpt)).map Cell.lst = _
  rw [frzs_flat h]; rfl
theorem in_flat {M : Mem} : ∀ {vs : List I} {i : Nat}, I.flats vs = true → inArgs [] M i vs = some vs
  | [], _, _ => rfl
  | v :: vs, i, h => by
    have h1 : v.flat = true ∧ I.flats vs = true := by
      have : (v.flat && I.flats vs) = true := h
      simpa using this
    show ((if ([] : List Nat).contains i then _ else frz M dpt v).bind fun u => (inArgs [] M (i + 1) vs).map (u :: ·)) = _
    rw [if_neg (by simp), frz_flat _ h1.1, in_flat h1.2]; rfl
theorem in_flat0 {M : Mem} : ∀ {vs : List I} {i : Nat}, 1 ≤ i → I.flats vs = true → inArgs [0] M i vs = some vs
  | [], _, _, _ => rfl
  | v :: vs, i, hi, h => by
    have h1 : v.flat = true ∧ I.flats vs = true := by
      have : (v.flat && I.flats vs) = true := h
      simpa using this
    show ((if ([0] : List Nat).contains i then _ else frz M dpt v).bind fun u => (inArgs [0] M (i + 1) vs).map (u :: ·)) = _
    rw [if_neg (by simp; omega), frz_flat _ h1.1, in_flat0 (by omega) h1.2]; rfl
section
variable {P : Nat → Option Fn} {W k f : Nat} {fn : Fn} {args : List I} {M : Mem}
/-- what a frame without cells hands back -/
def back0 : Option Out → Mem → R I
  | some (.nx _ _), M => .ok .non M
  | some (.ret v M1), M => match frz M1 dpt v with
    | some u => .ok u M
    | none => .no
  | some (.ex c _ _), M => .ex c M
  | _, _ => .no
theorem call0 (h : P f = some fn) (hl : args.length = fn.np) (hf : fn.full = false) (hm : fn.mt = []) (ha : I.flats args = true) :
    evCall P W (k + 1) f args M = back0 (evSs (evCall P W k) W fn.body (args.map some ++ List.replicate (fn.ns - fn.np) none) []) M := by
  unfold evCall
  rw [h]
  dsimp only
  rw [if_pos hl, hf, hm]
  have e1 : inArgs [] (mask [] M) 0 args = some args := in_flat ha
  have e2 : (I.flats ((List.range args.length).filterMap fun i => if ([] : List Nat).contains i then none else args[i]?)) = true := by
    refine flats_of fun x hx => ?_
    obtain ⟨i, _, hi⟩ := List.mem_filterMap.mp hx
    rw [if_neg (by simp)] at hi
    exact flats_mem ha x (List.mem_of_getElem? hi)
  simp only [List.mapM_nil, pure, e1, e2]
  rw [if_neg (by simp), if_pos ⟨List.nodup_nil, rfl⟩]
  generalize evSs (evCall P W k) W fn.body (args.map some ++ List.replicate (fn.ns - fn.np) none) [] = r
  cases r with
  | none => rfl
  | some o =>
    cases o with
    | nx τ M1 =>
      simp [back0, outRes, outVal, objI, frzC, putCells, frz, dpt, pure]
    | ret v M1 =>
      have eo : outVal [] M1 v = frz M1 dpt v := by
        unfold outVal
        cases e : objI v <;> rfl
      simp only [back0, outRes, List.length_nil, List.take_zero, List.mapM_nil, pure, eo, putCells]
      cases e : frz M1 dpt v with
      | none => simp
      | some u => simp
    | ex c τ M1 => simp [back0, outRes, putCells, pure]
    | brk τ M1 => rfl
    | cont τ M1 => rfl
theorem callF (h : P f = some fn) (hl : args.length = fn.np) (hf : fn.full = true) :
    evCall P W (k + 1) f args M = match evSs (evCall P W k) W fn.body (args.map some ++ List.replicate (fn.ns - fn.np) none) M with
          | some (.nx _ M1) => .ok .non M1
          | some (.ret v M1) => .ok v M1
          | some (.ex c _ M1) => .ex c M1
          | _ => .no := by
  unfold evCall
  rw [h]
  dsimp only
  rw [if_pos hl, hf]; rfl
/-- one cell is handed over, first -/
theorem call1 {p : Nat} {c c' : Cell} {v u : I} {M1 : Mem} (h : P f = some fn) (hl : args.length + 1 = fn.np) (hf : fn.full = false) (hm : fn.mt = [0]) (hp : M[p]? = some c) (hc : c.flat = true) (ha : I.flats args = true)
    (hb : evSs (evCall P W k) W fn.body (some (.obj 0) :: args.map some ++ List.replicate (fn.ns - fn.np) none) [c] = some (.ret v M1)) (h1 : M1[0]? = some c') (hc' : ∀ M, frzC M c' = some c') (hu : outVal [p] M1 v = some u) :
    evCall P W (k + 1) f (.obj p :: args) M = .ok u (M.set p c') := by
  unfold evCall
  rw [h]
  dsimp only
  rw [if_pos (show (I.obj p :: args).length = fn.np from hl), hf, hm]
  have e1 : inArgs [0] (mask [p] M) 0 (.obj p :: args) = some (.obj 0 :: args) := by
    show ((if ([0] : List Nat).contains 0 then (([0] : List Nat).idxOf? 0).map I.obj else _).bind fun u => (inArgs [0] (mask [p] M) 1 args).map (u :: ·)) = _
    rw [if_pos (by simp), in_flat0 (Nat.le_refl _) ha]; rfl
  have e2 : (I.flats ((List.range (I.obj p :: args).length).filterMap fun i => if ([0] : List Nat).contains i then none else (I.obj p :: args)[i]?)) = true := by
    refine flats_of fun x hx => ?_
    obtain ⟨i, _, hi⟩ := List.mem_filterMap.mp hx
    split at hi
    · cases hi
    · rename_i hn
      cases i with
      | zero => exact absurd (by simp) hn
      | succ i => exact flats_mem ha x (List.mem_of_getElem? hi)
  have e3 : (([0] : List Nat).mapM fun i => ((I.obj p :: args)[i]?).bind objI) = some [p] := rfl
  have e4 : ([p].mapM (M[·]?)) = some [c] := by
    simp [hp]
  rw [if_neg (by simp)]
  simp only [e1, e2, e3, e4]
  have hb' : evSs (evCall P W k) W fn.body (List.map some (I.obj 0 :: args) ++ List.replicate (fn.ns - fn.np) none) [c] = some (.ret v M1) := hb
  rw [if_pos ⟨by simp, by simp [hc]⟩, hb']
  have et : M1.take 1 = [c'] := by
    cases M1 with
    | nil => cases h1
    | cons a r =>
      cases h1
      rfl
  have eo : outRes [p] false (some v) M1 M = some (some u, M.set p c') := by
    unfold outRes
    simp only [List.length_singleton, et]
    have : ([c'].mapM (frzC (mask (List.range 1) M1))) = some [c'] := by simp [hc']
    rw [this]
    simp [hu, putCells]
  simp only [Bool.not_true, eo]
end
section
variable {Φ : Oracle} {W : Nat} {g : Tg}
theorem each_go {b : Env → Mem → Option Out} {Inv : Nat → Env → Mem → Prop} : ∀ (vs : List I) (j : Nat) (τ : Env) (M : Mem), Inv j τ M →
    (∀ (i : Nat) (τ : Env) (M : Mem) (v : I), vs[i]? = some v → Inv (j + i) τ M → ∃ τ1 τ2 M2, asgT g v τ = some τ1 ∧ b τ1 M = some (.nx τ2 M2) ∧ Inv (j + i + 1) τ2 M2) → ∃ τ' M', eachL g b vs τ M = some (.nx τ' M') ∧ Inv (j + vs.length) τ' M'
  | [], j, τ, M, h, _ => ⟨τ, M, rfl, h⟩
  | v :: vs, j, τ, M, h, step => by
    obtain ⟨τ1, τ2, M2, e1, e2, h2⟩ := step 0 τ M v rfl h
    obtain ⟨τ', M', e3, h3⟩ := each_go vs (j + 1) τ2 M2 h2 fun i τ M v e hi => by
      obtain ⟨τ1, τ2, M2, q1, q2, q3⟩ := step (i + 1) τ M v (by simpa using e) (by rw [← Nat.add_assoc, Nat.add_right_comm]; exact hi)
      exact ⟨τ1, τ2, M2, q1, q2, by rw [show j + 1 + i + 1 = j + (i + 1) + 1 by omega]; exact q3⟩
    refine ⟨τ', M', ?_, by rw [show j + (v :: vs).length = j + 1 + vs.length by simp; omega]; exact h3⟩
    unfold eachL
    rw [e1]
    dsimp only
    rw [e2]
    exact e3
/-- a loop whose state follows the items -/
theorem each_fold {α : Type} {b : Env → Mem → Option Out} {f : α → I} {Inv : List α → Env → Mem → Prop} : ∀ (xs pre : List α) (τ : Env) (M : Mem), Inv pre τ M →
    (∀ (x : α) (pre : List α) (τ : Env) (M : Mem), x ∈ xs → Inv pre τ M → ∃ τ1 τ2 M2, asgT g (f x) τ = some τ1 ∧ b τ1 M = some (.nx τ2 M2) ∧ Inv (pre ++ [x]) τ2 M2) → ∃ τ' M', eachL g b (xs.map f) τ M = some (.nx τ' M') ∧ Inv (pre ++ xs) τ' M'
  | [], pre, τ, M, h, _ => ⟨τ, M, rfl, by rw [List.append_nil]; exact h⟩
  | x :: xs, pre, τ, M, h, step => by
    obtain ⟨τ1, τ2, M2, e1, e2, h2⟩ := step x pre τ M List.mem_cons_self h
    obtain ⟨τ', M', e3, h3⟩ := each_fold xs (pre ++ [x]) τ2 M2 h2 fun y pre τ M hy hi => step y pre τ M (List.mem_cons_of_mem _ hy) hi
    refine ⟨τ', M', ?_, by rw [List.append_assoc] at h3; exact h3⟩
    show eachL g b (f x :: xs.map f) τ M = _
    unfold eachL
    rw [e1]
    dsimp only
    rw [e2]
    exact e3
end
theorem intsI_ints : ∀ ns : List Int, intsI (ns.map I.int) = some ns
  | [] => rfl
  | n :: ns => by
    show (intsI (ns.map I.int)).map (n :: ·) = _
    rw [intsI_ints ns]; rfl
theorem strsI_strs : ∀ ns : List Str, strsI (ns.map I.str) = some ns
  | [] => rfl
  | n :: ns => by
    show (strsI (ns.map I.str)).map (n :: ·) = _
    rw [strsI_strs ns]; rfl
theorem flats_ints (ns : List Int) : I.flats (ns.map I.int) = true := flats_of fun x hx => by
  obtain ⟨n, _, rfl⟩ := List.mem_map.mp hx
  rfl
theorem flats_strs (ns : List Str) : I.flats (ns.map I.str) = true := flats_of fun x hx => by
  obtain ⟨n, _, rfl⟩ := List.mem_map.mp hx
  rfl
/-- data that may be compared, n deep at most -/
structure Fit (n : Nat) (x : I) : Prop where
  p : x.pure = true
  c : x.py.canLay0 = true
  d : x.py.depth ≤ n
theorem Fit.mono {n k : Nat} {x : I} (h : Fit n x) (hk : n ≤ k) : Fit k x := ⟨h.p, h.c, Nat.le_trans h.d hk⟩
theorem fit_non {n : Nat} : Fit n .non := ⟨rfl, rfl, Nat.zero_le _⟩
theorem fit_bl {n : Nat} (b : Bool) : Fit n (.bl b) := ⟨rfl, rfl, Nat.zero_le _⟩
theorem fit_int {n : Nat} (i : Int) : Fit n (.int i) := ⟨rfl, rfl, Nat.zero_le _⟩
theorem fit_str {n : Nat} {s : Str} (h : PyData.canLay0 (.str s) = true) : Fit n (.str s) := ⟨rfl, h, Nat.zero_le _⟩
theorem fits {n : Nat} : ∀ {xs : List I}, (∀ x ∈ xs, Fit n x) → I.pures xs = true ∧ PyData.canLayAll0 (I.pys xs) = true ∧ PyData.depthAll (I.pys xs) ≤ n
  | [], _ => ⟨rfl, rfl, Nat.zero_le _⟩
  | x :: xs, h => by
    obtain ⟨h1, h2, h3⟩ := fits fun y hy => h y (List.mem_cons_of_mem _ hy)
    have hx := h x List.mem_cons_self
    refine ⟨?_, ?_, ?_⟩
    · show (I.pure x && I.pures xs) = true
      rw [hx.p, h1]; rfl
    · show (PyData.canLay0 x.py && PyData.canLayAll0 (I.pys xs)) = true
      rw [hx.c, h2]; rfl
    · show max (PyData.depth x.py) (PyData.depthAll (I.pys xs)) ≤ n
      exact Nat.max_le.mpr ⟨hx.d, h3⟩
theorem fit_tup {n : Nat} {xs : List I} (h : ∀ x ∈ xs, Fit n x) : Fit (n + 1) (.tup xs) := by
  obtain ⟨h1, h2, h3⟩ := fits h
  exact ⟨h1, h2, Nat.succ_le_succ h3⟩
theorem fit_lst {n : Nat} {xs : List I} (h : ∀ x ∈ xs, Fit n x) : Fit (n + 1) (.lst xs) := by
  obtain ⟨h1, h2, h3⟩ := fits h
  exact ⟨h1, h2, Nat.succ_le_succ h3⟩
theorem Fit.fit {x : I} (h : Fit 64 x) : x.fit = true := by
  show (x.pure && (PyData.canLay0 x.py && decide (PyData.depth x.py ≤ 64))) = true
  rw [h.p, h.c, decide_eq_true h.d]; rfl
theorem eqD_self {d : I} (h : Fit 64 d) : eqD d d = some true := by
  unfold eqD
  rw [h.fit]
  exact congrArg some (PySem.SeqAt.eqv_refl d.py h.c)
theorem fit_strs {l : List Str} (h : ∀ s ∈ l, PyData.canLay0 (.str s) = true) : Fit 64 (.lst (l.map .str)) := Fit.mono (fit_lst (n := 0) fun x hx => by
  obtain ⟨s, hs, rfl⟩ := List.mem_map.mp hx
  exact fit_str (h s hs)) (by decide)
end Rs

namespace K07
open PySem PySem.Spec PyProof.Rows L2 Rs
def top (i : Nat) : Stmt := PySem.Challenge.pw_errandwide_k07_programs_written.main.body.getD i (.Pass ⟨0, 0, 0, 0⟩)
-- worth_text: cells []
def D0 : DefT := { x := "worth_text", ps := ["one"], N := ["one"], st := top 1, body :=
  (.cons (.cond (.op (.isT .int) (.cons (.var 0) .nil)) (.cons (.ret (.op .str (.cons (.var 0) .nil))) .nil) .nil) (.cons (.cond (.op (.isT .str) (.cons (.var 0) .nil)) (.cons (.ret (.var 0)) .nil) .nil) (.cons (.ret (.op .add (.cons (.op .add (.cons (.op .add (.cons (.op .add (.cons (.const (.str "(")) (.cons (.call 0 (.cons (.op .ix (.cons (.var 0) (.cons (.const (.int 1)) .nil))) .nil)) .nil))) (.cons (.op .ix (.cons (.var 0) (.cons (.const (.int 0)) .nil))) .nil))) (.cons (.call 0 (.cons (.op .ix (.cons (.var 0) (.cons (.const (.int 2)) .nil))) .nil)) .nil))) (.cons (.const (.str ")")) .nil)))) .nil))) }
-- branch_text: cells ['words']
def D1 : DefT := { x := "branch_text", ps := ["branch"], N := ["branch", "words", "one"], st := top 2, body :=
  (.cons (.asg (.nm 1) (.cell (.disp false (.cons (.op .ix (.cons (.var 0) (.cons (.const (.int 1)) .nil))) (.cons (.op .ix (.cons (.var 0) (.cons (.const (.int 2)) .nil))) .nil))))) (.cons (.cond (.op .eq (.cons (.op .ix (.cons (.var 0) (.cons (.const (.int 1)) .nil))) (.cons (.const (.str "ask")) .nil))) (.cons (.ex (.app (.var 1) (.call 0 (.cons (.op .ix (.cons (.var 0) (.cons (.const (.int 3)) .nil))) .nil)))) .nil) (.cons (.ex (.ext (.var 1) (.comp [2] (.call 0 (.cons (.var 2) .nil)) (.nm 2) (.seq (.op .ix (.cons (.var 0) (.cons (.const (.int 3)) .nil)))) .nil))) .nil)) (.cons (.cond (.op .notN (.cons (.op .ix (.cons (.var 0) (.cons (.const (.int 0)) .nil))) .nil)) (.cons (.asg (.nm 1) (.cell (.op .add (.cons (.disp false (.cons (.op .ix (.cons (.var 0) (.cons (.const (.int 0)) .nil))) (.cons (.const (.str "=")) .nil))) (.cons (.var 1) .nil))))) .nil) .nil) (.cons (.ret (.meth .join (.const (.str " ")) (.cons (.var 1) .nil))) .nil)))) }
-- catch_text: cells []
def D2 : DefT := { x := "catch_text", ps := ["name"], N := ["name"], st := top 3, body :=
  (.cons (.cond (.op .isN (.cons (.var 0) .nil)) (.cons (.ret (.const (.str "catch"))) .nil) .nil) (.cons (.ret (.op .add (.cons (.const (.str "catch ")) (.cons (.var 0) .nil)))) .nil)) }
-- nest_lines: cells []
def D3 : DefT := { x := "nest_lines", ps := ["row"], N := ["row"], st := top 4, body :=
  (.cons (.cond (.op .eq (.cons (.op .ix (.cons (.var 0) (.cons (.const (.int 0)) .nil))) (.cons (.const (.str "if")) .nil))) (.cons (.ret (.op .add (.cons (.op .add (.cons (.op .add (.cons (.op .add (.cons (.disp false (.cons (.op .add (.cons (.const (.str "if ")) (.cons (.call 0 (.cons (.op .ix (.cons (.var 0) (.cons (.const (.int 1)) .nil))) .nil)) .nil))) .nil)) (.cons (.call 5 (.cons (.op .ix (.cons (.var 0) (.cons (.const (.int 2)) .nil))) .nil)) .nil))) (.cons (.disp false (.cons (.const (.str "else")) .nil)) .nil))) (.cons (.call 5 (.cons (.op .ix (.cons (.var 0) (.cons (.const (.int 3)) .nil))) .nil)) .nil))) (.cons (.disp false (.cons (.const (.str "end")) .nil)) .nil)))) .nil) .nil) (.cons (.cond (.op .eq (.cons (.op .ix (.cons (.var 0) (.cons (.const (.int 0)) .nil))) (.cons (.const (.str "while")) .nil))) (.cons (.ret (.op .add (.cons (.op .add (.cons (.disp false (.cons (.op .add (.cons (.const (.str "while ")) (.cons (.call 0 (.cons (.op .ix (.cons (.var 0) (.cons (.const (.int 1)) .nil))) .nil)) .nil))) .nil)) (.cons (.call 5 (.cons (.op .ix (.cons (.var 0) (.cons (.const (.int 2)) .nil))) .nil)) .nil))) (.cons (.disp false (.cons (.const (.str "end")) .nil)) .nil)))) .nil) .nil) (.cons (.cond (.op .eq (.cons (.op .ix (.cons (.var 0) (.cons (.const (.int 0)) .nil))) (.cons (.const (.str "try")) .nil))) (.cons (.ret (.op .add (.cons (.op .add (.cons (.op .add (.cons (.op .add (.cons (.disp false (.cons (.const (.str "try")) .nil)) (.cons (.call 5 (.cons (.op .ix (.cons (.var 0) (.cons (.const (.int 1)) .nil))) .nil)) .nil))) (.cons (.disp false (.cons (.call 2 (.cons (.op .ix (.cons (.var 0) (.cons (.const (.int 2)) .nil))) .nil)) .nil)) .nil))) (.cons (.call 5 (.cons (.op .ix (.cons (.var 0) (.cons (.const (.int 3)) .nil))) .nil)) .nil))) (.cons (.disp false (.cons (.const (.str "end")) .nil)) .nil)))) .nil) .nil) (.cons (.ret (.op .add (.cons (.op .add (.cons (.op .add (.cons (.op .add (.cons (.disp false (.cons (.const (.str "do")) .nil)) (.cons (.call 5 (.cons (.op .ix (.cons (.var 0) (.cons (.const (.int 1)) .nil))) .nil)) .nil))) (.cons (.disp false (.cons (.const (.str "undo")) .nil)) .nil))) (.cons (.call 5 (.cons (.op .ix (.cons (.var 0) (.cons (.const (.int 2)) .nil))) .nil)) .nil))) (.cons (.disp false (.cons (.const (.str "end")) .nil)) .nil)))) .nil)))) }
-- row_lines: cells []
def D4 : DefT := { x := "row_lines", ps := ["row"], N := ["row", "branch"], st := top 5, body :=
  (.cons (.cond (.op .eq (.cons (.op .ix (.cons (.var 0) (.cons (.const (.int 0)) .nil))) (.cons (.const (.str "set")) .nil))) (.cons (.ret (.disp false (.cons (.op .add (.cons (.op .add (.cons (.op .add (.cons (.const (.str "set ")) (.cons (.op .ix (.cons (.var 0) (.cons (.const (.int 1)) .nil))) .nil))) (.cons (.const (.str " ")) .nil))) (.cons (.call 0 (.cons (.op .ix (.cons (.var 0) (.cons (.const (.int 2)) .nil))) .nil)) .nil))) .nil))) .nil) .nil) (.cons (.cond (.op .eq (.cons (.op .ix (.cons (.var 0) (.cons (.const (.int 0)) .nil))) (.cons (.const (.str "want")) .nil))) (.cons (.ret (.op .add (.cons (.op .add (.cons (.disp false (.cons (.op .add (.cons (.const (.str "want ")) (.cons (.op .str (.cons (.op .ix (.cons (.var 0) (.cons (.const (.int 1)) .nil))) .nil)) .nil))) .nil)) (.cons (.comp [1] (.call 1 (.cons (.var 1) .nil)) (.nm 1) (.seq (.op .ix (.cons (.var 0) (.cons (.const (.int 2)) .nil)))) .nil) .nil))) (.cons (.disp false (.cons (.const (.str "end")) .nil)) .nil)))) .nil) .nil) (.cons (.cond (.op .inn (.cons (.op .ix (.cons (.var 0) (.cons (.const (.int 0)) .nil))) (.cons (.disp true (.cons (.const (.str "tell")) (.cons (.const (.str "give")) (.cons (.const (.str "fail")) .nil)))) .nil))) (.cons (.ret (.disp false (.cons (.op .add (.cons (.op .add (.cons (.op .ix (.cons (.var 0) (.cons (.const (.int 0)) .nil))) (.cons (.const (.str " ")) .nil))) (.cons (.call 0 (.cons (.op .ix (.cons (.var 0) (.cons (.const (.int 1)) .nil))) .nil)) .nil))) .nil))) .nil) .nil) (.cons (.ret (.call 3 (.cons (.var 0) .nil))) .nil)))) }
def B5_0 : Ss := (.cons (.ex (.ext (.var 1) (.call 4 (.cons (.var 2) .nil)))) .nil)
-- block_lines: cells ['found']
def D5 : DefT := { x := "block_lines", ps := ["block"], N := ["block", "found", "row"], st := top 6, body :=
  (.cons (.asg (.nm 1) (.cell (.disp false .nil))) (.cons (.each (.nm 2) (.seq (.var 0)) B5_0) (.cons (.ret (.var 1)) .nil))) }
-- errand_lines: cells []
def D6 : DefT := { x := "errand_lines", ps := ["errand"], N := ["errand"], st := top 7, body :=
  (.cons (.ret (.op .add (.cons (.op .add (.cons (.disp false (.cons (.meth .join (.const (.str " ")) (.cons (.op .add (.cons (.disp false (.cons (.const (.str "errand")) (.cons (.op .ix (.cons (.var 0) (.cons (.const (.int 0)) .nil))) .nil))) (.cons (.op .list (.cons (.op .ix (.cons (.var 0) (.cons (.const (.int 1)) .nil))) .nil)) .nil))) .nil)) .nil)) (.cons (.call 5 (.cons (.op .ix (.cons (.var 0) (.cons (.const (.int 2)) .nil))) .nil)) .nil))) (.cons (.disp false (.cons (.const (.str "end")) .nil)) .nil)))) .nil) }
def B7_0 : Ss := (.cons (.ex (.ext (.var 1) (.call 6 (.cons (.var 2) .nil)))) .nil)
-- written: cells ['lines']
def D7 : DefT := { x := "written", ps := ["program"], N := ["program", "lines", "errand"], st := top 8, body :=
  (.cons (.asg (.nm 1) (.cell (.disp false .nil))) (.cons (.each (.nm 2) (.seq (.var 0)) B7_0) (.cons (.ret (.meth .join (.const (.str "\n")) (.cons (.var 1) .nil))) .nil))) }
def B8_0 : Ss := (.cons (.asg (.nm 4) (.op .mod (.cons (.op .mul (.cons (.op .add (.cons (.op .add (.cons (.op .add (.cons (.op .mod (.cons (.var 0) (.cons (.const (.int 2147483647)) .nil))) (.cons (.op .mul (.cons (.op .mul (.cons (.const (.int 977)) (.cons (.var 3) .nil))) (.cons (.var 3) .nil))) .nil))) (.cons (.op .mul (.cons (.const (.int 31)) (.cons (.var 3) .nil))) .nil))) (.cons (.const (.int 1)) .nil))) (.cons (.const (.int 48271)) .nil))) (.cons (.const (.int 2147483647)) .nil)))) (.cons (.asg (.nm 4) (.op .mod (.cons (.op .mul (.cons (.var 4) (.cons (.var 4) .nil))) (.cons (.const (.int 2147483647)) .nil)))) (.cons (.ex (.app (.var 1) (.op .mod (.cons (.op .fdiv (.cons (.op .mod (.cons (.op .mul (.cons (.op .add (.cons (.var 4) (.cons (.op .mul (.cons (.const (.int 40692)) (.cons (.op .add (.cons (.var 3) (.cons (.const (.int 3)) .nil))) .nil))) .nil))) (.cons (.const (.int 69621)) .nil))) (.cons (.const (.int 2147483629)) .nil))) (.cons (.const (.int 8)) .nil))) (.cons (.op .pow (.cons (.const (.int 10)) (.cons (.const (.int 6)) .nil))) .nil))))) .nil)))
def B8_1 : Ss := (.cons (.cond (.op .gt (.cons (.var 2) (.cons (.const (.int 0)) .nil))) (.cons (.ex (.app (.var 1) (.op .mod (.cons (.var 2) (.cons (.op .pow (.cons (.const (.int 10)) (.cons (.const (.int 6)) .nil))) .nil))))) (.cons (.asg (.nm 2) (.op .fdiv (.cons (.var 2) (.cons (.op .pow (.cons (.const (.int 10)) (.cons (.const (.int 6)) .nil))) .nil)))) .nil)) .nil) .nil)
-- _law_numbers: cells ['_law_found']
def D8 : DefT := { x := "_law_numbers", ps := ["_law_cell"], N := ["_law_cell", "_law_found", "_law_left", "_law_k", "_law_one"], st := top 10, body :=
  (.cons (.asg (.nm 1) (.cell (.disp false .nil))) (.cons (.asg (.nm 2) (.op .abs (.cons (.var 0) .nil))) (.cons (.cond (.op .ge (.cons (.var 2) (.cons (.op .pow (.cons (.const (.int 10)) (.cons (.const (.int 18)) .nil))) .nil))) (.cons (.each (.nm 3) (.range (.cons (.const (.int 60)) .nil)) B8_1) (.cons (.ret (.var 1)) .nil)) .nil) (.cons (.each (.nm 3) (.range (.cons (.const (.int 8)) .nil)) B8_0) (.cons (.ret (.var 1)) .nil))))) }
def B9_0 : Ss := (.cons (.asg (.nm 1) (.op .add (.cons (.var 1) (.cons (.call 8 (.cons (.var 2) .nil)) .nil)))) .nil)
-- _law_pot: cells []
def D9 : DefT := { x := "_law_pot", ps := ["_law_script"], N := ["_law_script", "_law_found", "_law_cell"], st := top 11, full := true, body :=
  (.cons (.asg (.nm 1) (.disp false .nil)) (.cons (.each (.nm 2) (.seq (.op (.slice false true) (.cons (.var 0) (.cons (.const (.int 63)) .nil)))) B9_0) (.cons (.cond (.op .eq (.cons (.var 1) (.cons (.disp false .nil) .nil))) (.cons (.asg (.nm 1) (.call 8 (.cons (.const (.int 0)) .nil))) .nil) .nil) (.cons (.ret (.cell (.disp false (.cons (.var 1) (.cons (.const (.int 0)) (.cons (.op .mod (.cons (.op .add (.cons (.const (.int 7919)) (.cons (.op .mul (.cons (.const (.int 40693)) (.cons (.op .sum (.cons (.var 1) .nil)) .nil))) .nil))) (.cons (.const (.int 2147483629)) .nil))) .nil)))))) .nil)))) }
-- _law_take: cells ['_law_pot_here']
def D10 : DefT := { x := "_law_take", ps := ["_law_pot_here", "_law_many"], N := ["_law_pot_here", "_law_many", "_law_at"], st := top 12, mt := [0], body :=
  (.cons (.asg (.nm 2) (.op .ix (.cons (.var 0) (.cons (.const (.int 1)) .nil)))) (.cons (.seti (.var 0) (.const (.int 1)) (.op .add (.cons (.var 2) (.cons (.const (.int 1)) .nil)))) (.cons (.cond (.op .lt (.cons (.var 2) (.cons (.op .len (.cons (.op .ix (.cons (.var 0) (.cons (.const (.int 0)) .nil))) .nil)) .nil))) (.cons (.ret (.op .mod (.cons (.op .ix (.cons (.op .ix (.cons (.var 0) (.cons (.const (.int 0)) .nil))) (.cons (.var 2) .nil))) (.cons (.var 1) .nil)))) .nil) .nil) (.cons (.seti (.var 0) (.const (.int 2)) (.op .mod (.cons (.op .add (.cons (.op .add (.cons (.op .mul (.cons (.op .ix (.cons (.var 0) (.cons (.const (.int 2)) .nil))) (.cons (.op .ix (.cons (.var 0) (.cons (.const (.int 2)) .nil))) .nil))) (.cons (.const (.int 40692)) .nil))) (.cons (.var 2) .nil))) (.cons (.const (.int 2147483629)) .nil)))) (.cons (.ret (.op .mod (.cons (.op .mod (.cons (.op .fdiv (.cons (.op .ix (.cons (.var 0) (.cons (.const (.int 2)) .nil))) (.cons (.const (.int 8)) .nil))) (.cons (.op .pow (.cons (.const (.int 10)) (.cons (.const (.int 6)) .nil))) .nil))) (.cons (.var 1) .nil)))) .nil))))) }
def B11_0 : Ss := (.cons (.asg (.nm 2) (.op .add (.cons (.var 2) (.cons (.op .ix (.cons (.const (.str "abcdefghijklmnopqrstuvwxyz")) (.cons (.call 10 (.cons (.var 0) (.cons (.const (.int 26)) .nil))) .nil))) .nil)))) .nil)
-- _law_word: cells ['_law_pot_here']
def D11 : DefT := { x := "_law_word", ps := ["_law_pot_here"], N := ["_law_pot_here", "_law_way", "_law_found", "_law_k"], st := top 13, mt := [0], body :=
  (.cons (.asg (.nm 1) (.call 10 (.cons (.var 0) (.cons (.const (.int 4)) .nil)))) (.cons (.cond (.op .eq (.cons (.var 1) (.cons (.const (.int 0)) .nil))) (.cons (.ret (.op .ix (.cons (.disp false (.cons (.const (.str "end")) (.cons (.const (.str "ask")) (.cons (.const (.str "call")) (.cons (.const (.str "set")) (.cons (.const (.str "if")) (.cons (.const (.str "errand")) (.cons (.const (.str "catch")) (.cons (.const (.str "undo")) (.cons (.const (.str "else")) (.cons (.const (.str "want")) (.cons (.const (.str "try")) (.cons (.const (.str "do")) (.cons (.const (.str "tell")) (.cons (.const (.str "give")) (.cons (.const (.str "fail")) (.cons (.const (.str "while")) .nil))))))))))))))))) (.cons (.call 10 (.cons (.var 0) (.cons (.const (.int 16)) .nil))) .nil)))) .nil) .nil) (.cons (.cond (.op .eq (.cons (.var 1) (.cons (.const (.int 1)) .nil))) (.cons (.ret (.op (.slice false true) (.cons (.const (.str "aaaaaaaa")) (.cons (.op .add (.cons (.const (.int 1)) (.cons (.call 10 (.cons (.var 0) (.cons (.const (.int 8)) .nil))) .nil))) .nil)))) .nil) .nil) (.cons (.asg (.nm 2) (.const (.str ""))) (.cons (.each (.nm 3) (.range (.cons (.op .ix (.cons (.disp false (.cons (.const (.int 1)) (.cons (.op .add (.cons (.const (.int 1)) (.cons (.call 10 (.cons (.var 0) (.cons (.const (.int 8)) .nil))) .nil))) .nil))) (.cons (.op .sub (.cons (.var 1) (.cons (.const (.int 2)) .nil))) .nil))) .nil)) B11_0) (.cons (.ret (.var 2)) .nil)))))) }
def B12_0 : Ss := (.cons (.asg (.nm 4) (.call 11 (.cons (.var 0) .nil))) (.cons (.cond (.op .notin (.cons (.var 4) (.cons (.var 2) .nil))) (.cons (.ex (.app (.var 2) (.var 4))) .nil) .nil) .nil))
-- _law_words: cells ['_law_found', '_law_pot_here']
def D12 : DefT := { x := "_law_words", ps := ["_law_pot_here", "_law_many"], N := ["_law_pot_here", "_law_many", "_law_found", "_law_k", "_law_one"], st := top 14, mt := [0], body :=
  (.cons (.asg (.nm 2) (.cell (.disp false .nil))) (.cons (.each (.nm 3) (.range (.cons (.var 1) .nil)) B12_0) (.cons (.ret (.var 2)) .nil))) }
-- _law_worth: cells ['_law_pot_here']
def D13 : DefT := { x := "_law_worth", ps := ["_law_pot_here", "_law_names", "_law_deep"], N := ["_law_pot_here", "_law_names", "_law_deep", "_law_way", "_law_one", "_law_sign"], st := top 15, full := true, body :=
  (.cons (.asg (.nm 3) (.call 10 (.cons (.var 0) (.cons (.const (.int 6)) .nil)))) (.cons (.cond (.and (.op .gt (.cons (.var 2) (.cons (.const (.int 0)) .nil))) (.op .gt (.cons (.var 3) (.cons (.const (.int 2)) .nil)))) (.cons (.asg (.nm 5) (.op .ix (.cons (.const (.str "+-*<=")) (.cons (.call 10 (.cons (.var 0) (.cons (.const (.int 5)) .nil))) .nil)))) (.cons (.asg (.nm 4) (.call 13 (.cons (.var 0) (.cons (.var 1) (.cons (.op .sub (.cons (.var 2) (.cons (.const (.int 1)) .nil))) .nil))))) (.cons (.ret (.disp true (.cons (.var 5) (.cons (.var 4) (.cons (.call 13 (.cons (.var 0) (.cons (.var 1) (.cons (.op .sub (.cons (.var 2) (.cons (.const (.int 1)) .nil))) .nil)))) .nil))))) .nil))) .nil) (.cons (.cond (.and (.op .eq (.cons (.op .mod (.cons (.var 3) (.cons (.const (.int 2)) .nil))) (.cons (.const (.int 0)) .nil))) (.op .ne (.cons (.var 1) (.cons (.disp false .nil) .nil)))) (.cons (.ret (.op .ix (.cons (.var 1) (.cons (.call 10 (.cons (.var 0) (.cons (.op .len (.cons (.var 1) .nil)) .nil))) .nil)))) .nil) .nil) (.cons (.cond (.op .eq (.cons (.var 3) (.cons (.const (.int 1)) .nil))) (.cons (.ret (.call 10 (.cons (.var 0) (.cons (.const (.int 12)) .nil)))) .nil) .nil) (.cons (.cond (.op .eq (.cons (.var 3) (.cons (.const (.int 3)) .nil))) (.cons (.ret (.op .sub (.cons (.const (.int 1000000006)) (.cons (.call 10 (.cons (.var 0) (.cons (.const (.int 3)) .nil))) .nil)))) .nil) .nil) (.cons (.asg (.nm 4) (.call 10 (.cons (.var 0) (.cons (.op .pow (.cons (.const (.int 10)) (.cons (.const (.int 6)) .nil))) .nil)))) (.cons (.ret (.op .mod (.cons (.op .add (.cons (.op .mul (.cons (.var 4) (.cons (.op .pow (.cons (.const (.int 10)) (.cons (.const (.int 6)) .nil))) .nil))) (.cons (.call 10 (.cons (.var 0) (.cons (.op .pow (.cons (.const (.int 10)) (.cons (.const (.int 6)) .nil))) .nil))) .nil))) (.cons (.const (.int 1000000007)) .nil)))) .nil))))))) }
-- _law_branch: cells ['_law_pot_here']
def D14 : DefT := { x := "_law_branch", ps := ["_law_pot_here", "_law_room"], N := ["_law_pot_here", "_law_room", "_law_name", "_law_some", "_law_who", "_law_title", "_law_params", "_law_one"], st := top 16, full := true, body :=
  (.cons (.asg (.nm 2) (.op .ix (.cons (.op .add (.cons (.op .ix (.cons (.var 1) (.cons (.const (.int 0)) .nil))) (.cons (.disp false (.cons (.const .non) .nil)) .nil))) (.cons (.call 10 (.cons (.var 0) (.cons (.op .add (.cons (.op .len (.cons (.op .ix (.cons (.var 1) (.cons (.const (.int 0)) .nil))) .nil)) (.cons (.const (.int 1)) .nil))) .nil))) .nil)))) (.cons (.cond (.op .gt (.cons (.call 10 (.cons (.var 0) (.cons (.const (.int 3)) .nil))) (.cons (.const (.int 0)) .nil))) (.cons (.asg (.nm 4) (.call 11 (.cons (.var 0) .nil))) (.cons (.ret (.disp true (.cons (.var 2) (.cons (.const (.str "ask")) (.cons (.var 4) (.cons (.call 13 (.cons (.var 0) (.cons (.op .ix (.cons (.var 1) (.cons (.const (.int 0)) .nil))) (.cons (.call 10 (.cons (.var 0) (.cons (.const (.int 4)) .nil))) .nil)))) .nil)))))) .nil)) .nil) (.cons (.asg (.tup (.cons (.nm 5) (.cons (.nm 6) .nil))) (.op .ix (.cons (.op .ix (.cons (.var 1) (.cons (.const (.int 1)) .nil))) (.cons (.call 10 (.cons (.var 0) (.cons (.op .len (.cons (.op .ix (.cons (.var 1) (.cons (.const (.int 1)) .nil))) .nil)) .nil))) .nil)))) (.cons (.asg (.nm 3) (.comp [7] (.call 13 (.cons (.var 0) (.cons (.op .ix (.cons (.var 1) (.cons (.const (.int 0)) .nil))) (.cons (.call 10 (.cons (.var 0) (.cons (.const (.int 3)) .nil))) .nil)))) (.nm 7) (.seq (.var 6)) .nil)) (.cons (.ret (.disp true (.cons (.var 2) (.cons (.const (.str "call")) (.cons (.var 5) (.cons (.op .tuple (.cons (.var 3) .nil)) .nil)))))) .nil))))) }
-- _law_nest: cells ['_law_pot_here', '_law_room']
def D15 : DefT := { x := "_law_nest", ps := ["_law_pot_here", "_law_room", "_law_way", "_law_deep", "_law_undoing"], N := ["_law_pot_here", "_law_room", "_law_way", "_law_deep", "_law_undoing", "_law_one", "_law_first", "_law_name"], st := top 17, full := true, body :=
  (.cons (.cond (.op .eq (.cons (.var 2) (.cons (.const (.int 11)) .nil))) (.cons (.asg (.nm 6) (.call 17 (.cons (.var 0) (.cons (.var 1) (.cons (.var 3) (.cons (.var 4) .nil)))))) (.cons (.ret (.disp true (.cons (.const (.str "do")) (.cons (.var 6) (.cons (.call 17 (.cons (.var 0) (.cons (.var 1) (.cons (.var 3) (.cons (.const (.bl true)) .nil))))) .nil))))) .nil)) .nil) (.cons (.cond (.op .eq (.cons (.var 2) (.cons (.const (.int 10)) .nil))) (.cons (.asg (.nm 6) (.call 17 (.cons (.var 0) (.cons (.var 1) (.cons (.var 3) (.cons (.var 4) .nil)))))) (.cons (.asg (.nm 7) (.op .ix (.cons (.op .add (.cons (.op .ix (.cons (.var 1) (.cons (.const (.int 0)) .nil))) (.cons (.disp false (.cons (.const .non) .nil)) .nil))) (.cons (.call 10 (.cons (.var 0) (.cons (.op .add (.cons (.op .len (.cons (.op .ix (.cons (.var 1) (.cons (.const (.int 0)) .nil))) .nil)) (.cons (.const (.int 1)) .nil))) .nil))) .nil)))) (.cons (.ret (.disp true (.cons (.const (.str "try")) (.cons (.var 6) (.cons (.var 7) (.cons (.call 17 (.cons (.var 0) (.cons (.var 1) (.cons (.var 3) (.cons (.var 4) .nil))))) .nil)))))) .nil))) .nil) (.cons (.asg (.nm 5) (.call 13 (.cons (.var 0) (.cons (.op .ix (.cons (.var 1) (.cons (.const (.int 0)) .nil))) (.cons (.call 10 (.cons (.var 0) (.cons (.const (.int 3)) .nil))) .nil))))) (.cons (.asg (.nm 6) (.call 17 (.cons (.var 0) (.cons (.var 1) (.cons (.var 3) (.cons (.var 4) .nil)))))) (.cons (.cond (.op .eq (.cons (.var 2) (.cons (.const (.int 9)) .nil))) (.cons (.ret (.disp true (.cons (.const (.str "while")) (.cons (.var 5) (.cons (.var 6) .nil))))) .nil) .nil) (.cons (.ret (.disp true (.cons (.const (.str "if")) (.cons (.var 5) (.cons (.var 6) (.cons (.call 17 (.cons (.var 0) (.cons (.var 1) (.cons (.var 3) (.cons (.var 4) .nil))))) .nil)))))) .nil)))))) }
def B16_0 : Ss := (.cons (.ex (.app (.var 6) (.call 14 (.cons (.var 0) (.cons (.var 1) .nil))))) .nil)
-- _law_row: cells ['_law_branches', '_law_pot_here', '_law_room']
def D16 : DefT := { x := "_law_row", ps := ["_law_pot_here", "_law_room", "_law_deep", "_law_undoing"], N := ["_law_pot_here", "_law_room", "_law_deep", "_law_undoing", "_law_way", "_law_one", "_law_branches", "_law_k"], st := top 18, full := true, body :=
  (.cons (.seti (.var 1) (.const (.int 2)) (.op .sub (.cons (.op .ix (.cons (.var 1) (.cons (.const (.int 2)) .nil))) (.cons (.const (.int 1)) .nil)))) (.cons (.asg (.nm 4) (.call 10 (.cons (.var 0) (.cons (.const (.int 12)) .nil)))) (.cons (.cond (.op .lt (.cons (.var 4) (.cons (.const (.int 3)) .nil))) (.cons (.asg (.nm 6) (.cell (.disp false .nil))) (.cons (.each (.nm 7) (.range (.cons (.op .add (.cons (.const (.int 1)) (.cons (.call 10 (.cons (.var 0) (.cons (.const (.int 4)) .nil))) .nil))) .nil)) B16_0) (.cons (.ret (.disp true (.cons (.const (.str "want")) (.cons (.op .add (.cons (.const (.int 1)) (.cons (.call 10 (.cons (.var 0) (.cons (.op .len (.cons (.var 6) .nil)) .nil))) .nil))) (.cons (.op .tuple (.cons (.var 6) .nil)) .nil))))) .nil))) .nil) (.cons (.cond (.op .gt (.cons (.var 4) (.cons (.const (.int 7)) .nil))) (.cons (.ret (.call 15 (.cons (.var 0) (.cons (.var 1) (.cons (.var 4) (.cons (.op .sub (.cons (.var 2) (.cons (.const (.int 1)) .nil))) (.cons (.var 3) .nil))))))) .nil) .nil) (.cons (.asg (.nm 5) (.call 13 (.cons (.var 0) (.cons (.op .ix (.cons (.var 1) (.cons (.const (.int 0)) .nil))) (.cons (.call 10 (.cons (.var 0) (.cons (.const (.int 4)) .nil))) .nil))))) (.cons (.cond (.and (.op .lt (.cons (.var 4) (.cons (.const (.int 5)) .nil))) (.op .ne (.cons (.op .ix (.cons (.var 1) (.cons (.const (.int 0)) .nil))) (.cons (.disp false .nil) .nil)))) (.cons (.ret (.disp true (.cons (.const (.str "set")) (.cons (.op .ix (.cons (.op .ix (.cons (.var 1) (.cons (.const (.int 0)) .nil))) (.cons (.call 10 (.cons (.var 0) (.cons (.op .len (.cons (.op .ix (.cons (.var 1) (.cons (.const (.int 0)) .nil))) .nil)) .nil))) .nil))) (.cons (.var 5) .nil))))) .nil) .nil) (.cons (.cond (.and (.op .eq (.cons (.var 4) (.cons (.const (.int 5)) .nil))) (.not (.var 3))) (.cons (.ret (.disp true (.cons (.const (.str "give")) (.cons (.var 5) .nil)))) .nil) .nil) (.cons (.ret (.disp true (.cons (.op .ix (.cons (.disp false (.cons (.const (.str "tell")) (.cons (.const (.str "fail")) .nil))) (.cons (.op .int (.cons (.op .eq (.cons (.var 4) (.cons (.const (.int 6)) .nil))) .nil)) .nil))) (.cons (.var 5) .nil)))) .nil)))))))) }
def B17_0 : Ss := (.cons (.cond (.op .gt (.cons (.op .ix (.cons (.var 1) (.cons (.const (.int 2)) .nil))) (.cons (.const (.int 0)) .nil))) (.cons (.ex (.app (.var 4) (.call 16 (.cons (.var 0) (.cons (.var 1) (.cons (.var 2) (.cons (.var 3) .nil))))))) .nil) .nil) .nil)
-- _law_block: cells ['_law_pot_here', '_law_room', '_law_rows']
def D17 : DefT := { x := "_law_block", ps := ["_law_pot_here", "_law_room", "_law_deep", "_law_undoing"], N := ["_law_pot_here", "_law_room", "_law_deep", "_law_undoing", "_law_rows", "_law_k"], st := top 19, full := true, body :=
  (.cons (.asg (.nm 4) (.cell (.disp false .nil))) (.cons (.cond (.op .gt (.cons (.var 2) (.cons (.const (.int 0)) .nil))) (.cons (.each (.nm 5) (.range (.cons (.op .ix (.cons (.disp false (.cons (.const (.int 0)) (.cons (.const (.int 1)) (.cons (.const (.int 2)) (.cons (.const (.int 3)) (.cons (.const (.int 1)) (.cons (.const (.int 2)) (.cons (.const (.int 8)) .nil)))))))) (.cons (.call 10 (.cons (.var 0) (.cons (.const (.int 7)) .nil))) .nil))) .nil)) B17_0) .nil) .nil) (.cons (.ret (.op .tuple (.cons (.var 4) .nil))) .nil))) }
def B18_0 : Ss := (.cons (.cond (.op .notin (.cons (.var 8) (.cons (.var 7) .nil))) (.cons (.ex (.app (.var 7) (.var 8))) .nil) .nil) .nil)
def B18_1 : Ss := (.cons (.asg (.nm 7) (.cell (.op .list (.cons (.var 6) .nil)))) (.cons (.each (.nm 8) (.seq (.call 12 (.cons (.var 0) (.cons (.call 10 (.cons (.var 0) (.cons (.const (.int 4)) .nil))) .nil)))) B18_0) (.cons (.asg (.nm 9) (.cell (.disp false (.cons (.var 7) (.cons (.var 3) (.cons (.op .min (.cons (.const (.int 24)) (.cons (.var 2) .nil))) .nil)))))) (.cons (.asg (.nm 2) (.op .sub (.cons (.var 2) (.cons (.op .ix (.cons (.var 9) (.cons (.const (.int 2)) .nil))) .nil)))) (.cons (.ex (.app (.var 5) (.disp true (.cons (.var 4) (.cons (.var 6) (.cons (.call 17 (.cons (.var 0) (.cons (.var 9) (.cons (.const (.int 4)) (.cons (.const (.bl false)) .nil))))) .nil)))))) (.cons (.asg (.nm 2) (.op .add (.cons (.var 2) (.cons (.op .ix (.cons (.var 9) (.cons (.const (.int 2)) .nil))) .nil)))) .nil))))))
def B18_2 : Ss := (.cons (.ex (.app (.var 3) (.disp true (.cons (.var 4) (.cons (.op .tuple (.cons (.call 12 (.cons (.var 0) (.cons (.call 10 (.cons (.var 0) (.cons (.const (.int 4)) .nil))) .nil))) .nil)) .nil))))) .nil)
-- _law_program: cells ['_law_errands', '_law_heads', '_law_names', '_law_pot_here', '_law_room']
def D18 : DefT := { x := "_law_program", ps := ["_law_pot_here", "_law_most", "_law_left"], N := ["_law_pot_here", "_law_most", "_law_left", "_law_heads", "_law_title", "_law_errands", "_law_params", "_law_names", "_law_name", "_law_room"], st := top 20, mt := [0], body :=
  (.cons (.asg (.nm 3) (.cell (.disp false .nil))) (.cons (.each (.nm 4) (.seq (.call 12 (.cons (.var 0) (.cons (.op .add (.cons (.const (.int 1)) (.cons (.call 10 (.cons (.var 0) (.cons (.var 1) .nil))) .nil))) .nil)))) B18_2) (.cons (.asg (.nm 5) (.cell (.disp false .nil))) (.cons (.each (.tup (.cons (.nm 4) (.cons (.nm 6) .nil))) (.seq (.var 3)) B18_1) (.cons (.ret (.op .tuple (.cons (.var 5) .nil))) .nil))))) }
-- _law_worth_text: cells []
def D19 : DefT := { x := "_law_worth_text", ps := ["_law_one"], N := ["_law_one"], st := top 21, body :=
  (.cons (.cond (.op (.isT .tuple) (.cons (.var 0) .nil)) (.cons (.ret (.op .add (.cons (.op .add (.cons (.op .add (.cons (.op .add (.cons (.const (.str "(")) (.cons (.call 19 (.cons (.op .ix (.cons (.var 0) (.cons (.const (.int 1)) .nil))) .nil)) .nil))) (.cons (.op .ix (.cons (.var 0) (.cons (.const (.int 0)) .nil))) .nil))) (.cons (.call 19 (.cons (.op .ix (.cons (.var 0) (.cons (.const (.int 2)) .nil))) .nil)) .nil))) (.cons (.const (.str ")")) .nil)))) .nil) .nil) (.cons (.ret (.op .str (.cons (.var 0) .nil))) .nil)) }
def B20_0 : Ss := (.cons (.asg (.nm 1) (.op .add (.cons (.op .add (.cons (.var 1) (.cons (.const (.str " ")) .nil))) (.cons (.call 19 (.cons (.var 2) .nil)) .nil)))) .nil)
-- _law_branch_text: cells []
def D20 : DefT := { x := "_law_branch_text", ps := ["_law_branch_here"], N := ["_law_branch_here", "_law_found", "_law_one", "_law_name", "_law_word_here", "_law_whom", "_law_some"], st := top 22, body :=
  (.cons (.asg (.tup (.cons (.nm 3) (.cons (.nm 4) (.cons (.nm 5) (.cons (.nm 6) .nil))))) (.var 0)) (.cons (.cond (.op .eq (.cons (.var 4) (.cons (.const (.str "ask")) .nil))) (.cons (.asg (.nm 6) (.disp true (.cons (.var 6) .nil))) .nil) .nil) (.cons (.asg (.nm 1) (.op .add (.cons (.op .add (.cons (.var 4) (.cons (.const (.str " ")) .nil))) (.cons (.var 5) .nil)))) (.cons (.each (.nm 2) (.seq (.var 6)) B20_0) (.cons (.cond (.op .isN (.cons (.var 3) .nil)) (.cons (.ret (.var 1)) .nil) .nil) (.cons (.ret (.op .add (.cons (.op .add (.cons (.var 3) (.cons (.const (.str " = ")) .nil))) (.cons (.var 1) .nil)))) .nil)))))) }
def B21_0 : Ss := (.cons (.ex (.app (.var 1) (.call 20 (.cons (.var 5) .nil)))) .nil)
def B21_1 : Ss := (.cons (.asg (.nm 3) (.op .ix (.cons (.var 2) (.cons (.const (.int 0)) .nil)))) (.cons (.asg (.nm 4) (.var 3)) (.cons (.cond (.op .eq (.cons (.var 3) (.cons (.const (.str "set")) .nil))) (.cons (.asg (.nm 4) (.op .add (.cons (.op .add (.cons (.var 4) (.cons (.const (.str " ")) .nil))) (.cons (.op .ix (.cons (.var 2) (.cons (.const (.int 1)) .nil))) .nil)))) .nil) .nil) (.cons (.cond (.op .notin (.cons (.var 3) (.cons (.disp false (.cons (.const (.str "try")) (.cons (.const (.str "do")) (.cons (.const (.str "want")) .nil)))) .nil))) (.cons (.asg (.nm 4) (.op .add (.cons (.op .add (.cons (.var 4) (.cons (.const (.str " ")) .nil))) (.cons (.call 19 (.cons (.op .ix (.cons (.var 2) (.cons (.op .ix (.cons (.disp false (.cons (.const (.int 1)) (.cons (.const (.int 2)) .nil))) (.cons (.op .int (.cons (.op .eq (.cons (.var 3) (.cons (.const (.str "set")) .nil))) .nil)) .nil))) .nil))) .nil)) .nil)))) .nil) .nil) (.cons (.cond (.op .eq (.cons (.var 3) (.cons (.const (.str "want")) .nil))) (.cons (.ex (.app (.var 1) (.op .add (.cons (.op .add (.cons (.var 4) (.cons (.const (.str " ")) .nil))) (.cons (.op .str (.cons (.op .ix (.cons (.var 2) (.cons (.const (.int 1)) .nil))) .nil)) .nil))))) (.cons (.each (.nm 5) (.seq (.op .ix (.cons (.var 2) (.cons (.const (.int 2)) .nil)))) B21_0) (.cons (.asg (.nm 4) (.const (.str "end"))) .nil))) .nil) (.cons (.ex (.app (.var 1) (.var 4))) (.cons (.cond (.op .inn (.cons (.var 3) (.cons (.disp false (.cons (.const (.str "if")) (.cons (.const (.str "while")) .nil))) .nil))) (.cons (.asg (.nm 1) (.cell (.op .add (.cons (.var 1) (.cons (.call 21 (.cons (.op .ix (.cons (.var 2) (.cons (.const (.int 2)) .nil))) .nil)) .nil))))) .nil) .nil) (.cons (.cond (.op .inn (.cons (.var 3) (.cons (.disp false (.cons (.const (.str "try")) (.cons (.const (.str "do")) .nil))) .nil))) (.cons (.asg (.nm 1) (.cell (.op .add (.cons (.var 1) (.cons (.call 21 (.cons (.op .ix (.cons (.var 2) (.cons (.const (.int 1)) .nil))) .nil)) .nil))))) .nil) .nil) (.cons (.cond (.op .inn (.cons (.var 3) (.cons (.disp false (.cons (.const (.str "if")) (.cons (.const (.str "try")) (.cons (.const (.str "do")) .nil)))) .nil))) (.cons (.asg (.nm 4) (.op .ix (.cons (.disp false (.cons (.const (.str "else")) (.cons (.const (.str "catch")) (.cons (.const (.str "undo")) .nil)))) (.cons (.meth .index (.disp false (.cons (.const (.str "if")) (.cons (.const (.str "try")) (.cons (.const (.str "do")) .nil)))) (.cons (.var 3) .nil)) .nil)))) (.cons (.cond (.and (.op .eq (.cons (.var 3) (.cons (.const (.str "try")) .nil))) (.op .notN (.cons (.op .ix (.cons (.var 2) (.cons (.const (.int 2)) .nil))) .nil))) (.cons (.asg (.nm 4) (.op .add (.cons (.op .add (.cons (.var 4) (.cons (.const (.str " ")) .nil))) (.cons (.op .ix (.cons (.var 2) (.cons (.const (.int 2)) .nil))) .nil)))) .nil) .nil) (.cons (.asg (.nm 1) (.cell (.op .add (.cons (.op .add (.cons (.var 1) (.cons (.disp false (.cons (.var 4) .nil)) .nil))) (.cons (.call 21 (.cons (.op .ix (.cons (.var 2) (.cons (.op .neg (.cons (.const (.int 1)) .nil)) .nil))) .nil)) .nil))))) .nil))) .nil) (.cons (.cond (.op .inn (.cons (.var 3) (.cons (.disp false (.cons (.const (.str "if")) (.cons (.const (.str "while")) (.cons (.const (.str "try")) (.cons (.const (.str "do")) .nil))))) .nil))) (.cons (.ex (.app (.var 1) (.const (.str "end")))) .nil) .nil) .nil))))))))))
-- _law_rows_text: cells ['_law_found']
def D21 : DefT := { x := "_law_rows_text", ps := ["_law_block_here"], N := ["_law_block_here", "_law_found", "_law_row_here", "_law_word_here", "_law_line", "_law_branch_here"], st := top 23, body :=
  (.cons (.asg (.nm 1) (.cell (.disp false .nil))) (.cons (.each (.nm 2) (.seq (.var 0)) B21_1) (.cons (.ret (.var 1)) .nil))) }
def B22_0 : Ss := (.cons (.ex (.app (.var 1) (.meth .join (.const (.str " ")) (.cons (.op .add (.cons (.disp false (.cons (.const (.str "errand")) (.cons (.var 2) .nil))) (.cons (.op .list (.cons (.var 3) .nil)) .nil))) .nil)))) (.cons (.asg (.nm 1) (.cell (.op .add (.cons (.op .add (.cons (.var 1) (.cons (.call 21 (.cons (.var 4) .nil)) .nil))) (.cons (.disp false (.cons (.const (.str "end")) .nil)) .nil))))) .nil))
-- _law_lines: cells ['_law_found']
def D22 : DefT := { x := "_law_lines", ps := ["_law_program_here"], N := ["_law_program_here", "_law_found", "_law_title", "_law_params", "_law_block_here"], st := top 24, body :=
  (.cons (.asg (.nm 1) (.cell (.disp false .nil))) (.cons (.each (.tup (.cons (.nm 2) (.cons (.nm 3) (.cons (.nm 4) .nil)))) (.seq (.var 0)) B22_0) (.cons (.ret (.var 1)) .nil))) }
-- law: cells []
def D23 : DefT := { x := "law", ps := ["_law_script"], N := ["_law_script", "_law_program_here", "_law_found", "_law_turned"], st := top 25, body :=
  (.cons (.asg (.nm 1) (.call 18 (.cons (.call 9 (.cons (.var 0) .nil)) (.cons (.const (.int 6)) (.cons (.const (.int 26)) .nil))))) (.cons (.asg (.nm 2) (.call 7 (.cons (.var 1) .nil))) (.cons (.cond (.or (.not (.op (.isT .str) (.cons (.var 2) .nil))) (.op .ne (.cons (.meth .split (.var 2) (.cons (.const (.str "\n")) .nil)) (.cons (.call 22 (.cons (.var 1) .nil)) .nil)))) (.cons (.ret (.const (.bl false))) .nil) .nil) (.cons (.asg (.nm 3) (.op .revT (.cons (.var 1) .nil))) (.cons (.cond (.op .ne (.cons (.call 7 (.cons (.var 3) .nil)) (.cons (.meth .join (.const (.str "\n")) (.cons (.call 22 (.cons (.var 3) .nil)) .nil)) .nil))) (.cons (.ret (.const (.bl false))) .nil) .nil) (.cons (.ret (.op .eq (.cons (.callk 7 [0] (.cons (.var 1) .nil)) (.cons (.var 2) .nil)))) .nil)))))) }
def T : Txt1 := { defs := [D0, D1, D2, D3, D4, D5, D6, D7, D8, D9, D10, D11, D12, D13, D14, D15, D16, D17, D18, D19, D20, D21, D22, D23], glb := [], kws := [(7, ["program"], [0])] }
theorem T_ok : T.ok = true := by decide +kernel
end K07
namespace K07
open PySem PySem.Spec PyProof.Rows L2 Rs
/-- a text without a line's end, n signs long at most -/
def Tx (n : Nat) (s : Str) : Prop := s.length ≤ n ∧ (∀ c ∈ s.cps.toList, c < 0x110000 ∧ c ≠ 10)
def txB (n : Nat) (s : Str) : Bool := decide (s.length ≤ n) && s.cps.toList.all fun c => decide (c < 0x110000) && decide (c ≠ 10)
theorem tx_of {n : Nat} {s : Str} (h : txB n s = true) : Tx n s := by
  unfold txB at h
  simp only [Bool.and_eq_true, decide_eq_true_eq, List.all_eq_true] at h
  exact h
theorem Tx.mono {m n : Nat} {s : Str} (h : Tx m s) (hm : m ≤ n) : Tx n s := ⟨Nat.le_trans h.1 hm, h.2⟩
theorem len_app (a b : Str) : (a ++ b).length = a.length + b.length := Str.length_append a b
theorem Tx.app {m n : Nat} {a b : Str} (h : Tx m a) (h2 : Tx n b) : Tx (m + n) (a ++ b) := by
  refine ⟨by rw [len_app]; have := h.1; have := h2.1; omega, fun c hc => ?_⟩
  have e : (a ++ b).cps.toList = a.cps.toList ++ b.cps.toList := TL.tl_append a b
  rw [e] at hc
  exact (List.mem_append.mp hc).elim (h.2 c) (h2.2 c)
theorem Tx.ok {n : Nat} {s : Str} (h : Tx n s) : PyData.canLay0 (.str s) = true := by
  simp only [PyData.canLay0, PyData.strOk, Array.all_eq_true', decide_eq_true_eq]
  intro c hc
  exact (h.2 c (Array.mem_toList_iff.mpr hc)).1
theorem sl24 : sizeLine = 16777216 := by decide +kernel
theorem fr_str (M : Mem) (n : Nat) (s : Str) : frz M n (.str s) = some (.str s) := by cases n <;> rfl
theorem fr_int (M : Mem) (n : Nat) (s : Int) : frz M n (.int s) = some (.int s) := by cases n <;> rfl
theorem fr_bl (M : Mem) (n : Nat) (s : Bool) : frz M n (.bl s) = some (.bl s) := by cases n <;> rfl
theorem fr_non (M : Mem) (n : Nat) : frz M n .non = some .non := by cases n <;> rfl
theorem fr_scr (M : Mem) (n : Nat) (s : List Int) : frz M n (.scr s) = some (.scr s) := by cases n <;> rfl
theorem fr_nil (M : Mem) : frz M dpt (.lst []) = some (.lst []) := rfl
theorem fr_strs (M : Mem) (l : List Str) : frz M dpt (.lst (l.map .str)) = some (.lst (l.map .str)) := frz_flat _ (flats_strs l)
theorem fr_ints (M : Mem) (l : List Int) : frz M dpt (.lst (l.map .int)) = some (.lst (l.map .int)) := frz_flat _ (flats_ints l)
theorem eq_int (a b : Int) : eqD (.int a) (.int b) = some (a == b) := rfl
theorem sh_int (M : Mem) (a : Int) : sh M (.int a) = .int a := rfl
theorem sh_str (M : Mem) (a : Str) : sh M (.str a) = .str a := rfl
theorem sh_bl (M : Mem) (a : Bool) : sh M (.bl a) = .bl a := rfl
theorem sh_non (M : Mem) : sh M .non = .non := rfl
theorem sh_lst (M : Mem) (a : List I) : sh M (.lst a) = .lst a := rfl
theorem sh_tup (M : Mem) (a : List I) : sh M (.tup a) = .tup a := rfl
theorem sh_obj {M : Mem} {n : Nat} {a : List I} (h : M[n]? = some (.lst a)) : sh M (.obj n) = .lst a := by
  show (match M[n]? with
    | some (.lst xs) => I.lst xs
    | some (.dic ks xs) => .dic ks xs
    | some (.dit ks xs) => .dit ks xs
    | _ => .obj n) = _
  rw [h]
theorem atI_mem {α : Type} {xs : List α} {k : Int} (h0 : 0 ≤ k) (h1 : k < (xs.length : Int)) : ∃ x, atI xs k = some x ∧ x ∈ xs := by
  have hk : k.toNat < xs.length := by omega
  refine ⟨xs[k.toNat], ?_, List.getElem_mem hk⟩
  simp [atI, ixN, h0, h1, hk]
def Sml (l : List Str) : Prop := l.length ≤ 100
def pot (L : List Int) (a s : Int) : Cell := .lst [.lst (L.map .int), .int a, .int s]
def PotOk (c : Cell) : Prop := ∃ (L : List Int) (a s : Int), c = pot L a s ∧ 0 ≤ a ∧ 0 ≤ s ∧ s < 2147483629
theorem PotOk.flat {c : Cell} (h : PotOk c) : c.flat = true := by
  obtain ⟨L, a, s, rfl, _⟩ := h
  show (I.flats (L.map .int) && true) = true
  rw [flats_ints]; rfl
theorem PotOk.frz {c : Cell} (h : PotOk c) (M : Mem) : frzC M c = some c := by
  have := h.flat
  obtain ⟨L, a, s, rfl, _⟩ := h
  exact frzC_lst this
theorem l8 : Nat.log2 8 < 9000 := by decide +kernel
theorem l6 : Nat.log2 1000000 < 9000 := by decide +kernel
theorem log_lt {a : Int} {n : Nat} (h0 : 0 ≤ a) (h : a < 2 ^ n) (hn : 0 < n) : a.natAbs.log2 < n := by
  by_cases h1 : a.natAbs = 0
  · rw [h1]; simpa using hn
  · rw [Nat.log2_lt h1]
    have e : (a.natAbs : Int) = a := Int.natAbs_of_nonneg h0
    have : ((a.natAbs : Nat) : Int) < ((2 ^ n : Nat) : Int) := by rw [e]; simpa using h
    exact Int.ofNat_lt.mp this
theorem P10 : T.P 10 = some D10.fn := rfl
theorem P11 : T.P 11 = some D11.fn := rfl
theorem P12 : T.P 12 = some D12.fn := rfl
set_option maxHeartbeats 4000000 in
theorem take_ok {W F p : Nat} {c : Cell} {many : Int} {M : Mem} (hF : 1 ≤ F) (hc : PotOk c) (hp : M[p]? = some c) (hm : 0 < many) :
    ∃ (v : Int) (c' : Cell), 0 ≤ v ∧ v < many ∧ PotOk c' ∧ evCall T.P W F 10 [.obj p, .int many] M = .ok (.int v) (M.set p c') := by
  obtain ⟨k, rfl⟩ : ∃ k, F = k + 1 := ⟨F - 1, by omega⟩
  have hfl := hc.flat
  obtain ⟨L, a, s, rfl, h0, hs0, hs1⟩ := hc
  have hS : ([Cell.lst [.lst (L.map .int), .int a, .int s]])[0]? = some (Cell.lst [.lst (L.map .int), .int a, .int s]) := rfl
  by_cases h : a < (L.length : Int)
  · have hl : a.toNat < L.length := by omega
    have hc' : PotOk (pot L (a + 1) s) := ⟨L, a + 1, s, rfl, by omega, hs0, hs1⟩
    refine ⟨L[a.toNat] % many, pot L (a + 1) s, Int.emod_nonneg _ (by omega), Int.emod_lt_of_pos _ hm, hc', ?_⟩
    refine call1 (args := [.int many]) (M1 := [pot L (a + 1) s]) (v := .int (L[a.toNat] % many)) P10 rfl rfl rfl hp hfl rfl ?_ rfl hc'.frz rfl
    simp [D10, DefT.fn, evSs, evS, evE, evEs, R.bind, R.of, R.out, opM, prep, Op.deep, opD, sh, pot, ixD, atI, ixN, addD, asgT, asgI, setC, Rs.putAt, lenD, cmpI, truth, h, h0, modD, hm]
  · have hlog := log_lt (n := 31) hs0 (by omega) (by omega)
    have h1 : s.natAbs.log2 + s.natAbs.log2 < 1000000 := by omega
    have hc' : PotOk (pot L (a + 1) ((s * s + 40692 + a) % 2147483629)) := ⟨L, a + 1, _, rfl, by omega, Int.emod_nonneg _ (by omega), Int.emod_lt_of_pos _ (by omega)⟩
    refine ⟨(s * s + 40692 + a) % 2147483629 / 8 % 10 ^ 6 % many, pot L (a + 1) ((s * s + 40692 + a) % 2147483629), Int.emod_nonneg _ (by omega), Int.emod_lt_of_pos _ hm, hc', ?_⟩
    refine call1 (args := [.int many]) (M1 := [pot L (a + 1) ((s * s + 40692 + a) % 2147483629)]) (v := .int ((s * s + 40692 + a) % 2147483629 / 8 % 10 ^ 6 % many)) P10 rfl rfl rfl hp hfl rfl ?_ rfl hc'.frz rfl
    simp [D10, DefT.fn, evSs, evS, evE, evEs, R.bind, R.of, R.out, opM, prep, Op.deep, opD, sh, pot, ixD, atI, ixN, addD, asgT, asgI, setC, Rs.putAt, lenD, cmpI, truth, h, h0, modD, hm, mulD, h1, fdivD, powD, l8]
def WS : List Str := ["end", "ask", "call", "set", "if", "errand", "catch", "undo", "else", "want", "try", "do", "tell", "give", "fail", "while"]
theorem ws_tx : ∀ w ∈ WS, Tx 8 w := fun w hw => tx_of ((by decide +kernel : ∀ w ∈ WS, txB 8 w = true) w hw)
def AS : Str := "aaaaaaaa"
theorem as_len : AS.length ≤ sizeLine := by decide +kernel
theorem as_tx : ∀ n : Fin 8, txB 8 (cutS AS none (some (1 + (n.val : Int)))) = true := by decide +kernel
def AZ : Str := "abcdefghijklmnopqrstuvwxyz"
theorem az_len : AZ.length ≤ sizeLine := by decide +kernel
theorem az_l : AZ.cps.toList.length = 26 := by decide +kernel
theorem az_tx : ∀ c ∈ AZ.cps.toList, c < 0x110000 ∧ c ≠ 10 := by decide +kernel
theorem tx_one {c : Nat} (h : c < 0x110000 ∧ c ≠ 10) : Tx 1 ⟨#[c]⟩ := ⟨Nat.le_refl _, fun d hd => by
  have : d = c := by simpa using hd
  rw [this]; exact h⟩
end K07

namespace K07
open PySem PySem.Spec PyProof.Rows L2 Rs
theorem tx_nil : Tx 0 "" := tx_of (by decide +kernel)
theorem ix_wd {l : List Str} {k : Int} (h0 : 0 ≤ k) (h1 : k < (l.length : Int)) : ∃ w, ixD (.lst (l.map .str)) (.int k) = some (.str w) ∧ w ∈ l := by
  obtain ⟨x, e, m⟩ := atI_mem (xs := l.map I.str) h0 (by simpa using h1)
  obtain ⟨w, hw, rfl⟩ := List.mem_map.mp m
  exact ⟨w, e, hw⟩
theorem ix_az {k : Int} (h0 : 0 ≤ k) (h1 : k < 26) : ∃ w, ixD (.str AZ) (.int k) = some (.str w) ∧ Tx 1 w := by
  obtain ⟨x, e, m⟩ := atI_mem (xs := AZ.cps.toList) h0 (by rw [az_l]; exact h1)
  refine ⟨⟨#[x]⟩, ?_, tx_one (az_tx x m)⟩
  show (if AZ.length ≤ sizeLine then (atI AZ.cps.toList k).map fun c => I.str ⟨#[c]⟩ else none) = _
  rw [if_pos az_len, e]; rfl
theorem WS_eq : [I.str "end", .str "ask", .str "call", .str "set", .str "if", .str "errand", .str "catch", .str "undo", .str "else", .str "want", .str "try", .str "do", .str "tell", .str "give", .str "fail", .str "while"] = WS.map I.str := rfl
set_option maxHeartbeats 4000000 in
theorem word_ok {W F p : Nat} {c : Cell} {M : Mem} (hF : 2 ≤ F) (hc : PotOk c) (hp : M[p]? = some c) :
    ∃ (w : Str) (c' : Cell), Tx 8 w ∧ PotOk c' ∧ evCall T.P W F 11 [.obj p] M = .ok (.str w) (M.set p c') := by
  obtain ⟨k, rfl⟩ : ∃ k, F = k + 1 := ⟨F - 1, by omega⟩
  have hT : ∀ (c : Cell) (many : Int), PotOk c → 0 < many → ∃ (v : Int) (c' : Cell), 0 ≤ v ∧ v < many ∧ PotOk c' ∧ evCall T.P W k 10 [.obj 0, .int many] [c] = .ok (.int v) [c'] := fun c many hc hm => take_ok (p := 0) (M := [c]) (by omega) hc rfl hm
  have fin : ∀ (w : Str) (c' : Cell), PotOk c' → Tx 8 w → evSs (evCall T.P W k) W D11.fn.body [some (.obj 0), none, none, none] [c] = some (.ret (.str w) [c']) →
      ∃ (w : Str) (c' : Cell), Tx 8 w ∧ PotOk c' ∧ evCall T.P W (k + 1) 11 [.obj p] M = .ok (.str w) (M.set p c') := fun w c' hc' hw e =>
    ⟨w, c', hw, hc', call1 (args := []) (M1 := [c']) (v := .str w) P11 rfl rfl rfl hp hc.flat rfl e rfl hc'.frz rfl⟩
  generalize evCall T.P W k = Φ at hT fin
  obtain ⟨v, c1, v0, v1, hc1, e1⟩ := hT c 4 hc (by decide)
  by_cases h0 : v = 0
  · subst h0
    obtain ⟨u, c2, u0, u1, hc2, e2⟩ := hT c1 16 hc1 (by decide)
    obtain ⟨w, ew, hw⟩ := ix_wd (l := WS) u0 u1
    rw [← WS_eq] at ew
    refine fin w c2 hc2 (ws_tx w hw) ?_
    simp [D11, DefT.fn, evSs, evS, evE, evEs, R.bind, R.of, R.out, opM, prep, Op.deep, opD, sh, asgT, asgI, truth, e1, e2, fr_int, eq_int, dispD, ew]
  · by_cases h1 : v = 1
    · subst h1
      obtain ⟨u, c2, u0, u1, hc2, e2⟩ := hT c1 8 hc1 (by decide)
      refine fin (cutS AS none (some (1 + u))) c2 hc2 ?_ ?_
      · have := as_tx ⟨u.toNat, by omega⟩
        have e : ((u.toNat : Nat) : Int) = u := by omega
        simp only [e] at this
        exact tx_of this
      · have hs : sliceD (.str AS) none (some (1 + u)) = some (.str (cutS AS none (some (1 + u)))) := by
          show (if AS.length ≤ sizeLine then some (I.str (cutS AS none (some (1 + u)))) else none) = _
          rw [if_pos as_len]
        unfold AS at hs ⊢
        simp [D11, DefT.fn, evSs, evS, evE, evEs, R.bind, R.of, R.out, opM, prep, Op.deep, opD, sh, asgT, asgI, truth, e1, e2, fr_int, eq_int, dispD, addD, hs]
    · obtain ⟨u, c2, u0, u1, hc2, e2⟩ := hT c1 8 hc1 (by decide)
      obtain ⟨n, en, n0, n8⟩ : ∃ n : Int, ixD (.lst [.int 1, .int (1 + u)]) (.int (v - 2)) = some (.int n) ∧ 0 ≤ n ∧ n ≤ 8 := by
        have : v = 2 ∨ v = 3 := by omega
        rcases this with rfl | rfl
        · exact ⟨1, rfl, by decide, by decide⟩
        · exact ⟨1 + u, rfl, by omega, by omega⟩
      obtain ⟨τ', M', e, w, c3, x3, rfl, rfl, hw, hc3⟩ := each_go (g := .nm 3) (b := evSs Φ W B11_0)
        (Inv := fun j τ M' => ∃ (w : Str) (c3 : Cell) (x3 : Option I), M' = [c3] ∧ τ = [some (.obj 0), some (.int v), some (.str w), x3] ∧ Tx j w ∧ PotOk c3)
        ((List.range n.toNat).map fun k : Nat => I.int (k : Int)) 0 [some (.obj 0), some (.int v), some (.str ""), none] [c2] ⟨"", c2, none, rfl, rfl, tx_nil, hc2⟩ (by
          rintro i τ M' y hy ⟨w, c3, x3, rfl, rfl, hw, hc3⟩
          have hi : i < n.toNat := by simpa using (List.getElem?_eq_some_iff.mp hy).1
          obtain ⟨x, rfl⟩ : ∃ x : Int, y = .int x := by
            rw [List.getElem?_map] at hy
            obtain ⟨z, _, rfl⟩ := Option.map_eq_some_iff.mp hy
            exact ⟨_, rfl⟩
          obtain ⟨q, c4, q0, q1, hc4, e4⟩ := hT c3 26 hc3 (by decide)
          obtain ⟨z, ez, hz⟩ := ix_az q0 q1
          have hl : w.length + z.length ≤ sizeLine := by rw [sl24]; have := hw.1; have := hz.1; omega
          refine ⟨[some (.obj 0), some (.int v), some (.str w), some (.int x)], [some (.obj 0), some (.int v), some (.str (w ++ z)), some (.int x)], [c4], rfl, ?_, w ++ z, c4, some (.int x), rfl, rfl, by rw [Nat.zero_add] at hw ⊢; exact hw.app hz, hc4⟩
          unfold AZ at ez
          simp [B11_0, evSs, evS, evE, evEs, R.bind, R.of, R.out, opM, prep, Op.deep, opD, sh, asgT, asgI, e4, ez, addD, hl])
      refine fin w c3 hc3 (hw.mono (by simp; omega)) ?_
      have hr : -(2 ^ 62) ≤ n ∧ n < 2 ^ 62 := by omega
      have hv0 : (v == 0) = false := by simpa using h0
      have hv1 : (v == 1) = false := by simpa using h1
      simp [D11, DefT.fn, evSs, evS, evE, evEs, evIt, R.bind, R.of, R.out, opM, prep, Op.deep, opD, sh, asgT, asgI, truth, e1, e2, fr_int, eq_int, dispD, addD, subD, hv0, hv1, h0, h1, en, rangeItems, hr, -Int.reducePow, -Int.reduceNeg]
      simp [e]
theorem fit_ws {ws : List Str} (h : ∀ w ∈ ws, Tx 8 w) : (I.lst (ws.map .str)).fit = true := (fit_strs fun s hs => (h s hs).ok).fit
theorem fit_w {w : Str} {n : Nat} (h : Tx n w) : (I.str w).fit = true := (Fit.mono (fit_str (n := 0) h.ok) (by decide)).fit
set_option maxHeartbeats 4000000 in
theorem words_ok {W F p : Nat} {c : Cell} {M : Mem} {many : Int} (hF : 3 ≤ F) (hc : PotOk c) (hp : M[p]? = some c) (m0 : 0 ≤ many) (m1 : many ≤ 100) :
    ∃ (ws : List Str) (c' : Cell), (∀ w ∈ ws, Tx 8 w) ∧ ws.length ≤ many.toNat ∧ (0 < many → ws ≠ []) ∧ PotOk c' ∧ evCall T.P W F 12 [.obj p, .int many] M = .ok (.lst (ws.map .str)) (M.set p c') := by
  obtain ⟨k, rfl⟩ : ∃ k, F = k + 1 := ⟨F - 1, by omega⟩
  have hT : ∀ (c d : Cell), PotOk c → ∃ (w : Str) (c' : Cell), Tx 8 w ∧ PotOk c' ∧ evCall T.P W k 11 [.obj 0] [c, d] = .ok (.str w) [c', d] := fun c d hc => word_ok (p := 0) (M := [c, d]) (by omega) hc rfl
  have fin : ∀ (ws : List Str) (c' : Cell), PotOk c' → evSs (evCall T.P W k) W D12.fn.body [some (.obj 0), some (.int many), none, none, none] [c] = some (.ret (.obj 1) [c', .lst (ws.map .str)]) →
      evCall T.P W (k + 1) 12 [.obj p, .int many] M = .ok (.lst (ws.map .str)) (M.set p c') := fun ws c' hc' e =>
    call1 (args := [.int many]) (M1 := [c', .lst (ws.map .str)]) (v := .obj 1) P12 rfl rfl rfl hp hc.flat rfl e rfl hc'.frz (by
      show frz (mask (List.range 1) [c', Cell.lst (ws.map .str)]) dpt (.obj 1) = _
      exact frz_lst rfl (flats_strs ws))
  generalize evCall T.P W k = Φ at hT fin
  obtain ⟨τ', M', e, ws, c3, x3, x4, rfl, rfl, hw, hn, hne, hc3⟩ := each_go (g := .nm 3) (b := evSs Φ W B12_0)
    (Inv := fun j τ M' => ∃ (ws : List Str) (c3 : Cell) (x3 x4 : Option I), M' = [c3, .lst (ws.map .str)] ∧ τ = [some (.obj 0), some (.int many), some (.obj 1), x3, x4] ∧ (∀ w ∈ ws, Tx 8 w) ∧ ws.length ≤ j ∧ (0 < j → ws ≠ []) ∧ PotOk c3)
    ((List.range many.toNat).map fun k : Nat => I.int (k : Int)) 0 [some (.obj 0), some (.int many), some (.obj 1), none, none] [c, .lst []] ⟨[], c, none, none, rfl, rfl, (fun _ z => nomatch z), Nat.le_refl _, (fun z => absurd z (Nat.lt_irrefl _)), hc⟩ (by
      rintro i τ M' y hy ⟨ws, c3, x3, x4, rfl, rfl, hw, hn, hne, hc3⟩
      have hi : i < many.toNat := by simpa using (List.getElem?_eq_some_iff.mp hy).1
      obtain ⟨x, rfl⟩ : ∃ x : Int, y = .int x := by
        rw [List.getElem?_map] at hy
        obtain ⟨z, _, rfl⟩ := Option.map_eq_some_iff.mp hy
        exact ⟨_, rfl⟩
      obtain ⟨w, c4, hw4, hc4, e4⟩ := hT c3 (.lst (ws.map .str)) hc3
      have f1 := fit_w hw4
      have f2 := fit_ws hw
      have hsz : ws.length < sizeLine := by rw [sl24]; omega
      by_cases hm : ((I.pys (ws.map I.str)).any fun z => PyData.eqv z (I.str w).py) = true
      · refine ⟨_, [some (.obj 0), some (.int many), some (.obj 1), some (.int x), some (.str w)], [c4, .lst (ws.map .str)], rfl, ?_, ws, c4, _, _, rfl, rfl, hw, by omega, fun _ e => ?_, hc4⟩
        · have ei : innD (.str w) (.lst (ws.map .str)) = some true := by
            show (if (I.str w).fit && (I.lst (ws.map .str)).fit then some ((I.pys (ws.map I.str)).any fun z => PyData.eqv z (I.str w).py) else none) = _
            rw [f1, f2, hm]; rfl
          have hfr : frz [c4, Cell.lst (ws.map .str)] dpt (.obj 1) = some (.lst (ws.map .str)) := frz_lst rfl (flats_strs ws)
          simp [B12_0, evSs, evS, evE, evEs, R.bind, R.of, R.out, opM, prep, Op.deep, opD, asgT, asgI, truth, e4, fr_str, hfr, ei, sh]
        · subst e
          exact absurd hm (by simp [I.pys])
      · refine ⟨_, [some (.obj 0), some (.int many), some (.obj 1), some (.int x), some (.str w)], [c4, .lst ((ws ++ [w]).map .str)], rfl, ?_, ws ++ [w], c4, _, _, rfl, rfl, fun z hz => ?_, by simp; omega, fun _ => by simp, hc4⟩
        · have ei : innD (.str w) (.lst (ws.map .str)) = some false := by
            show (if (I.str w).fit && (I.lst (ws.map .str)).fit then some ((I.pys (ws.map I.str)).any fun z => PyData.eqv z (I.str w).py) else none) = _
            rw [f1, f2, eq_false_of_ne_true hm]; rfl
          have hfr : frz [c4, Cell.lst (ws.map .str)] dpt (.obj 1) = some (.lst (ws.map .str)) := frz_lst rfl (flats_strs ws)
          simp [B12_0, evSs, evS, evE, evEs, R.bind, R.of, R.out, opM, prep, Op.deep, opD, asgT, asgI, truth, e4, fr_str, hfr, ei, sh, hsz]
        · rcases List.mem_append.mp hz with q | q
          · exact hw z q
          · rw [List.mem_singleton.mp q]; exact hw4)
  refine ⟨ws, c3, hw, by simpa using hn, fun h => hne (by simp; omega), hc3, fin ws c3 hc3 ?_⟩
  have hr : -(2 ^ 62) ≤ many ∧ many < 2 ^ 62 := by omega
  simp [D12, DefT.fn, evSs, evS, evE, evEs, evIt, R.bind, R.of, R.out, opM, prep, Op.deep, opD, sh, asgT, asgI, dispD, toCell, rangeItems, hr, -Int.reducePow, -Int.reduceNeg]
  simp [e]
end K07

namespace K07
open PySem PySem.Spec PyProof.Rows L2 Rs
/-! ### what the programs are made of -/
inductive Wt where
  | num (n : Int) | nm (s : Str) | op (g : Str) (a b : Wt)
def Wt.i : Wt → I
  | .num n => .int n
  | .nm s => .str s
  | .op g a b => .tup [.str g, a.i, b.i]
def Wt.t : Wt → Str
  | .num n => Str.ofString (toString n)
  | .nm s => s
  | .op g a b => "(" ++ a.t ++ g ++ b.t ++ ")"
inductive WtOk : Nat → Wt → Prop
  | num {d : Nat} {n : Int} (h0 : 0 ≤ n) (h1 : n < 10 ^ 10) : WtOk d (.num n)
  | nm {d : Nat} {s : Str} (h : Tx 8 s) : WtOk d (.nm s)
  | op {d : Nat} {g : Str} {a b : Wt} (h : Tx 1 g) (ha : WtOk d a) (hb : WtOk d b) : WtOk (d + 1) (.op g a b)
theorem Wt.flat : ∀ w : Wt, w.i.flat = true
  | .num _ => rfl
  | .nm _ => rfl
  | .op g a b => by
    show (true && (a.i.flat && (b.i.flat && true))) = true
    rw [a.flat, b.flat]; rfl
theorem eq_nil {l : List Str} (h : ∀ s ∈ l, Tx 8 s) : eqD (.lst (l.map .str)) (.lst []) = some l.isEmpty := by
  unfold eqD
  rw [fit_ws h]
  cases l with
  | nil => rfl
  | cons a l => rfl
theorem set_get {M : Mem} {p n : Nat} {c x : Cell} (h : M[n]? = some x) (hn : n ≠ p) : (M.set p c)[n]? = some x := by
  rw [List.getElem?_set_ne (Ne.symm hn)]; exact h
theorem set_own {M : Mem} {p : Nat} {c : Cell} (h : p < M.length) : (M.set p c)[p]? = some c := by simp [h]
theorem take_at {W F p : Nat} {c : Cell} {many : Int} {M : Mem} (hF : 1 ≤ F) (hc : PotOk c) (hp : p < M.length) (hm : 0 < many) :
    ∃ (v : Int) (c' : Cell), 0 ≤ v ∧ v < many ∧ PotOk c' ∧ evCall T.P W F 10 [.obj p, .int many] (M.set p c) = .ok (.int v) (M.set p c') := by
  obtain ⟨v, c', h0, h1, hc', e⟩ := take_ok (W := W) hF hc (set_own hp) hm
  exact ⟨v, c', h0, h1, hc', by rw [e, List.set_set]⟩
def SG : Str := "+-*<="
theorem sg_len : SG.length ≤ sizeLine := by decide +kernel
theorem sg_l : SG.cps.toList.length = 5 := by decide +kernel
theorem sg_tx : ∀ c ∈ SG.cps.toList, c < 0x110000 ∧ c ≠ 10 := by decide +kernel
theorem ix_sg {k : Int} (h0 : 0 ≤ k) (h1 : k < 5) : ∃ w, ixD (.str SG) (.int k) = some (.str w) ∧ Tx 1 w := by
  obtain ⟨x, e, m⟩ := atI_mem (xs := SG.cps.toList) h0 (by rw [sg_l]; exact h1)
  refine ⟨⟨#[x]⟩, ?_, tx_one (sg_tx x m)⟩
  show (if SG.length ≤ sizeLine then (atI SG.cps.toList k).map fun c => I.str ⟨#[c]⟩ else none) = _
  rw [if_pos sg_len, e]; rfl
theorem P13 : T.P 13 = some D13.fn := rfl
theorem neg_nil {l : List Str} (h : l ≠ []) : l.isEmpty = false := by cases l <;> simp_all
theorem pos_len {l : List Str} (h : l ≠ []) : (0 : Int) < (l.length : Int) := by
  have := List.length_pos_iff.mpr h
  omega
set_option maxHeartbeats 8000000 in
theorem worth_ok {W p n : Nat} {names : List Str} {M : Mem} (hp : p < M.length) (hne : n ≠ p) (hn : M[n]? = some (.lst (names.map .str))) (hw : ∀ s ∈ names, Tx 8 s) : ∀ (d F : Nat) (c : Cell), d + 2 ≤ F → PotOk c →
    ∃ (w : Wt) (c' : Cell), WtOk d w ∧ PotOk c' ∧ evCall T.P W F 13 [.obj p, .obj n, .int (d : Int)] (M.set p c) = .ok w.i (M.set p c') := by
  intro d
  induction d with
  | zero =>
    intro F c hF hc
    obtain ⟨k, rfl⟩ : ∃ k, F = k + 1 := ⟨F - 1, by omega⟩
    have hT : ∀ (c : Cell) (many : Int), PotOk c → 0 < many → ∃ (v : Int) (c' : Cell), 0 ≤ v ∧ v < many ∧ PotOk c' ∧ evCall T.P W k 10 [.obj p, .int many] (M.set p c) = .ok (.int v) (M.set p c') := fun c many hc hm => take_at (by omega) hc hp hm
    have hL : ∀ c : Cell, sh (M.set p c) (.obj n) = .lst (names.map .str) := fun c => sh_obj (set_get hn hne)
    have hZ : ∀ c : Cell, frz (M.set p c) dpt (.obj n) = some (.lst (names.map .str)) := fun c => frz_lst (set_get hn hne) (flats_strs _)
    have hE := eq_nil hw
    rw [callF P13 rfl rfl]
    generalize evCall T.P W k = Φ at hT
    obtain ⟨v, c1, v0, v1, hc1, e1⟩ := hT c 6 hc (by decide)
    by_cases ha : v % 2 = 0 ∧ names ≠ []
    · obtain ⟨a1, a2⟩ := ha
      obtain ⟨u, c2, u0, u1, hc2, e2⟩ := hT c1 (names.length : Int) hc1 (pos_len a2)
      obtain ⟨w, ew, hm⟩ := ix_wd u0 u1
      refine ⟨.nm w, c2, .nm (hw w hm), hc2, ?_⟩
      rw [neg_nil a2] at hE
      simp [DefT.fn, evSs, evS, evE, evEs, evIt, R.bind, R.of, R.out, opM, prep, Op.deep, opD, sh_int, sh_str, sh_bl, sh_non, sh_tup, sh_lst, asgT, asgTs, asgI, truth, cmpI, fr_int, fr_str, fr_bl, fr_non, fr_nil, eq_int, dispD, toCell, isTy, I.ty, isN, D13, e1, e2, hL, hZ, hE, modD, a1, lenD, ew, Wt.i]
    · have hb : (v % 2 = 0 → names.isEmpty = true) := fun h => by
        cases hn : names with
        | nil => rfl
        | cons a l => exact absurd ⟨h, by rw [hn]; simp⟩ ha
      by_cases h1 : v = 1
      · subst h1
        obtain ⟨u, c2, u0, u1, hc2, e2⟩ := hT c1 12 hc1 (by decide)
        refine ⟨.num u, c2, .num u0 (by omega), hc2, ?_⟩
        simp [DefT.fn, evSs, evS, evE, evEs, evIt, R.bind, R.of, R.out, opM, prep, Op.deep, opD, sh_int, sh_str, sh_bl, sh_non, sh_tup, sh_lst, asgT, asgTs, asgI, truth, cmpI, fr_int, fr_str, fr_bl, fr_non, fr_nil, eq_int, dispD, toCell, isTy, I.ty, isN, D13, e1, e2, hL, hZ, hE, modD, lenD, Wt.i]
      · by_cases h3 : v = 3
        · subst h3
          obtain ⟨u, c2, u0, u1, hc2, e2⟩ := hT c1 3 hc1 (by decide)
          refine ⟨.num (1000000006 - u), c2, .num (by omega) (by omega), hc2, ?_⟩
          first
            | (exfalso; omega)
            | simp [DefT.fn, evSs, evS, evE, evEs, evIt, R.bind, R.of, R.out, opM, prep, Op.deep, opD, sh_int, sh_str, sh_bl, sh_non, sh_tup, sh_lst, asgT, asgTs, asgI, truth, cmpI, fr_int, fr_str, fr_bl, fr_non, fr_nil, eq_int, dispD, toCell, isTy, I.ty, isN, D13, e1, e2, hL, hZ, hE, modD, lenD, Wt.i, subD]
        · obtain ⟨u, c2, u0, u1, hc2, e2⟩ := hT c1 1000000 hc1 (by decide)
          obtain ⟨x, c3, x0, x1, hc3, e3⟩ := hT c2 1000000 hc2 (by decide)
          refine ⟨.num ((u * 10 ^ 6 + x) % 1000000007), c3, .num (Int.emod_nonneg _ (by omega)) (Int.lt_trans (Int.emod_lt_of_pos _ (by omega)) (by omega)), hc3, ?_⟩
          have hv1 : (v == 1) = false := by simpa using h1
          have hv3 : (v == 3) = false := by simpa using h3
          have hu : u.natAbs.log2 + Nat.log2 1000000 < 1000000 := by
            have := log_lt (n := 31) u0 (by omega) (by omega)
            have c : Nat.log2 1000000 < 64 := by decide +kernel
            omega
          by_cases h2 : v % 2 = 0
          · rw [hb h2] at hE
            simp [DefT.fn, evSs, evS, evE, evEs, evIt, R.bind, R.of, R.out, opM, prep, Op.deep, opD, sh_int, sh_str, sh_bl, sh_non, sh_tup, sh_lst, asgT, asgTs, asgI, truth, cmpI, fr_int, fr_str, fr_bl, fr_non, fr_nil, eq_int, dispD, toCell, isTy, I.ty, isN, D13, e1, e2, e3, hL, hZ, hE, modD, lenD, Wt.i, hv1, hv3, h1, h3, h2, powD, mulD, addD, hu]
          · have h2' : (v % 2 == 0) = false := by simpa using h2
            simp [DefT.fn, evSs, evS, evE, evEs, evIt, R.bind, R.of, R.out, opM, prep, Op.deep, opD, sh_int, sh_str, sh_bl, sh_non, sh_tup, sh_lst, asgT, asgTs, asgI, truth, cmpI, fr_int, fr_str, fr_bl, fr_non, fr_nil, eq_int, dispD, toCell, isTy, I.ty, isN, D13, e1, e2, e3, hL, hZ, hE, modD, lenD, Wt.i, hv1, hv3, h1, h3, h2', powD, mulD, addD, hu]
  | succ d ih =>
    intro F c hF hc
    obtain ⟨k, rfl⟩ : ∃ k, F = k + 1 := ⟨F - 1, by omega⟩
    have hT : ∀ (c : Cell) (many : Int), PotOk c → 0 < many → ∃ (v : Int) (c' : Cell), 0 ≤ v ∧ v < many ∧ PotOk c' ∧ evCall T.P W k 10 [.obj p, .int many] (M.set p c) = .ok (.int v) (M.set p c') := fun c many hc hm => take_at (by omega) hc hp hm
    have hI := fun c hc => ih k c (by omega) hc
    have hL : ∀ c : Cell, sh (M.set p c) (.obj n) = .lst (names.map .str) := fun c => sh_obj (set_get hn hne)
    have hZ : ∀ c : Cell, frz (M.set p c) dpt (.obj n) = some (.lst (names.map .str)) := fun c => frz_lst (set_get hn hne) (flats_strs _)
    have hE := eq_nil hw
    rw [callF P13 rfl rfl]
    generalize evCall T.P W k = Φ at hT hI
    obtain ⟨v, c1, v0, v1, hc1, e1⟩ := hT c 6 hc (by decide)
    have hd : (0 : Int) < ((d + 1 : Nat) : Int) := by omega
    have hd1 : ((d + 1 : Nat) : Int) - 1 = (d : Int) := by omega
    generalize ((d + 1 : Nat) : Int) = dd at hd hd1 ⊢
    by_cases hv : 2 < v
    · obtain ⟨q, c2, q0, q1, hc2, e2⟩ := hT c1 5 hc1 (by decide)
      obtain ⟨g, eg, hg⟩ := ix_sg q0 q1
      obtain ⟨a, c3, ha, hc3, e3⟩ := hI c2 hc2
      obtain ⟨b, c4, hb, hc4, e4⟩ := hI c3 hc3
      refine ⟨.op g a b, c4, .op hg ha hb, hc4, ?_⟩
      unfold SG at eg
      simp [DefT.fn, evSs, evS, evE, evEs, evIt, R.bind, R.of, R.out, opM, prep, Op.deep, opD, sh_int, sh_str, sh_bl, sh_non, sh_tup, sh_lst, asgT, asgTs, asgI, truth, cmpI, fr_int, fr_str, fr_bl, fr_non, fr_nil, eq_int, dispD, toCell, isTy, I.ty, isN, D13, hd, hv, e1, e2, eg, e3, e4, subD, hd1, Wt.i]
    · by_cases ha : v % 2 = 0 ∧ names ≠ []
      · obtain ⟨a1, a2⟩ := ha
        obtain ⟨u, c2, u0, u1, hc2, e2⟩ := hT c1 (names.length : Int) hc1 (pos_len a2)
        obtain ⟨w, ew, hm⟩ := ix_wd u0 u1
        refine ⟨.nm w, c2, .nm (hw w hm), hc2, ?_⟩
        rw [neg_nil a2] at hE
        simp [DefT.fn, evSs, evS, evE, evEs, evIt, R.bind, R.of, R.out, opM, prep, Op.deep, opD, sh_int, sh_str, sh_bl, sh_non, sh_tup, sh_lst, asgT, asgTs, asgI, truth, cmpI, fr_int, fr_str, fr_bl, fr_non, fr_nil, eq_int, dispD, toCell, isTy, I.ty, isN, D13, hd, hv, e1, e2, hL, hZ, hE, modD, a1, lenD, ew, Wt.i]
      · have hb : (v % 2 = 0 → names.isEmpty = true) := fun h => by
          cases hn : names with
          | nil => rfl
          | cons a l => exact absurd ⟨h, by rw [hn]; simp⟩ ha
        by_cases h1 : v = 1
        · subst h1
          obtain ⟨u, c2, u0, u1, hc2, e2⟩ := hT c1 12 hc1 (by decide)
          refine ⟨.num u, c2, .num u0 (by omega), hc2, ?_⟩
          simp [DefT.fn, evSs, evS, evE, evEs, evIt, R.bind, R.of, R.out, opM, prep, Op.deep, opD, sh_int, sh_str, sh_bl, sh_non, sh_tup, sh_lst, asgT, asgTs, asgI, truth, cmpI, fr_int, fr_str, fr_bl, fr_non, fr_nil, eq_int, dispD, toCell, isTy, I.ty, isN, D13, hd, hv, e1, e2, hL, hZ, hE, modD, lenD, Wt.i]
        · by_cases h3 : v = 3
          · subst h3
            obtain ⟨u, c2, u0, u1, hc2, e2⟩ := hT c1 3 hc1 (by decide)
            refine ⟨.num (1000000006 - u), c2, .num (by omega) (by omega), hc2, ?_⟩
            first
              | (exfalso; omega)
              | simp [DefT.fn, evSs, evS, evE, evEs, evIt, R.bind, R.of, R.out, opM, prep, Op.deep, opD, sh_int, sh_str, sh_bl, sh_non, sh_tup, sh_lst, asgT, asgTs, asgI, truth, cmpI, fr_int, fr_str, fr_bl, fr_non, fr_nil, eq_int, dispD, toCell, isTy, I.ty, isN, D13, hd, hv, e1, e2, hL, hZ, hE, modD, lenD, Wt.i, subD]
          · obtain ⟨u, c2, u0, u1, hc2, e2⟩ := hT c1 1000000 hc1 (by decide)
            obtain ⟨x, c3, x0, x1, hc3, e3⟩ := hT c2 1000000 hc2 (by decide)
            refine ⟨.num ((u * 10 ^ 6 + x) % 1000000007), c3, .num (Int.emod_nonneg _ (by omega)) (Int.lt_trans (Int.emod_lt_of_pos _ (by omega)) (by omega)), hc3, ?_⟩
            have hv1 : (v == 1) = false := by simpa using h1
            have hv3 : (v == 3) = false := by simpa using h3
            have hu : u.natAbs.log2 + Nat.log2 1000000 < 1000000 := by
              have := log_lt (n := 31) u0 (by omega) (by omega)
              have c : Nat.log2 1000000 < 64 := by decide +kernel
              omega
            by_cases h2 : v % 2 = 0
            · rw [hb h2] at hE
              simp [DefT.fn, evSs, evS, evE, evEs, evIt, R.bind, R.of, R.out, opM, prep, Op.deep, opD, sh_int, sh_str, sh_bl, sh_non, sh_tup, sh_lst, asgT, asgTs, asgI, truth, cmpI, fr_int, fr_str, fr_bl, fr_non, fr_nil, eq_int, dispD, toCell, isTy, I.ty, isN, D13, hd, hv, e1, e2, e3, hL, hZ, hE, modD, lenD, Wt.i, hv1, hv3, h1, h3, h2, powD, mulD, addD, hu]
            · have h2' : (v % 2 == 0) = false := by simpa using h2
              simp [DefT.fn, evSs, evS, evE, evEs, evIt, R.bind, R.of, R.out, opM, prep, Op.deep, opD, sh_int, sh_str, sh_bl, sh_non, sh_tup, sh_lst, asgT, asgTs, asgI, truth, cmpI, fr_int, fr_str, fr_bl, fr_non, fr_nil, eq_int, dispD, toCell, isTy, I.ty, isN, D13, hd, hv, e1, e2, e3, hL, hZ, hE, modD, lenD, Wt.i, hv1, hv3, h1, h3, h2', powD, mulD, addD, hu]
end K07

namespace K07
open PySem PySem.Spec PyProof.Rows L2 Rs
theorem add_int (a b : Int) : addD (.int a) (.int b) = some (.int (a + b)) := rfl
def optI : Option Str → I
  | none => .non
  | some s => .str s
inductive Br where
  | ask (nm : Option Str) (who : Str) (w : Wt) | call (nm : Option Str) (ti : Str) (ws : List Wt)
def Br.i : Br → I
  | .ask nm who w => .tup [optI nm, .str "ask", .str who, w.i]
  | .call nm ti ws => .tup [optI nm, .str "call", .str ti, .tup (ws.map Wt.i)]
def OptOk (o : Option Str) : Prop := ∀ s, o = some s → Tx 8 s
inductive BrOk : Br → Prop
  | ask {nm : Option Str} {who : Str} {w : Wt} (h1 : OptOk nm) (h2 : Tx 8 who) (h3 : WtOk 3 w) : BrOk (.ask nm who w)
  | call {nm : Option Str} {ti : Str} {ws : List Wt} (h1 : OptOk nm) (h2 : Tx 8 ti) (h3 : ws.length ≤ 3) (h4 : ∀ w ∈ ws, WtOk 3 w) : BrOk (.call nm ti ws)
theorem WtOk.mono : ∀ {w : Wt} {d e : Nat}, WtOk d w → d ≤ e → WtOk e w
  | .num n, d, e, h, _ => by cases h with | num h0 h1 => exact .num h0 h1
  | .nm s, d, e, h, _ => by cases h with | nm h => exact .nm h
  | .op g a b, d, e, h, hd => by
    cases h with
    | op hg ha hb =>
      obtain ⟨e, rfl⟩ : ∃ k, e = k + 1 := ⟨e - 1, by omega⟩
      exact .op hg (ha.mono (by omega)) (hb.mono (by omega))
theorem optI_flat (o : Option Str) : (optI o).flat = true := by cases o <;> rfl
theorem wts_flat (ws : List Wt) : I.flats (ws.map Wt.i) = true := flats_of fun x hx => by
  obtain ⟨w, _, rfl⟩ := List.mem_map.mp hx
  exact w.flat
theorem Br.flat (b : Br) : b.i.flat = true := by
  cases b with
  | ask nm who w =>
    show ((optI nm).flat && (true && (true && (w.i.flat && true)))) = true
    rw [optI_flat, w.flat]; rfl
  | call nm ti ws =>
    show ((optI nm).flat && (true && (true && (I.flats (ws.map Wt.i) && true)))) = true
    rw [optI_flat, wts_flat]; rfl
theorem ix_opt {l : List Str} {k : Int} (h0 : 0 ≤ k) (h1 : k < (l.length : Int) + 1) (hl : ∀ s ∈ l, Tx 8 s) : ∃ o : Option Str, ixD (.lst (l.map .str ++ [.non])) (.int k) = some (optI o) ∧ OptOk o := by
  obtain ⟨x, e, m⟩ := atI_mem (xs := l.map I.str ++ [.non]) h0 (by simpa using h1)
  rcases List.mem_append.mp m with q | q
  · obtain ⟨w, hw, rfl⟩ := List.mem_map.mp q
    exact ⟨some w, e, fun s hs => by cases hs; exact hl w hw⟩
  · rw [List.mem_singleton.mp q] at e
    exact ⟨none, e, (fun s hs => nomatch hs)⟩
abbrev Hd := Str × List Str
def hdI (x : Hd) : I := .tup [.str x.1, .tup (x.2.map .str)]
structure HdOk (x : Hd) : Prop where
  t : Tx 8 x.1
  p : ∀ s ∈ x.2, Tx 8 s
  l : x.2.length ≤ 3
theorem ix_hd {l : List Hd} {k : Int} (h0 : 0 ≤ k) (h1 : k < (l.length : Int)) : ∃ x ∈ l, ixD (.lst (l.map hdI)) (.int k) = some (hdI x) := by
  obtain ⟨x, e, m⟩ := atI_mem (xs := l.map hdI) h0 (by simpa using h1)
  obtain ⟨w, hw, rfl⟩ := List.mem_map.mp m
  exact ⟨w, hw, e⟩
/-- the room's cells -/
structure Rm (M : Mem) (p r n h : Nat) (names : List Str) (heads : List Hd) : Prop where
  lp : p < M.length
  lr : r < M.length
  rp : r ≠ p
  np : n ≠ p
  hp : h ≠ p
  nr : n ≠ r
  hr : h ≠ r
  gn : M[n]? = some (.lst (names.map .str))
  gh : M[h]? = some (.lst (heads.map hdI))
  nm : ∀ s ∈ names, Tx 8 s
  nl : names.length ≤ 100
  hd : heads ≠ []
  hl : heads.length ≤ 100
  ho : ∀ x ∈ heads, HdOk x
def room (n h : Nat) (q : Int) : Cell := .lst [.obj n, .obj h, .int q]
def mm (M : Mem) (p r n h : Nat) (q : Int) (c : Cell) : Mem := (M.set r (room n h q)).set p c
theorem pos_len' {α : Type} {l : List α} (h : l ≠ []) : (0 : Int) < (l.length : Int) := by
  have := List.length_pos_iff.mpr h
  omega
section
variable {M : Mem} {p r n h : Nat} {names : List Str} {heads : List Hd} {q : Int} {c : Cell} {W F : Nat}
theorem Rm.gN (Z : Rm M p r n h names heads) : (mm M p r n h q c)[n]? = some (.lst (names.map .str)) := set_get (set_get Z.gn Z.nr) Z.np
theorem Rm.gH (Z : Rm M p r n h names heads) : (mm M p r n h q c)[h]? = some (.lst (heads.map hdI)) := set_get (set_get Z.gh Z.hr) Z.hp
theorem Rm.gR (Z : Rm M p r n h names heads) : (mm M p r n h q c)[r]? = some (room n h q) := set_get (set_own Z.lr) Z.rp
theorem Rm.gP (Z : Rm M p r n h names heads) : (mm M p r n h q c)[p]? = some c := set_own (by rw [List.length_set]; exact Z.lp)
theorem Rm.take (Z : Rm M p r n h names heads) (hF : 1 ≤ F) (hc : PotOk c) {many : Int} (hm : 0 < many) :
    ∃ (v : Int) (c' : Cell), 0 ≤ v ∧ v < many ∧ PotOk c' ∧ evCall T.P W F 10 [.obj p, .int many] (mm M p r n h q c) = .ok (.int v) (mm M p r n h q c') :=
  take_at hF hc (by rw [List.length_set]; exact Z.lp) hm
theorem Rm.word (Z : Rm M p r n h names heads) (hF : 2 ≤ F) (hc : PotOk c) :
    ∃ (w : Str) (c' : Cell), Tx 8 w ∧ PotOk c' ∧ evCall T.P W F 11 [.obj p] (mm M p r n h q c) = .ok (.str w) (mm M p r n h q c') := by
  obtain ⟨w, c', h1, h2, e⟩ := word_ok (W := W) hF hc (Z.gP (q := q) (c := c))
  exact ⟨w, c', h1, h2, by rw [e]; unfold mm; rw [List.set_set]⟩
theorem Rm.worth (Z : Rm M p r n h names heads) (hF : 5 ≤ F) (hc : PotOk c) {v : Int} (h0 : 0 ≤ v) (h1 : v ≤ 3) :
    ∃ (w : Wt) (c' : Cell), WtOk 3 w ∧ PotOk c' ∧ evCall T.P W F 13 [.obj p, .obj n, .int v] (mm M p r n h q c) = .ok w.i (mm M p r n h q c') := by
  obtain ⟨w, c', hw, hc', e⟩ := worth_ok (W := W) (p := p) (n := n) (names := names) (M := M.set r (room n h q)) (by rw [List.length_set]; exact Z.lp) Z.np (set_get Z.gn Z.nr) Z.nm v.toNat F c (by omega) hc
  rw [show ((v.toNat : Nat) : Int) = v by omega] at e
  exact ⟨w, c', hw.mono (by omega), hc', e⟩
end
theorem compL_go {g : I → Mem → R (Option I)} {Inv : List I → Mem → Prop} : ∀ (xs acc : List I) (M : Mem), Inv acc M → acc.length + xs.length ≤ sizeLine → (∀ x ∈ xs, ∀ acc M, Inv acc M → ∃ d M', g x M = .ok (some d) M' ∧ Inv (acc ++ [d]) M') →
    ∃ r M', compL g xs acc M = .ok r M' ∧ Inv r M' ∧ r.length = acc.length + xs.length
  | [], acc, M, h, _, _ => ⟨acc, M, rfl, h, rfl⟩
  | x :: xs, acc, M, h, hl, step => by
    obtain ⟨d, M1, e1, h1⟩ := step x List.mem_cons_self acc M h
    simp only [List.length_cons] at hl
    obtain ⟨r, M2, e2, h2, l2⟩ := compL_go xs (acc ++ [d]) M1 h1 (by rw [List.length_append, List.length_singleton]; omega) fun y hy => step y (List.mem_cons_of_mem _ hy)
    refine ⟨r, M2, ?_, h2, by rw [l2, List.length_append, List.length_singleton, List.length_cons]; omega⟩
    unfold compL
    rw [e1]
    dsimp only
    rw [if_pos (by omega)]
    exact e2
theorem P14 : T.P 14 = some D14.fn := rfl
set_option maxHeartbeats 8000000 in
theorem branch_ok {M : Mem} {p r n h : Nat} {names : List Str} {heads : List Hd} {q : Int} {c : Cell} {W F : Nat} (Z : Rm M p r n h names heads) (hF : 6 ≤ F) (hc : PotOk c) :
    ∃ (b : Br) (c' : Cell), BrOk b ∧ PotOk c' ∧ evCall T.P W F 14 [.obj p, .obj r] (mm M p r n h q c) = .ok b.i (mm M p r n h q c') := by
  obtain ⟨k, rfl⟩ : ∃ k, F = k + 1 := ⟨F - 1, by omega⟩
  have hT := fun (c : Cell) (many : Int) (hc : PotOk c) (hm : 0 < many) => Z.take (W := W) (q := q) (F := k) (by omega) hc hm
  have hD := fun (c : Cell) (hc : PotOk c) => Z.word (W := W) (q := q) (F := k) (by omega) hc
  have hW := fun (c : Cell) (v : Int) (hc : PotOk c) (h0 : 0 ≤ v) (h1 : v ≤ 3) => Z.worth (W := W) (q := q) (F := k) (by omega) hc h0 h1
  have hR : ∀ c : Cell, sh (mm M p r n h q c) (.obj r) = .lst [.obj n, .obj h, .int q] := fun c => sh_obj Z.gR
  have hN : ∀ c : Cell, sh (mm M p r n h q c) (.obj n) = .lst (names.map .str) := fun c => sh_obj Z.gN
  have hH : ∀ c : Cell, sh (mm M p r n h q c) (.obj h) = .lst (heads.map hdI) := fun c => sh_obj Z.gH
  have i0 : ixD (.lst [.obj n, .obj h, .int q]) (.int 0) = some (.obj n) := rfl
  have i1 : ixD (.lst [.obj n, .obj h, .int q]) (.int 1) = some (.obj h) := rfl
  have sz : names.length + 1 ≤ sizeLine := by rw [sl24]; have := Z.nl; omega
  have hA : addD (.lst (names.map .str)) (.lst [.non]) = some (.lst (names.map .str ++ [.non])) := by
    show (if (names.map I.str).length + [I.non].length ≤ sizeLine then some (I.lst (names.map .str ++ [.non])) else none) = _
    rw [if_pos (by simpa using sz)]
  rw [callF P14 rfl rfl]
  generalize evCall T.P W k = Φ at hT hD hW
  obtain ⟨v1, c1, v10, v11, hc1, e1⟩ := hT c ((names.length : Int) + 1) hc (by omega)
  obtain ⟨o, eo, ho⟩ := ix_opt v10 v11 Z.nm
  obtain ⟨v2, c2, v20, v21, hc2, e2⟩ := hT c1 3 hc1 (by decide)
  by_cases hv : 0 < v2
  · obtain ⟨w, c3, hw, hc3, e3⟩ := hD c2 hc2
    obtain ⟨v4, c4, v40, v41, hc4, e4⟩ := hT c3 4 hc3 (by decide)
    obtain ⟨x, c5, hx, hc5, e5⟩ := hW c4 v4 hc4 v40 (by omega)
    refine ⟨.ask o w x, c5, .ask ho hw hx, hc5, ?_⟩
    simp [DefT.fn, evSs, evS, evE, evEs, evIt, Rs.R.bind, Rs.R.of, Rs.R.out, opM, prep, Op.deep, opD, sh_int, sh_str, sh_bl, sh_non, sh_tup, sh_lst, asgT, asgTs, asgI, truth, cmpI, fr_int, fr_str, fr_bl, fr_non, fr_nil, eq_int, dispD, toCell, isTy, I.ty, isN, D14, hR, hN, hH, i0, i1, hA, lenD, add_int, e1, eo, e2, hv, e3, e4, e5, Br.i]
  · obtain ⟨v3, c3, v30, v31, hc3, e3⟩ := hT c2 (heads.length : Int) hc2 (pos_len' Z.hd)
    obtain ⟨x, hx, ex⟩ := ix_hd v30 v31
    obtain ⟨ti, ps⟩ := x
    have hX := Z.ho _ hx
    let τ : Rs.Env := [some (.obj p), some (.obj r), some (optI o), none, none, some (.str ti), some (.tup (ps.map .str)), none]
    obtain ⟨r1, M1, er, ⟨c4, ws, rfl, rfl, hc4, hws⟩, hl⟩ := compL_go (g := compP Φ [7] (.call 13 (.cons (.var 0) (.cons (.op .ix (.cons (.var 1) (.cons (.const (.int 0)) .nil))) (.cons (.call 10 (.cons (.var 0) (.cons (.const (.int 3)) .nil))) .nil)))) (.nm 7) .nil τ) (Inv := fun acc M' => ∃ (c4 : Cell) (ws : List Wt), M' = mm M p r n h q c4 ∧ acc = ws.map Wt.i ∧ PotOk c4 ∧ ∀ w ∈ ws, WtOk 3 w) (ps.map .str) [] (mm M p r n h q c3) ⟨c3, [], rfl, rfl, hc3, (fun _ z => nomatch z)⟩ (by
          have := hX.l
          simp only [List.length_nil, List.length_map]
          rw [sl24]; dsimp only at this; omega) (by
        rintro y hy acc M' ⟨c4, ws, rfl, rfl, hc4, hws⟩
        obtain ⟨v5, c5, v50, v51, hc5, e5⟩ := hT c4 3 hc4 (by decide)
        obtain ⟨x, c6, hx, hc6, e6⟩ := hW c5 v5 hc5 v50 (by omega)
        refine ⟨x.i, _, ?_, c6, ws ++ [x], rfl, by simp, hc6, fun w hw => ?_⟩
        · simp [τ, compP, wipeE, evT, asgT, asgI, evE, evEs, Rs.R.bind, Rs.R.of, opM, prep, Op.deep, opD, hR, sh_int, i0, e5, e6]
        · rcases List.mem_append.mp hw with q | q
          · exact hws w q
          · rw [List.mem_singleton.mp q]; exact hx)
    refine ⟨.call o ti ws, c4, .call ho hX.t ?_ hws, hc4, ?_⟩
    · have := hX.l
      simp only [List.length_map, List.length_nil] at hl
      dsimp only at this
      omega
    · have es : seqItems (mm M p r n h q c3) (.tup (ps.map .str)) = some (.vals (ps.map .str)) := rfl
      simp only [τ] at er
      unfold compP at er
      have ex : ixD (.lst (heads.map hdI)) (.int v3) = some (.tup [.str ti, .tup (ps.map .str)]) := ex
      simp [DefT.fn, evSs, evS, evE, evEs, evIt, Rs.R.bind, Rs.R.of, Rs.R.out, opM, prep, Op.deep, opD, sh_int, sh_str, sh_bl, sh_non, sh_tup, sh_lst, asgT, asgTs, asgI, truth, cmpI, fr_int, fr_str, fr_bl, fr_non, fr_nil, eq_int, dispD, toCell, isTy, I.ty, isN, D14, hR, hN, hH, i0, i1, hA, lenD, add_int, e1, eo, e2, hv, e3, ex, es, wipeE, evT, Br.i, compP] at er ⊢
      simp [er, sh_lst]

end K07

namespace K07
open PySem PySem.Spec PyProof.Rows L2 Rs
inductive Sy where
  | tell | give | fail
def Sy.s : Sy → Str
  | .tell => "tell" | .give => "give" | .fail => "fail"
inductive Rw where
  | want (k : Int) (bs : List Br)
  | set (x : Str) (w : Wt)
  | say (j : Sy) (w : Wt)
  | whl (w : Wt) (b : List Rw)
  | iff (w : Wt) (a b : List Rw)
  | tri (a : List Rw) (nm : Option Str) (b : List Rw)
  | dd (a b : List Rw)
mutual
def Rw.i : Rw → I
  | .want k bs => .tup [.str "want", .int k, .tup (bs.map Br.i)]
  | .set x w => .tup [.str "set", .str x, w.i]
  | .say j w => .tup [.str j.s, w.i]
  | .whl w b => .tup [.str "while", w.i, .tup (Rw.is b)]
  | .iff w a b => .tup [.str "if", w.i, .tup (Rw.is a), .tup (Rw.is b)]
  | .tri a nm b => .tup [.str "try", .tup (Rw.is a), optI nm, .tup (Rw.is b)]
  | .dd a b => .tup [.str "do", .tup (Rw.is a), .tup (Rw.is b)]
def Rw.is : List Rw → List I
  | [] => []
  | r :: rs => Rw.i r :: Rw.is rs
end
theorem is_map : ∀ b : List Rw, Rw.is b = b.map Rw.i
  | [] => by rw [Rw.is]; rfl
  | r :: rs => by rw [Rw.is, is_map rs]; rfl
/-! ### their lines -/
def after (a : Str) (ws : List Wt) : Str := ws.foldl (fun acc w => acc ++ " " ++ w.t) a
def named (nm : Option Str) (s : Str) : Str := match nm with
  | none => s
  | some n => n ++ " = " ++ s
def Br.t : Br → Str
  | .ask nm who w => named nm ("ask" ++ " " ++ who ++ " " ++ w.t)
  | .call nm ti ws => named nm (after ("call" ++ " " ++ ti) ws)
def catchT : Option Str → Str
  | none => "catch"
  | some n => "catch " ++ n
mutual
def Rw.ln : Rw → List Str
  | .want k bs => ("want " ++ Str.ofString (toString k)) :: (bs.map Br.t ++ [("end" : Str)])
  | .set x w => ["set " ++ x ++ " " ++ w.t]
  | .say j w => [j.s ++ " " ++ w.t]
  | .whl w b => ("while " ++ w.t) :: (Rw.lns b ++ [("end" : Str)])
  | .iff w a b => ("if " ++ w.t) :: (Rw.lns a ++ ("else" : Str) :: (Rw.lns b ++ [("end" : Str)]))
  | .tri a nm b => ("try" : Str) :: (Rw.lns a ++ catchT nm :: (Rw.lns b ++ [("end" : Str)]))
  | .dd a b => ("do" : Str) :: (Rw.lns a ++ ("undo" : Str) :: (Rw.lns b ++ [("end" : Str)]))
def Rw.lns : List Rw → List Str
  | [] => []
  | r :: rs => Rw.ln r ++ Rw.lns rs
end
theorem lns_app : ∀ a b : List Rw, Rw.lns (a ++ b) = Rw.lns a ++ Rw.lns b
  | [], b => by rw [Rw.lns]; rfl
  | r :: rs, b => by rw [List.cons_append, Rw.lns, Rw.lns, lns_app rs b, List.append_assoc]
inductive RwOk : Nat → Rw → Prop
  | want {d : Nat} {k : Int} {bs : List Br} (h0 : 0 ≤ k) (h1 : k ≤ 10) (h2 : bs.length ≤ 4) (h3 : ∀ b ∈ bs, BrOk b) : RwOk d (.want k bs)
  | set {d : Nat} {x : Str} {w : Wt} (h1 : Tx 8 x) (h2 : WtOk 3 w) : RwOk d (.set x w)
  | say {d : Nat} {j : Sy} {w : Wt} (h2 : WtOk 3 w) : RwOk d (.say j w)
  | whl {d : Nat} {w : Wt} {b : List Rw} (h : WtOk 3 w) (h1 : ∀ r ∈ b, RwOk d r) : RwOk (d + 1) (.whl w b)
  | iff {d : Nat} {w : Wt} {a b : List Rw} (h : WtOk 3 w) (h1 : ∀ r ∈ a, RwOk d r) (h2 : ∀ r ∈ b, RwOk d r) : RwOk (d + 1) (.iff w a b)
  | tri {d : Nat} {nm : Option Str} {a b : List Rw} (h : OptOk nm) (h1 : ∀ r ∈ a, RwOk d r) (h2 : ∀ r ∈ b, RwOk d r) : RwOk (d + 1) (.tri a nm b)
  | dd {d : Nat} {a b : List Rw} (h1 : ∀ r ∈ a, RwOk d r) (h2 : ∀ r ∈ b, RwOk d r) : RwOk (d + 1) (.dd a b)
/-! ### memories -/
structure Sm (p r : Nat) (M M' : Mem) : Prop where
  l : M.length ≤ M'.length
  g : ∀ i, i < M.length → i ≠ p → i ≠ r → M'[i]? = M[i]?
section
variable {M M1 M' : Mem} {p r n h : Nat} {names : List Str} {heads : List Hd} {q q' : Int} {c c' : Cell} {W F : Nat}
theorem Sm.rfl : Sm p r M M := ⟨Nat.le_refl _, fun _ _ _ _ => Eq.refl _⟩
theorem Sm.trans (a : Sm p r M M1) (b : Sm p r M1 M') : Sm p r M M' := ⟨Nat.le_trans a.l b.l, fun i hi h1 h2 => (b.g i (Nat.lt_of_lt_of_le hi a.l) h1 h2).trans (a.g i hi h1 h2)⟩
theorem Sm.app (x : Cell) : Sm p r M (M ++ [x]) := ⟨by simp, fun i hi _ _ => List.getElem?_append_left hi⟩
theorem Sm.put (a : Sm p r M M1) (m : Nat) (hm : M.length ≤ m) (x : Cell) : Sm p r M (M1.set m x) := ⟨by rw [List.length_set]; exact a.l, fun i hi h1 h2 => by
  rw [List.getElem?_set_ne (by omega)]
  exact a.g i hi h1 h2⟩
theorem Rm.to (Z : Rm M p r n h names heads) (s : Sm p r M M') : Rm M' p r n h names heads := by
  have ln := (List.getElem?_eq_some_iff.mp Z.gn).1
  have lh := (List.getElem?_eq_some_iff.mp Z.gh).1
  exact ⟨Nat.lt_of_lt_of_le Z.lp s.l, Nat.lt_of_lt_of_le Z.lr s.l, Z.rp, Z.np, Z.hp, Z.nr, Z.hr, (s.g n ln Z.np Z.nr).trans Z.gn, (s.g h lh Z.hp Z.hr).trans Z.gh, Z.nm, Z.nl, Z.hd, Z.hl, Z.ho⟩
theorem mm_len : (mm M p r n h q c).length = M.length := by unfold mm; simp
theorem mm_app (Z : Rm M p r n h names heads) (x : Cell) : mm M p r n h q c ++ [x] = mm (M ++ [x]) p r n h q c := by
  unfold mm
  rw [List.set_append_left _ _ Z.lr, List.set_append_left _ _ (by rw [List.length_set]; exact Z.lp)]
theorem mm_set {m : Nat} (h1 : m ≠ p) (h2 : m ≠ r) (x : Cell) : (mm M p r n h q c).set m x = mm (M.set m x) p r n h q c := by
  unfold mm
  rw [List.set_comm _ _ (Ne.symm h1), List.set_comm _ _ (Ne.symm h2)]
theorem mm_r (Z : Rm M p r n h names heads) : (mm M p r n h q c).set r (.lst [.obj n, .obj h, .int q']) = mm M p r n h q' c := by
  unfold mm
  rw [List.set_comm _ _ (Ne.symm Z.rp), List.set_set]; rfl
theorem mm_get {m : Nat} (h1 : m ≠ p) (h2 : m ≠ r) : (mm M p r n h q c)[m]? = M[m]? := by
  unfold mm
  rw [List.getElem?_set_ne (Ne.symm h1), List.getElem?_set_ne (Ne.symm h2)]
/-- behind rows -/
structure Post (p r n h : Nat) (names : List Str) (heads : List Hd) (d : Nat) (M M' : Mem) (q q' : Int) (c' : Cell) (b : List Rw) : Prop where
  rm : Rm M' p r n h names heads
  sm : Sm p r M M'
  pc : PotOk c'
  q0 : 0 ≤ q'
  q1 : q' ≤ q
  ok : ∀ r ∈ b, RwOk d r
  ln : ((Rw.lns b).length : Int) ≤ 6 * (q - q')
theorem Post.app {d : Nat} {q1 q2 : Int} {c1 c2 : Cell} {M2 : Mem} {b1 b2 : List Rw} (h1 : Post p r n h names heads d M M1 q q1 c1 b1) (h2 : Post p r n h names heads d M1 M2 q1 q2 c2 b2) : Post p r n h names heads d M M2 q q2 c2 (b1 ++ b2) :=
  ⟨h2.rm, h1.sm.trans h2.sm, h2.pc, h2.q0, Int.le_trans h2.q1 h1.q1, fun x hx => (List.mem_append.mp hx).elim (h1.ok x) (h2.ok x), by
    have := h1.ln; have := h2.ln
    rw [lns_app, List.length_append]; omega⟩
end
section
variable (p r n h : Nat) (names : List Str) (heads : List Hd) (W : Nat)
def BlockSt (d : Nat) : Prop := ∀ (F : Nat) (M : Mem) (q : Int) (c : Cell) (und : Bool), 3 * d + 8 ≤ F → Rm M p r n h names heads → 0 ≤ q → PotOk c →
  ∃ (b : List Rw) (M' : Mem) (q' : Int) (c' : Cell), Post p r n h names heads d M M' q q' c' b ∧ evCall T.P W F 17 [.obj p, .obj r, .int (d : Int), .bl und] (mm M p r n h q c) = .ok (.tup (Rw.is b)) (mm M' p r n h q' c')
def NestSt (d : Nat) : Prop := ∀ (F : Nat) (M : Mem) (q v : Int) (c : Cell) (und : Bool), 3 * d + 9 ≤ F → Rm M p r n h names heads → 0 ≤ q → PotOk c → 8 ≤ v → v < 12 →
  ∃ (x : Rw) (M' : Mem) (q' : Int) (c' : Cell), Rm M' p r n h names heads ∧ Sm p r M M' ∧ PotOk c' ∧ 0 ≤ q' ∧ q' ≤ q ∧ RwOk (d + 1) x ∧ (x.ln.length : Int) ≤ 6 * (q - q') + 3 ∧ evCall T.P W F 15 [.obj p, .obj r, .int v, .int (d : Int), .bl und] (mm M p r n h q c) = .ok x.i (mm M' p r n h q' c')
def RowSt (d : Nat) : Prop := ∀ (F : Nat) (M : Mem) (q : Int) (c : Cell) (und : Bool), 3 * d + 7 ≤ F → Rm M p r n h names heads → 0 < q → PotOk c →
  ∃ (x : Rw) (M' : Mem) (q' : Int) (c' : Cell), Rm M' p r n h names heads ∧ Sm p r M M' ∧ PotOk c' ∧ 0 ≤ q' ∧ q' ≤ q ∧ RwOk d x ∧ (x.ln.length : Int) ≤ 6 * (q - q') ∧ evCall T.P W F 16 [.obj p, .obj r, .int (d : Int), .bl und] (mm M p r n h q c) = .ok x.i (mm M' p r n h q' c')
end
section
variable {p r n h : Nat} {names : List Str} {heads : List Hd} {W : Nat}
theorem P15 : T.P 15 = some D15.fn := rfl
theorem P16 : T.P 16 = some D16.fn := rfl
theorem P17 : T.P 17 = some D17.fn := rfl
theorem hA_of {M : Mem} (Z : Rm M p r n h names heads) : addD (.lst (names.map .str)) (.lst [.non]) = some (.lst (names.map .str ++ [.non])) := by
  have sz : names.length + 1 ≤ sizeLine := by rw [sl24]; have := Z.nl; omega
  show (if (names.map I.str).length + [I.non].length ≤ sizeLine then some (I.lst (names.map .str ++ [.non])) else none) = _
  rw [if_pos (by simpa using sz)]
set_option maxHeartbeats 8000000 in
theorem nest_ok {d : Nat} (hB : BlockSt p r n h names heads W d) : NestSt p r n h names heads W d := by
  intro F M q v c und hF Z hq hc v0 v1
  obtain ⟨k, rfl⟩ : ∃ k, F = k + 1 := ⟨F - 1, by omega⟩
  have hBk := fun (M : Mem) (q : Int) (c : Cell) (und : Bool) (Z : Rm M p r n h names heads) (hq : 0 ≤ q) (hc : PotOk c) => hB k M q c und (by omega) Z hq hc
  have hT := fun (M : Mem) (q : Int) (c : Cell) (many : Int) (Z : Rm M p r n h names heads) (hc : PotOk c) (hm : 0 < many) => Z.take (W := W) (q := q) (F := k) (by omega) hc hm
  have hW := fun (M : Mem) (q : Int) (c : Cell) (v : Int) (Z : Rm M p r n h names heads) (hc : PotOk c) (h0 : 0 ≤ v) (h1 : v ≤ 3) => Z.worth (W := W) (q := q) (F := k) (by omega) hc h0 h1
  have hA := hA_of Z
  have i0 : ∀ q : Int, ixD (.lst [.obj n, .obj h, .int q]) (.int 0) = some (.obj n) := fun _ => rfl
  rw [callF P15 rfl rfl]
  generalize evCall T.P W k = Φ at hBk hT hW
  by_cases h11 : v = 11
  · subst h11
    obtain ⟨a, M1, q1, c1, p1, e1⟩ := hBk M q c und Z hq hc
    obtain ⟨b, M2, q2, c2, p2, e2⟩ := hBk M1 q1 c1 true p1.rm p1.q0 p1.pc
    have pp := p1.app p2
    refine ⟨.dd a b, M2, q2, c2, pp.rm, pp.sm, pp.pc, pp.q0, pp.q1, .dd p1.ok p2.ok, ?_, ?_⟩
    · have := p1.ln; have := p2.ln
      rw [Rw.ln]
      simp only [List.length_cons, List.length_append, List.length_nil]
      omega
    · simp [DefT.fn, evSs, evS, evE, evEs, evIt, Rs.R.bind, Rs.R.of, Rs.R.out, opM, prep, Op.deep, opD, sh_int, sh_str, sh_bl, sh_non, sh_tup, sh_lst, asgT, asgTs, asgI, truth, cmpI, fr_int, fr_str, fr_bl, fr_non, fr_nil, eq_int, dispD, toCell, isTy, I.ty, isN, D15, e1, e2, Rw.i]
  · have hv11 : (v == 11) = false := by simpa using h11
    by_cases h10 : v = 10
    · subst h10
      obtain ⟨a, M1, q1, c1, p1, e1⟩ := hBk M q c und Z hq hc
      have Z1 := p1.rm
      obtain ⟨u, c2, u0, u1, hc2, e2⟩ := hT M1 q1 c1 ((names.length : Int) + 1) Z1 p1.pc (by omega)
      obtain ⟨o, eo, ho⟩ := ix_opt u0 u1 Z.nm
      obtain ⟨b, M2, q2, c3, p2, e3⟩ := hBk M1 q1 c2 und p1.rm p1.q0 hc2
      have hR := sh_obj (Z1.gR (q := q1) (c := c1))
      have hN := sh_obj (Z1.gN (q := q1) (c := c1))
      unfold room at hR
      refine ⟨.tri a o b, M2, q2, c3, p2.rm, p1.sm.trans p2.sm, p2.pc, p2.q0, Int.le_trans p2.q1 p1.q1, .tri ho p1.ok p2.ok, ?_, ?_⟩
      · have := p1.ln; have := p2.ln
        rw [Rw.ln]
        simp only [List.length_cons, List.length_append, List.length_nil]
        omega
      · simp [DefT.fn, evSs, evS, evE, evEs, evIt, Rs.R.bind, Rs.R.of, Rs.R.out, opM, prep, Op.deep, opD, sh_int, sh_str, sh_bl, sh_non, sh_tup, sh_lst, asgT, asgTs, asgI, truth, cmpI, fr_int, fr_str, fr_bl, fr_non, fr_nil, eq_int, dispD, toCell, isTy, I.ty, isN, D15, e1, e2, hR, hN, i0, hA, lenD, add_int, eo, e3, Rw.i]
    · have hv10 : (v == 10) = false := by simpa using h10
      obtain ⟨u, c1, u0, u1, hc1, e1⟩ := hT M q c 3 Z hc (by decide)
      obtain ⟨w, c2, hw, hc2, e2⟩ := hW M q c1 u Z hc1 u0 (by omega)
      obtain ⟨a, M1, q1, c3, p1, e3⟩ := hBk M q c2 und Z hq hc2
      have hR := sh_obj (Z.gR (q := q) (c := c))
      unfold room at hR
      by_cases h9 : v = 9
      · subst h9
        refine ⟨.whl w a, M1, q1, c3, p1.rm, p1.sm, p1.pc, p1.q0, p1.q1, .whl hw p1.ok, ?_, ?_⟩
        · have := p1.ln
          rw [Rw.ln]
          simp only [List.length_cons, List.length_append, List.length_nil]
          omega
        · simp [DefT.fn, evSs, evS, evE, evEs, evIt, Rs.R.bind, Rs.R.of, Rs.R.out, opM, prep, Op.deep, opD, sh_int, sh_str, sh_bl, sh_non, sh_tup, sh_lst, asgT, asgTs, asgI, truth, cmpI, fr_int, fr_str, fr_bl, fr_non, fr_nil, eq_int, dispD, toCell, isTy, I.ty, isN, D15, e1, e2, hR, i0, e3, Rw.i]
      · have hv9 : (v == 9) = false := by simpa using h9
        obtain ⟨b, M2, q2, c4, p2, e4⟩ := hBk M1 q1 c3 und p1.rm p1.q0 p1.pc
        refine ⟨.iff w a b, M2, q2, c4, p2.rm, p1.sm.trans p2.sm, p2.pc, p2.q0, Int.le_trans p2.q1 p1.q1, .iff hw p1.ok p2.ok, ?_, ?_⟩
        · have := p1.ln; have := p2.ln
          rw [Rw.ln]
          simp only [List.length_cons, List.length_append, List.length_nil]
          omega
        · simp [DefT.fn, evSs, evS, evE, evEs, evIt, Rs.R.bind, Rs.R.of, Rs.R.out, opM, prep, Op.deep, opD, sh_int, sh_str, sh_bl, sh_non, sh_tup, sh_lst, asgT, asgTs, asgI, truth, cmpI, fr_int, fr_str, fr_bl, fr_non, fr_nil, eq_int, dispD, toCell, isTy, I.ty, isN, D15, h11, h10, h9, hv11, hv10, hv9, e1, e2, hR, i0, e3, e4, Rw.i]
end
end K07

namespace K07
open PySem PySem.Spec PyProof.Rows L2 Rs
section
variable {p r n h : Nat} {names : List Str} {heads : List Hd} {W : Nat}
theorem range_int {m : Nat} {i : Nat} {y : I} (hy : ((List.range m).map fun k : Nat => I.int (k : Int))[i]? = some y) : i < m ∧ ∃ x : Int, y = .int x := by
  refine ⟨by simpa using (List.getElem?_eq_some_iff.mp hy).1, ?_⟩
  rw [List.getElem?_map] at hy
  obtain ⟨z, _, rfl⟩ := Option.map_eq_some_iff.mp hy
  exact ⟨_, rfl⟩
theorem snoc_set {M : Mem} {x y : Cell} : (M ++ [x]).set M.length y = M ++ [y] := by
  rw [List.set_append_right _ _ (Nat.le_refl _), Nat.sub_self]; rfl
set_option maxHeartbeats 8000000 in
theorem row_ok {d : Nat} (hN : NestSt p r n h names heads W d) : RowSt p r n h names heads W (d + 1) := by
  intro F M q c und hF Z hq hc
  obtain ⟨k, rfl⟩ : ∃ k, F = k + 1 := ⟨F - 1, by omega⟩
  have hNs := fun (M : Mem) (q v : Int) (c : Cell) (und : Bool) (Z : Rm M p r n h names heads) (hq : 0 ≤ q) (hc : PotOk c) (h1 : 8 ≤ v) (h2 : v < 12) => hN k M q v c und (by omega) Z hq hc h1 h2
  have hBr := fun (M : Mem) (q : Int) (c : Cell) (Z : Rm M p r n h names heads) (hc : PotOk c) => branch_ok (W := W) (q := q) (F := k) Z (by omega) hc
  have hT := fun (M : Mem) (q : Int) (c : Cell) (many : Int) (Z : Rm M p r n h names heads) (hc : PotOk c) (hm : 0 < many) => Z.take (W := W) (q := q) (F := k) (by omega) hc hm
  have hW := fun (M : Mem) (q : Int) (c : Cell) (v : Int) (Z : Rm M p r n h names heads) (hc : PotOk c) (h0 : 0 ≤ v) (h1 : v ≤ 3) => Z.worth (W := W) (q := q) (F := k) (by omega) hc h0 h1
  have i0 : ∀ q : Int, ixD (.lst [.obj n, .obj h, .int q]) (.int 0) = some (.obj n) := fun _ => rfl
  have i2 : ixD (.lst [.obj n, .obj h, .int q]) (.int 2) = some (.int q) := rfl
  have st : setC (.lst [.obj n, .obj h, .int q]) (.int 2) (.int (q - 1)) = some (.lst [.obj n, .obj h, .int (q - 1)]) := rfl
  have g0 := Z.gR (q := q) (c := c)
  have hR := fun (M : Mem) (q : Int) (c : Cell) (Z : Rm M p r n h names heads) => sh_obj (Z.gR (q := q) (c := c))
  have s0 := hR M q c Z
  unfold room at g0 hR s0
  have mr := mm_r (q := q) (q' := q - 1) (c := c) Z
  have dd : ((d + 1 : Nat) : Int) - 1 = (d : Int) := by omega
  rw [callF P16 rfl rfl]
  generalize evCall T.P W k = Φ at hNs hBr hT hW
  generalize ((d + 1 : Nat) : Int) = de at dd ⊢
  obtain ⟨v, c1, v0, v1, hc1, e1⟩ := hT M (q - 1) c 12 Z hc (by decide)
  have s1 := hR M (q - 1)
  by_cases hv3 : v < 3
  · obtain ⟨u, c2, u0, u1, hc2, e2⟩ := hT (M ++ [.lst []]) (q - 1) c1 4 (Z.to (Sm.app _)) hc1 (by decide)
    have hmp : M.length ≠ p := by have := Z.lp; omega
    have hmr : M.length ≠ r := by have := Z.lr; omega
    obtain ⟨τ', M', e, bs, c3, x7, rfl, rfl, hbs, hlen, hc3⟩ := each_go (g := .nm 7) (b := evSs Φ W B16_0)
      (Inv := fun j τ M' => ∃ (bs : List Br) (c3 : Cell) (x7 : Option I), M' = mm (M ++ [.lst (bs.map Br.i)]) p r n h (q - 1) c3 ∧ τ = [some (.obj p), some (.obj r), some (.int de), some (.bl und), some (.int v), none, some (.obj M.length), x7] ∧ (∀ b ∈ bs, BrOk b) ∧ bs.length = j ∧ PotOk c3)
      ((List.range (1 + u).toNat).map fun k : Nat => I.int (k : Int)) 0 [some (.obj p), some (.obj r), some (.int de), some (.bl und), some (.int v), none, some (.obj M.length), none] (mm (M ++ [.lst []]) p r n h (q - 1) c2) ⟨[], c2, none, rfl, rfl, (fun _ z => nomatch z), rfl, hc2⟩ (by
        rintro i τ M' y hy ⟨bs, c3, x7, rfl, rfl, hbs, hlen, hc3⟩
        obtain ⟨hi, x, rfl⟩ := range_int hy
        obtain ⟨b, c4, hb, hc4, e4⟩ := hBr (M ++ [.lst (bs.map Br.i)]) (q - 1) c3 (Z.to (Sm.app _)) hc3
        have g1 : ∀ c : Cell, (mm (M ++ [Cell.lst (bs.map Br.i)]) p r n h (q - 1) c)[M.length]? = some (.lst (bs.map Br.i)) := fun c => (mm_get hmp hmr).trans (by simp)
        have g2 : ∀ y : Cell, (mm (M ++ [Cell.lst (bs.map Br.i)]) p r n h (q - 1) c4).set M.length y = mm (M ++ [y]) p r n h (q - 1) c4 := fun y => by rw [mm_set hmp hmr, snoc_set]
        have hsz : bs.length < sizeLine := by rw [sl24]; omega
        refine ⟨_, [some (.obj p), some (.obj r), some (.int de), some (.bl und), some (.int v), none, some (.obj M.length), some (.int x)], mm (M ++ [.lst ((bs ++ [b]).map Br.i)]) p r n h (q - 1) c4, rfl, ?_, bs ++ [b], c4, _, rfl, rfl, fun z hz => ?_, by simp; omega, hc4⟩
        · simp [DefT.fn, evSs, evS, evE, evEs, evIt, Rs.R.bind, Rs.R.of, Rs.R.out, opM, prep, Op.deep, opD, sh_int, sh_str, sh_bl, sh_non, sh_tup, sh_lst, asgT, asgTs, asgI, truth, cmpI, fr_int, fr_str, fr_bl, fr_non, fr_nil, eq_int, dispD, toCell, isTy, I.ty, isN, B16_0, e4, g1, g2, hsz]
        · rcases List.mem_append.mp hz with w | w
          · exact hbs z w
          · rw [List.mem_singleton.mp w]; exact hb)
    rw [Nat.zero_add, List.length_map, List.length_range] at hlen
    have hb4 : bs.length ≤ 4 := by omega
    have hb0 : (0 : Int) < (bs.length : Int) := by omega
    have Zb := Z.to (Sm.app (p := p) (r := r) (.lst (bs.map Br.i)))
    obtain ⟨t, c4, t0, t1, hc4, e4⟩ := hT (M ++ [.lst (bs.map Br.i)]) (q - 1) c3 (bs.length : Int) Zb hc3 hb0
    have g3 : ∀ c : Cell, sh (mm (M ++ [Cell.lst (bs.map Br.i)]) p r n h (q - 1) c) (.obj M.length) = .lst (bs.map Br.i) := fun c => sh_obj ((mm_get hmp hmr).trans (by simp))
    refine ⟨.want (1 + t) bs, _, q - 1, c4, Zb, Sm.app _, hc4, by omega, by omega, .want (by omega) (by omega) hb4 hbs, ?_, ?_⟩
    · rw [Rw.ln]
      simp only [List.length_cons, List.length_append, List.length_nil, List.length_map]
      omega
    · have hr : -(2 ^ 62) ≤ 1 + u ∧ 1 + u < 2 ^ 62 := by omega
      have ma := mm_app (q := q - 1) (c := c1) Z (.lst [])
      simp [DefT.fn, evSs, evS, evE, evEs, evIt, Rs.R.bind, Rs.R.of, Rs.R.out, opM, prep, Op.deep, opD, sh_int, sh_str, sh_bl, sh_non, sh_tup, sh_lst, asgT, asgTs, asgI, truth, cmpI, fr_int, fr_str, fr_bl, fr_non, fr_nil, eq_int, dispD, toCell, isTy, I.ty, isN, D16, s0, i2, subD, st, g0, mr, e1, hv3, mm_len, ma, e2, add_int, rangeItems, hr, -Int.reducePow, -Int.reduceNeg]
      simp [e, g3, lenD, e4, sh_int, add_int, Rw.i]
  · by_cases hv7 : 7 < v
    · obtain ⟨x, M1, q1, c2, Z1, sm1, hc2, q10, q11, ok1, ln1, e2⟩ := hNs M (q - 1) v c1 und Z (by omega) hc1 (by omega) v1
      refine ⟨x, M1, q1, c2, Z1, sm1, hc2, q10, by omega, ok1, by omega, ?_⟩
      simp [DefT.fn, evSs, evS, evE, evEs, evIt, Rs.R.bind, Rs.R.of, Rs.R.out, opM, prep, Op.deep, opD, sh_int, sh_str, sh_bl, sh_non, sh_tup, sh_lst, asgT, asgTs, asgI, truth, cmpI, fr_int, fr_str, fr_bl, fr_non, fr_nil, eq_int, dispD, toCell, isTy, I.ty, isN, D16, s0, i2, subD, st, g0, mr, e1, hv3, hv7, dd, e2]
    · obtain ⟨u, c2, u0, u1, hc2, e2⟩ := hT M (q - 1) c1 4 Z hc1 (by decide)
      obtain ⟨w, c3, hw, hc3, e3⟩ := hW M (q - 1) c2 u Z hc2 u0 (by omega)
      have hZ : ∀ c : Cell, frz (mm M p r n h (q - 1) c) dpt (.obj n) = some (.lst (names.map .str)) := fun c => frz_lst Z.gN (flats_strs _)
      have hL : ∀ c : Cell, sh (mm M p r n h (q - 1) c) (.obj n) = .lst (names.map .str) := fun c => sh_obj Z.gN
      have hE := eq_nil Z.nm
      have s2 : ∀ c : Cell, sh (mm M p r n h (q - 1) c) (.obj r) = .lst [.obj n, .obj h, .int (q - 1)] := fun c => hR M (q - 1) c Z
      by_cases hs : v < 5 ∧ names ≠ []
      · obtain ⟨hv5, hnm⟩ := hs
        obtain ⟨t, c4, t0, t1, hc4, e4⟩ := hT M (q - 1) c3 (names.length : Int) Z hc3 (pos_len' hnm)
        obtain ⟨nm, en, hm⟩ := ix_wd t0 t1
        rw [neg_nil hnm] at hE
        refine ⟨.set nm w, M, q - 1, c4, Z, Sm.rfl, hc4, by omega, by omega, .set (Z.nm nm hm) hw, ?_, ?_⟩
        · rw [Rw.ln]
          simp only [List.length_cons, List.length_nil]
          omega
        · simp [DefT.fn, evSs, evS, evE, evEs, evIt, Rs.R.bind, Rs.R.of, Rs.R.out, opM, prep, Op.deep, opD, sh_int, sh_str, sh_bl, sh_non, sh_tup, sh_lst, asgT, asgTs, asgI, truth, cmpI, fr_int, fr_str, fr_bl, fr_non, fr_nil, eq_int, dispD, toCell, isTy, I.ty, isN, D16, s0, i2, subD, st, g0, mr, e1, hv3, hv7, dd, e2, e3, s2, i0, hZ, hL, hE, hv5, lenD, e4, en, Rw.i]
      · have hb : v < 5 → names.isEmpty = true := fun h => by
          cases hn : names with
          | nil => rfl
          | cons a l => exact absurd ⟨h, by rw [hn]; simp⟩ hs
        have fin : ∀ (j : Sy), evSs Φ W D16.fn.body [some (.obj p), some (.obj r), some (.int de), some (.bl und), none, none, none, none] (mm M p r n h q c) = some (.ret (Rw.say j w).i (mm M p r n h (q - 1) c3)) →
            ∃ (x : Rw) (M' : Mem) (q' : Int) (c' : Cell), Rm M' p r n h names heads ∧ Sm p r M M' ∧ PotOk c' ∧ 0 ≤ q' ∧ q' ≤ q ∧ RwOk (d + 1) x ∧ (x.ln.length : Int) ≤ 6 * (q - q') ∧
              (match evSs Φ W D16.fn.body (List.map some [I.obj p, .obj r, .int de, .bl und] ++ List.replicate (D16.fn.ns - D16.fn.np) none) (mm M p r n h q c) with
          | some (.nx _ M1) => R.ok I.non M1
          | some (.ret v M1) => .ok v M1
          | some (.ex c _ M1) => .ex c M1
          | _ => .no) = .ok x.i (mm M' p r n h q' c') := fun j e => by
          refine ⟨.say j w, M, q - 1, c3, Z, Sm.rfl, hc3, by omega, by omega, .say hw, ?_, ?_⟩
          · rw [Rw.ln]
            simp only [List.length_cons, List.length_nil]
            omega
          · have e' : evSs Φ W D16.fn.body (List.map some [I.obj p, .obj r, .int de, .bl und] ++ List.replicate (D16.fn.ns - D16.fn.np) none) (mm M p r n h q c) = _ := e
            rw [e']
        by_cases h5 : v = 5
        · subst h5
          cases und with
          | false =>
            refine fin .give ?_
            simp [DefT.fn, evSs, evS, evE, evEs, evIt, Rs.R.bind, Rs.R.of, Rs.R.out, opM, prep, Op.deep, opD, sh_int, sh_str, sh_bl, sh_non, sh_tup, sh_lst, asgT, asgTs, asgI, truth, cmpI, fr_int, fr_str, fr_bl, fr_non, fr_nil, eq_int, dispD, toCell, isTy, I.ty, isN, D16, s0, i2, subD, st, g0, mr, e1, dd, e2, e3, s2, i0, hZ, hL, hE, Rw.i, Sy.s]
          | true =>
            refine fin .tell ?_
            have a : ixD (.lst [.str "tell", .str "fail"]) (.int 0) = some (.str "tell") := rfl
            simp [DefT.fn, evSs, evS, evE, evEs, evIt, Rs.R.bind, Rs.R.of, Rs.R.out, opM, prep, Op.deep, opD, sh_int, sh_str, sh_bl, sh_non, sh_tup, sh_lst, asgT, asgTs, asgI, truth, cmpI, fr_int, fr_str, fr_bl, fr_non, fr_nil, eq_int, dispD, toCell, isTy, I.ty, isN, D16, s0, i2, subD, st, g0, mr, e1, dd, e2, e3, s2, i0, hZ, hL, hE, Rw.i, Sy.s, a]
        · have h5' : (v == 5) = false := by simpa using h5
          have a0 : ixD (.lst [.str "tell", .str "fail"]) (.int 0) = some (.str "tell") := rfl
          have a1 : ixD (.lst [.str "tell", .str "fail"]) (.int 1) = some (.str "fail") := rfl
          by_cases h6 : v = 6
          · subst h6
            refine fin .fail ?_
            simp [DefT.fn, evSs, evS, evE, evEs, evIt, Rs.R.bind, Rs.R.of, Rs.R.out, opM, prep, Op.deep, opD, sh_int, sh_str, sh_bl, sh_non, sh_tup, sh_lst, asgT, asgTs, asgI, truth, cmpI, fr_int, fr_str, fr_bl, fr_non, fr_nil, eq_int, dispD, toCell, isTy, I.ty, isN, D16, s0, i2, subD, st, g0, mr, e1, dd, e2, e3, s2, i0, hZ, hL, hE, Rw.i, Sy.s, a1]
          · have h6' : (v == 6) = false := by simpa using h6
            refine fin .tell ?_
            by_cases hv5 : v < 5
            · rw [hb hv5] at hE
              simp [DefT.fn, evSs, evS, evE, evEs, evIt, Rs.R.bind, Rs.R.of, Rs.R.out, opM, prep, Op.deep, opD, sh_int, sh_str, sh_bl, sh_non, sh_tup, sh_lst, asgT, asgTs, asgI, truth, cmpI, fr_int, fr_str, fr_bl, fr_non, fr_nil, eq_int, dispD, toCell, isTy, I.ty, isN, D16, s0, i2, subD, st, g0, mr, e1, hv3, hv7, dd, e2, e3, s2, i0, hZ, hL, hE, hv5, h5', h6', h5, h6, Rw.i, Sy.s, a0]
            · simp [DefT.fn, evSs, evS, evE, evEs, evIt, Rs.R.bind, Rs.R.of, Rs.R.out, opM, prep, Op.deep, opD, sh_int, sh_str, sh_bl, sh_non, sh_tup, sh_lst, asgT, asgTs, asgI, truth, cmpI, fr_int, fr_str, fr_bl, fr_non, fr_nil, eq_int, dispD, toCell, isTy, I.ty, isN, D16, s0, i2, subD, st, g0, mr, e1, hv3, hv7, dd, e2, e3, s2, i0, hZ, hL, hE, hv5, h5', h6', h5, h6, Rw.i, Sy.s, a0]
theorem ix_ints {l : List Int} {k : Int} (h0 : 0 ≤ k) (h1 : k < (l.length : Int)) : ∃ w, ixD (.lst (l.map .int)) (.int k) = some (.int w) ∧ w ∈ l := by
  obtain ⟨x, e, m⟩ := atI_mem (xs := l.map I.int) h0 (by simpa using h1)
  obtain ⟨w, hw, rfl⟩ := List.mem_map.mp m
  exact ⟨w, e, hw⟩
theorem block_zero : BlockSt p r n h names heads W 0 := by
  intro F M q c und hF Z hq hc
  obtain ⟨k, rfl⟩ : ∃ k, F = k + 1 := ⟨F - 1, by omega⟩
  have hmp : M.length ≠ p := by have := Z.lp; omega
  have hmr : M.length ≠ r := by have := Z.lr; omega
  have Zb := Z.to (Sm.app (p := p) (r := r) (.lst []))
  refine ⟨[], _, q, c, ⟨Zb, Sm.app _, hc, hq, Int.le_refl _, (fun _ z => nomatch z), by rw [Rw.lns]; simp⟩, ?_⟩
  rw [callF P17 rfl rfl]
  have ma := mm_app (q := q) (c := c) Z (.lst [])
  have g : sh (mm (M ++ [Cell.lst []]) p r n h q c) (.obj M.length) = .lst [] := sh_obj ((mm_get hmp hmr).trans (by simp))
  simp [DefT.fn, evSs, evS, evE, evEs, evIt, Rs.R.bind, Rs.R.of, Rs.R.out, opM, prep, Op.deep, opD, sh_int, sh_str, sh_bl, sh_non, sh_tup, sh_lst, asgT, asgTs, asgI, truth, cmpI, fr_int, fr_str, fr_bl, fr_non, fr_nil, eq_int, dispD, toCell, isTy, I.ty, isN, D17, mm_len, ma, g, Rw.is]
set_option maxHeartbeats 8000000 in
theorem block_ok {d : Nat} (hR : RowSt p r n h names heads W (d + 1)) : BlockSt p r n h names heads W (d + 1) := by
  intro F M q c und hF Z hq hc
  obtain ⟨k, rfl⟩ : ∃ k, F = k + 1 := ⟨F - 1, by omega⟩
  have hRw := fun (M : Mem) (q : Int) (c : Cell) (Z : Rm M p r n h names heads) (hq : 0 < q) (hc : PotOk c) => hR k M q c und (by omega) Z hq hc
  have hT := fun (M : Mem) (q : Int) (c : Cell) (many : Int) (Z : Rm M p r n h names heads) (hc : PotOk c) (hm : 0 < many) => Z.take (W := W) (q := q) (F := k) (by omega) hc hm
  have hmp : M.length ≠ p := by have := Z.lp; omega
  have hmr : M.length ≠ r := by have := Z.lr; omega
  have i2 : ∀ q : Int, ixD (.lst [.obj n, .obj h, .int q]) (.int 2) = some (.int q) := fun _ => rfl
  rw [callF P17 rfl rfl]
  generalize evCall T.P W k = Φ at hRw hT
  have hd : (0 : Int) < ((d + 1 : Nat) : Int) := by omega
  generalize ((d + 1 : Nat) : Int) = de at hRw hd ⊢
  have Z0 := Z.to (Sm.app (p := p) (r := r) (.lst []))
  obtain ⟨u, c1, u0, u1, hc1, e1⟩ := hT (M ++ [.lst []]) q c 7 Z0 hc (by decide)
  obtain ⟨m, em, hm⟩ := ix_ints (l := [0, 1, 2, 3, 1, 2, 8]) u0 u1
  have hm8 : 0 ≤ m ∧ m ≤ 8 := by
    simp only [List.mem_cons, List.not_mem_nil, or_false] at hm
    omega
  obtain ⟨τ', M', e, b, M1, q1, c2, x5, rfl, rfl, pb, hl, hg⟩ := each_go (g := .nm 5) (b := evSs Φ W B17_0)
    (Inv := fun j τ M' => ∃ (b : List Rw) (M1 : Mem) (q1 : Int) (c2 : Cell) (x5 : Option I), M' = mm M1 p r n h q1 c2 ∧ τ = [some (.obj p), some (.obj r), some (.int de), some (.bl und), some (.obj M.length), x5] ∧ Post p r n h names heads (d + 1) M M1 q q1 c2 b ∧ b.length ≤ j ∧ M1[M.length]? = some (.lst (b.map Rw.i)))
    ((List.range m.toNat).map fun k : Nat => I.int (k : Int)) 0 [some (.obj p), some (.obj r), some (.int de), some (.bl und), some (.obj M.length), none] (mm (M ++ [.lst []]) p r n h q c1) ⟨[], _, q, c1, none, rfl, rfl, ⟨Z0, Sm.app _, hc1, hq, Int.le_refl _, (fun _ z => nomatch z), by rw [Rw.lns]; simp⟩, Nat.le_refl _, by simp⟩ (by
      rintro i τ M' y hy ⟨b, M1, q1, c2, x5, rfl, rfl, pb, hl, hg⟩
      obtain ⟨hi, x, rfl⟩ := range_int hy
      have s1 := sh_obj (pb.rm.gR (q := q1) (c := c2))
      unfold room at s1
      have hlen : M.length < M1.length := (List.getElem?_eq_some_iff.mp hg).1
      by_cases hq1 : 0 < q1
      · obtain ⟨rw, M2, q2, c3, Z2, sm2, hc3, q20, q21, ok2, ln2, e2⟩ := hRw M1 q1 c2 pb.rm hq1 pb.pc
        have g1 : (mm M1 p r n h q1 c2)[M.length]? = some (.lst (b.map Rw.i)) := (mm_get hmp hmr).trans hg
        have g2' : M2[M.length]? = some (.lst (b.map Rw.i)) := (sm2.g _ hlen hmp hmr).trans hg
        have g2 : (mm M2 p r n h q2 c3)[M.length]? = some (.lst (b.map Rw.i)) := (mm_get hmp hmr).trans g2'
        have g3 : ∀ y : Cell, (mm M2 p r n h q2 c3).set M.length y = mm (M2.set M.length y) p r n h q2 c3 := fun y => mm_set hmp hmr y
        have sm3 : Sm p r M (M2.set M.length (.lst ((b ++ [rw]).map Rw.i))) := (pb.sm.trans sm2).put _ (Nat.le_refl _) _
        have hsz : b.length < sizeLine := by rw [sl24]; omega
        refine ⟨_, [some (.obj p), some (.obj r), some (.int de), some (.bl und), some (.obj M.length), some (.int x)], mm (M2.set M.length (.lst ((b ++ [rw]).map Rw.i))) p r n h q2 c3, rfl, ?_, b ++ [rw], _, q2, c3, _, rfl, rfl, ⟨Z.to sm3, sm3, hc3, q20, by have := pb.q1; omega, fun z hz => ?_, ?_⟩, by simp; omega, ?_⟩
        · simp [DefT.fn, evSs, evS, evE, evEs, evIt, Rs.R.bind, Rs.R.of, Rs.R.out, opM, prep, Op.deep, opD, sh_int, sh_str, sh_bl, sh_non, sh_tup, sh_lst, asgT, asgTs, asgI, truth, cmpI, fr_int, fr_str, fr_bl, fr_non, fr_nil, eq_int, dispD, toCell, isTy, I.ty, isN, B17_0, s1, i2, hq1, g1, e2, g2, g3, hsz]
        · rcases List.mem_append.mp hz with w | w
          · exact pb.ok z w
          · rw [List.mem_singleton.mp w]; exact ok2
        · have := pb.ln
          rw [lns_app, List.length_append, Rw.lns, Rw.lns, List.append_nil]
          omega
        · rw [List.getElem?_set_self (Nat.lt_of_lt_of_le hlen sm2.l)]
      · refine ⟨_, [some (.obj p), some (.obj r), some (.int de), some (.bl und), some (.obj M.length), some (.int x)], mm M1 p r n h q1 c2, rfl, ?_, b, M1, q1, c2, _, rfl, rfl, pb, by omega, hg⟩
        simp [DefT.fn, evSs, evS, evE, evEs, evIt, Rs.R.bind, Rs.R.of, Rs.R.out, opM, prep, Op.deep, opD, sh_int, sh_str, sh_bl, sh_non, sh_tup, sh_lst, asgT, asgTs, asgI, truth, cmpI, fr_int, fr_str, fr_bl, fr_non, fr_nil, eq_int, dispD, toCell, isTy, I.ty, isN, B17_0, s1, i2, hq1])
  refine ⟨b, M1, q1, c2, pb, ?_⟩
  have hr : -(2 ^ 62) ≤ m ∧ m < 2 ^ 62 := by omega
  have ma := mm_app (q := q) (c := c) Z (.lst [])
  have g : sh (mm M1 p r n h q1 c2) (.obj M.length) = .lst (b.map Rw.i) := sh_obj ((mm_get hmp hmr).trans hg)
  have em : ixD (.lst [.int 0, .int 1, .int 2, .int 3, .int 1, .int 2, .int 8]) (.int u) = some (.int m) := em
  simp [DefT.fn, evSs, evS, evE, evEs, evIt, Rs.R.bind, Rs.R.of, Rs.R.out, opM, prep, Op.deep, opD, sh_int, sh_str, sh_bl, sh_non, sh_tup, sh_lst, asgT, asgTs, asgI, truth, cmpI, fr_int, fr_str, fr_bl, fr_non, fr_nil, eq_int, dispD, toCell, isTy, I.ty, isN, D17, mm_len, ma, hd, e1, em, rangeItems, hr, -Int.reducePow, -Int.reduceNeg]
  simp [e, g, is_map]
theorem blocks : ∀ d : Nat, BlockSt p r n h names heads W d
  | 0 => block_zero
  | d + 1 => block_ok (row_ok (nest_ok (blocks d)))
end
end K07

namespace K07
open PySem PySem.Spec PyProof.Rows L2 Rs
theorem add_tx {m n : Nat} {a b : Str} (ha : Tx m a) (hb : Tx n b) (h : m + n ≤ 16777216) : addD (.str a) (.str b) = some (.str (a ++ b)) := by
  show (if a.length + b.length ≤ sizeLine then some (I.str (a ++ b)) else none) = _
  rw [if_pos (by rw [sl24]; have := ha.1; have := hb.1; omega)]
def sz : Nat → Nat
  | 0 => 10
  | d + 1 => 2 * sz d + 3
theorem num_tx {n : Int} (h0 : 0 ≤ n) (h1 : n < 10 ^ 10) : Tx 10 (Str.ofString (toString n)) := by
  refine ⟨PyProof.Rows.toString_length_le h0 (by decide) h1, fun c hc => ?_⟩
  have e : n = ((n.toNat : Nat) : Int) := by omega
  rw [e] at hc
  have hc : c ∈ TL.tl (Str.ofString (toString ((n.toNat : Nat) : Int))) := hc
  rw [TL.tl_num] at hc
  have hd := TL.numL_digits n.toNat c hc
  omega
theorem t_l : Tx 1 "(" := tx_of (by decide +kernel)
theorem t_r : Tx 1 ")" := tx_of (by decide +kernel)
theorem t_sp : Tx 1 " " := tx_of (by decide +kernel)
theorem t_eq3 : Tx 3 " = " := tx_of (by decide +kernel)
theorem t_ask : Tx 4 "ask" := tx_of (by decide +kernel)
theorem t_call : Tx 4 "call" := tx_of (by decide +kernel)
theorem t_eq : Tx 1 "=" := tx_of (by decide +kernel)
theorem sz_mono : ∀ {d e : Nat}, d ≤ e → sz d ≤ sz e
  | d, 0, h => by
    have : d = 0 := by omega
    subst this
    exact Nat.le_refl _
  | d, e + 1, h => by
    by_cases hd : d = e + 1
    · subst hd; exact Nat.le_refl _
    · have := sz_mono (show d ≤ e by omega)
      show sz d ≤ 2 * sz e + 3
      omega
theorem sz0 (d : Nat) : 10 ≤ sz d := sz_mono (Nat.zero_le d)
theorem wt_tx : ∀ {w : Wt} {d : Nat}, WtOk d w → Tx (sz d) w.t
  | .num n, d, h => by
    cases h with
    | num h0 h1 => exact (num_tx h0 h1).mono (sz0 d)
  | .nm s, d, h => by
    cases h with
    | nm h => exact Tx.mono h (by have := sz0 d; omega)
  | .op g a b, d, h => by
    cases h with
    | op hg ha hb =>
      have := ((((t_l.app (wt_tx ha)).app hg).app (wt_tx hb)).app t_r)
      exact this.mono (by show _ ≤ 2 * sz _ + 3; omega)
theorem wt3 {w : Wt} (h : WtOk 3 w) : Tx 101 w.t := wt_tx h
theorem flats1 {x : I} (h : x.flat = true) : I.flats [x] = true := by
  show (x.flat && true) = true
  rw [h]; rfl
theorem back_ret {v : I} {M1 M : Mem} (h : v.flat = true) : back0 (some (.ret v M1)) M = .ok v M := by
  show (match frz M1 dpt v with
    | some u => R.ok u M
    | none => .no) = _
  rw [frz_flat _ h]
theorem back_obj {i : Nat} {xs : List I} {M1 M : Mem} (h : M1[i]? = some (.lst xs)) (hf : I.flats xs = true) : back0 (some (.ret (.obj i) M1)) M = .ok (.lst xs) M := by
  show (match frz M1 dpt (.obj i) with
    | some u => R.ok u M
    | none => .no) = _
  rw [frz_lst h hf]
theorem tstr (n : Int) (h0 : 0 ≤ n) (h1 : n < 10 ^ 10) : opD .str [.int n] = some (.str (Str.ofString (toString n))) := by
  have : n.natAbs.log2 < 1920 := by
    have := log_lt (n := 64) h0 (by omega) (by omega)
    omega
  show (if n.natAbs.log2 < 1920 then some (I.str (toString n)) else none) = _
  rw [if_pos this]
theorem sstr (s : Str) : opD .str [.str s] = some (.str s) := rfl
theorem P0 : T.P 0 = some D0.fn := rfl
theorem P19 : T.P 19 = some D19.fn := rfl
theorem ty_si : isTy (.str s) .int = some false := rfl
set_option maxHeartbeats 8000000 in
theorem text0 {W : Nat} : ∀ {w : Wt} {d F : Nat} {M : Mem}, WtOk d w → d ≤ 3 → d < F → evCall T.P W F 0 [w.i] M = .ok (.str w.t) M
  | w, d, 0, M, h, _, hF => absurd hF (Nat.not_lt_zero _)
  | .num n, d, k + 1, M, h, _, hF => by
    cases h with
    | num h0 h1 =>
      rw [call0 P0 rfl rfl rfl (flats1 (Wt.flat _))]
      have e := tstr n h0 h1
      have e2 : evSs (evCall T.P W k) W D0.fn.body [some (.int n)] [] = some (.ret (.str (Str.ofString (toString n))) []) := by
        simp [D0, DefT.fn, evSs, evS, evE, evEs, R.bind, R.of, R.out, opM, prep, Op.deep, sh_int, opD, isTy, I.ty, truth, sh_bl] at e ⊢
        simp [e]
      have e2 : evSs (evCall T.P W k) W D0.fn.body (List.map some [(Wt.num n).i] ++ List.replicate (D0.fn.ns - D0.fn.np) none) [] = _ := e2
      rw [e2]
      exact back_ret rfl
  | .nm s, d, k + 1, M, h, _, hF => by
    rw [call0 P0 rfl rfl rfl (flats1 (Wt.flat _))]
    have e2 : evSs (evCall T.P W k) W D0.fn.body (List.map some [(Wt.nm s).i] ++ List.replicate (D0.fn.ns - D0.fn.np) none) [] = some (.ret (.str s) []) := by
      simp [DefT.fn, evSs, evS, evE, evEs, evIt, Rs.R.bind, Rs.R.of, Rs.R.out, opM, prep, Op.deep, opD, sh_int, sh_str, sh_bl, sh_non, sh_tup, sh_lst, asgT, asgTs, asgI, truth, cmpI, fr_int, fr_str, fr_bl, fr_non, fr_nil, eq_int, dispD, toCell, isTy, I.ty, isN, D0, Wt.i]
    rw [e2]
    exact back_ret rfl
  | .op g a b, d, k + 1, M, h, hd, hF => by
    cases h with
    | @op d _ _ _ hg ha hb =>
      rw [call0 P0 rfl rfl rfl (flats1 (Wt.flat _))]
      have e1 : evCall T.P W k 0 [a.i] [] = .ok (.str a.t) [] := text0 ha (by omega) (by omega)
      have e2 : evCall T.P W k 0 [b.i] [] = .ok (.str b.t) [] := text0 hb (by omega) (by omega)
      have t1 := (wt_tx ha).mono (sz_mono (show d ≤ 3 by omega))
      have t2 := (wt_tx hb).mono (sz_mono (show d ≤ 3 by omega))
      have s3 : sz 3 = 101 := rfl
      have a1 := add_tx t_l t1 (by omega)
      have a2 := add_tx (t_l.app t1) hg (by omega)
      have a3 := add_tx ((t_l.app t1).app hg) t2 (by omega)
      have a4 := add_tx (((t_l.app t1).app hg).app t2) t_r (by omega)
      generalize evCall T.P W k = Φ at e1 e2
      have i0 : ixD (Wt.op g a b).i (.int 0) = some (.str g) := rfl
      have i1 : ixD (Wt.op g a b).i (.int 1) = some a.i := rfl
      have i2 : ixD (Wt.op g a b).i (.int 2) = some b.i := rfl
      have e3 : evSs Φ W D0.fn.body (List.map some [(Wt.op g a b).i] ++ List.replicate (D0.fn.ns - D0.fn.np) none) [] = some (.ret (.str (Wt.op g a b).t) []) := by
        rw [Wt.i] at i0 i1 i2 ⊢
        simp [DefT.fn, evSs, evS, evE, evEs, evIt, Rs.R.bind, Rs.R.of, Rs.R.out, opM, prep, Op.deep, opD, sh_int, sh_str, sh_bl, sh_non, sh_tup, sh_lst, asgT, asgTs, asgI, truth, cmpI, fr_int, fr_str, fr_bl, fr_non, fr_nil, eq_int, dispD, toCell, isTy, I.ty, isN, D0, Wt.t, i0, i1, i2, e1, e2, a1, a2, a3, a4]
      rw [e3]
      exact back_ret rfl
set_option maxHeartbeats 8000000 in
theorem text19 {W : Nat} : ∀ {w : Wt} {d F : Nat} {M : Mem}, WtOk d w → d ≤ 3 → d < F → evCall T.P W F 19 [w.i] M = .ok (.str w.t) M
  | w, d, 0, M, h, _, hF => absurd hF (Nat.not_lt_zero _)
  | .num n, d, k + 1, M, h, _, hF => by
    cases h with
    | num h0 h1 =>
      rw [call0 P19 rfl rfl rfl (flats1 (Wt.flat _))]
      have e := tstr n h0 h1
      have e2 : evSs (evCall T.P W k) W D19.fn.body [some (.int n)] [] = some (.ret (.str (Str.ofString (toString n))) []) := by
        simp [D19, DefT.fn, evSs, evS, evE, evEs, R.bind, R.of, R.out, opM, prep, Op.deep, sh_int, opD, isTy, I.ty, truth, sh_bl] at e ⊢
        simp [e]
      have e2 : evSs (evCall T.P W k) W D19.fn.body (List.map some [(Wt.num n).i] ++ List.replicate (D19.fn.ns - D19.fn.np) none) [] = _ := e2
      rw [e2]
      exact back_ret rfl
  | .nm s, d, k + 1, M, h, _, hF => by
    rw [call0 P19 rfl rfl rfl (flats1 (Wt.flat _))]
    have e2 : evSs (evCall T.P W k) W D19.fn.body (List.map some [(Wt.nm s).i] ++ List.replicate (D19.fn.ns - D19.fn.np) none) [] = some (.ret (.str s) []) := by
      simp [DefT.fn, evSs, evS, evE, evEs, evIt, Rs.R.bind, Rs.R.of, Rs.R.out, opM, prep, Op.deep, opD, sh_int, sh_str, sh_bl, sh_non, sh_tup, sh_lst, asgT, asgTs, asgI, truth, cmpI, fr_int, fr_str, fr_bl, fr_non, fr_nil, eq_int, dispD, toCell, isTy, I.ty, isN, D19, Wt.i]
    rw [e2]
    exact back_ret rfl
  | .op g a b, d, k + 1, M, h, hd, hF => by
    cases h with
    | @op d _ _ _ hg ha hb =>
      rw [call0 P19 rfl rfl rfl (flats1 (Wt.flat _))]
      have e1 : evCall T.P W k 19 [a.i] [] = .ok (.str a.t) [] := text19 ha (by omega) (by omega)
      have e2 : evCall T.P W k 19 [b.i] [] = .ok (.str b.t) [] := text19 hb (by omega) (by omega)
      have t1 := (wt_tx ha).mono (sz_mono (show d ≤ 3 by omega))
      have t2 := (wt_tx hb).mono (sz_mono (show d ≤ 3 by omega))
      have s3 : sz 3 = 101 := rfl
      have a1 := add_tx t_l t1 (by omega)
      have a2 := add_tx (t_l.app t1) hg (by omega)
      have a3 := add_tx ((t_l.app t1).app hg) t2 (by omega)
      have a4 := add_tx (((t_l.app t1).app hg).app t2) t_r (by omega)
      generalize evCall T.P W k = Φ at e1 e2
      have i0 : ixD (Wt.op g a b).i (.int 0) = some (.str g) := rfl
      have i1 : ixD (Wt.op g a b).i (.int 1) = some a.i := rfl
      have i2 : ixD (Wt.op g a b).i (.int 2) = some b.i := rfl
      have e3 : evSs Φ W D19.fn.body (List.map some [(Wt.op g a b).i] ++ List.replicate (D19.fn.ns - D19.fn.np) none) [] = some (.ret (.str (Wt.op g a b).t) []) := by
        rw [Wt.i] at i0 i1 i2 ⊢
        simp [DefT.fn, evSs, evS, evE, evEs, evIt, Rs.R.bind, Rs.R.of, Rs.R.out, opM, prep, Op.deep, opD, sh_int, sh_str, sh_bl, sh_non, sh_tup, sh_lst, asgT, asgTs, asgI, truth, cmpI, fr_int, fr_str, fr_bl, fr_non, fr_nil, eq_int, dispD, toCell, isTy, I.ty, isN, D19, Wt.t, i0, i1, i2, e1, e2, a1, a2, a3, a4]
      rw [e3]
      exact back_ret rfl
end K07

namespace K07
open PySem PySem.Spec PyProof.Rows L2 Rs
theorem cat3 (a b c : Str) : a ++ b ++ c = a ++ (b ++ c) := Str.append_assoc a b c
theorem join_one (s a : Str) : Txt.join s [a] = a := by rw [TL.join_eq]; rfl
theorem join_cons (s a b : Str) (l : List Str) : Txt.join s (a :: b :: l) = a ++ s ++ Txt.join s (b :: l) := by rw [TL.join_eq, TL.join_eq]; rfl
def aft (a : Str) (l : List Str) : Str := l.foldl (fun acc x => acc ++ " " ++ x) a
theorem aft_pre (x : Str) : ∀ (l : List Str) (a : Str), x ++ aft a l = aft (x ++ a) l
  | [], a => rfl
  | b :: l, a => by
    show x ++ aft (a ++ " " ++ b) l = aft (x ++ a ++ " " ++ b) l
    rw [aft_pre x l]
    simp only [cat3]
theorem join_aft : ∀ (l : List Str) (a : Str), Txt.join " " (a :: l) = aft a l
  | [], a => join_one _ _
  | b :: l, a => by
    rw [join_cons, join_aft l b, aft_pre]; rfl
theorem after_aft (a : Str) (ws : List Wt) : after a ws = aft a (ws.map Wt.t) := by
  unfold after aft
  rw [List.foldl_map]
theorem after_tx : ∀ (ws : List Wt) (a : Str) (m : Nat), Tx m a → (∀ w ∈ ws, WtOk 3 w) → Tx (m + 102 * ws.length) (after a ws)
  | [], a, m, ha, _ => ha
  | w :: ws, a, m, ha, h => by
    have := after_tx ws (a ++ " " ++ w.t) (m + 1 + 101) ((ha.app t_sp).app (wt3 (h w List.mem_cons_self))) fun x hx => h x (List.mem_cons_of_mem _ hx)
    exact this.mono (by rw [List.length_cons]; omega)
theorem named_tx {nm : Option Str} {m : Nat} {s : Str} (h : OptOk nm) (hs : Tx m s) : Tx (11 + m) (named nm s) := by
  cases nm with
  | none => exact hs.mono (by omega)
  | some n => exact ((h n rfl).app t_eq3).app hs
theorem br_tx {b : Br} (h : BrOk b) : Tx 330 b.t := by
  cases h with
  | ask h1 h2 h3 => exact (named_tx h1 (((t_ask.app t_sp).app h2).app t_sp |>.app (wt3 h3))).mono (by omega)
  | call h1 h2 h3 h4 => exact (named_tx h1 (after_tx _ _ _ ((t_call.app t_sp).app h2) h4)).mono (by omega)
theorem mth_join {M : Mem} {b : I} {s : Str} {l : List Str} (h : sh M b = .lst (l.map .str)) (hb : (l.map fun x : Str => x.length).sum + l.length * s.length ≤ 16777216) : mthD M .join (.str s) [b] = some (.str (Txt.join s l)) := by
  show (match sh M b with
    | .lst ys => (strsI ys).bind fun zs => if (zs.map fun x : Str => x.length).sum + zs.length * s.length ≤ 16777216 then some (I.str (Txt.join s zs)) else none
    | _ => none) = _
  rw [h]
  dsimp only
  rw [strsI_strs]
  exact if_pos hb
theorem sum_tx {m : Nat} : ∀ l : List Str, (∀ s ∈ l, Tx m s) → (l.map fun x : Str => x.length).sum ≤ l.length * m
  | [], _ => Nat.zero_le _
  | s :: l, h => by
    have := sum_tx l fun x hx => h x (List.mem_cons_of_mem _ hx)
    have := (h s List.mem_cons_self).1
    simp only [List.map_cons, List.sum_cons, List.length_cons, Nat.succ_mul]
    omega
theorem join_fit {m : Nat} {s : Str} {l : List Str} (h : ∀ x ∈ l, Tx m x) (hs : s.length = 1) (hb : l.length * (m + 1) ≤ 16777216) : (l.map fun x : Str => x.length).sum + l.length * s.length ≤ 16777216 := by
  have := sum_tx l h
  rw [hs]
  rw [Nat.mul_add] at hb
  omega
theorem compL_map {α : Type} {g : I → Mem → R (Option I)} {f f' : α → I} {M : Mem} : ∀ (xs : List α) (acc : List I), (∀ x ∈ xs, g (f x) M = .ok (some (f' x)) M) → acc.length + xs.length ≤ sizeLine → compL g (xs.map f) acc M = .ok (acc ++ xs.map f') M
  | [], acc, _, _ => by simp [compL]
  | x :: xs, acc, h, hl => by
    simp only [List.length_cons] at hl
    show compL g (f x :: xs.map f) acc M = _
    unfold compL
    rw [h x List.mem_cons_self]
    dsimp only
    rw [if_pos (by omega), compL_map xs (acc ++ [f' x]) (fun y hy => h y (List.mem_cons_of_mem _ hy)) (by rw [List.length_append, List.length_singleton]; omega)]
    simp
theorem q_ask : eqD (.str "ask") (.str "ask") = some true := by decide +kernel
theorem q_call : eqD (.str "call") (.str "ask") = some false := by decide +kernel
theorem sp_len : (" " : Str).length = 1 := by decide +kernel
theorem P1 : T.P 1 = some D1.fn := rfl
theorem P20 : T.P 20 = some D20.fn := rfl
theorem optN_non : isN (optI none) = some (.bl true) := rfl
theorem optN_some (s : Str) : isN (optI (some s)) = some (.bl false) := rfl
theorem eq3 : ("=" : Str) = "=" := rfl
theorem sp3 : (" " : Str) ++ "=" ++ " " = " = " := by decide +kernel
theorem named_aft (n a : Str) (l : List Str) : Txt.join " " (n :: "=" :: a :: l) = n ++ " = " ++ aft a l := by
  rw [join_aft]
  show aft (n ++ " " ++ "=" ++ " " ++ a) l = _
  rw [aft_pre]
  congr 1
theorem map_str (l : List Str) : ∀ a : Str, I.str a :: l.map I.str = (a :: l).map I.str := fun _ => rfl
set_option maxHeartbeats 8000000 in
theorem btext1 {W : Nat} {b : Br} {F : Nat} {M : Mem} (h : BrOk b) (hF : 5 ≤ F) : evCall T.P W F 1 [b.i] M = .ok (.str b.t) M := by
  obtain ⟨k, rfl⟩ : ∃ k, F = k + 1 := ⟨F - 1, by omega⟩
  rw [call0 P1 rfl rfl rfl (flats1 b.flat)]
  have hw : ∀ (w : Wt) (M : Mem), WtOk 3 w → evCall T.P W k 0 [w.i] M = .ok (.str w.t) M := fun w M h => text0 h (Nat.le_refl _) (by omega)
  generalize evCall T.P W k = Φ at hw
  suffices ∃ M1, evSs Φ W D1.fn.body (List.map some [b.i] ++ List.replicate (D1.fn.ns - D1.fn.np) none) [] = some (.ret (.str b.t) M1) by
    obtain ⟨M1, e⟩ := this
    rw [e]
    exact back_ret rfl
  cases h with
  | @ask nm who w h1 h2 h3 =>
    have e1 := hw w [.lst [.str "ask", .str who]] h3
    have i0 : ixD (Br.ask nm who w).i (.int 0) = some (optI nm) := rfl
    have i1 : ixD (Br.ask nm who w).i (.int 1) = some (.str "ask") := rfl
    have i2 : ixD (Br.ask nm who w).i (.int 2) = some (.str who) := rfl
    have i3 : ixD (Br.ask nm who w).i (.int 3) = some w.i := rfl
    have sz1 : 2 < sizeLine := by rw [sl24]; decide
    rw [Br.i] at i0 i1 i2 i3 ⊢
    cases nm with
    | none =>
      have j : mthD [.lst [.str "ask", .str who, .str w.t]] .join (.str " ") [.obj 0] = some (.str (Txt.join " " ["ask", who, w.t])) := mth_join (l := ["ask", who, w.t]) rfl (join_fit (m := 101) (fun x hx => by
        simp only [List.mem_cons, List.not_mem_nil, or_false] at hx
        rcases hx with rfl | rfl | rfl
        · exact t_ask.mono (by decide)
        · exact h2.mono (by decide)
        · exact wt3 h3) sp_len (by simp only [List.length_cons, List.length_nil]; omega))
      refine ⟨[.lst [.str "ask", .str who, .str w.t]], ?_⟩
      have et : Txt.join " " ["ask", who, w.t] = (Br.ask none who w).t := join_aft _ _
      rw [et] at j
      simp only [optI] at i0 i1 i2 i3
      simp [DefT.fn, evSs, evS, evE, evEs, evIt, Rs.R.bind, Rs.R.of, Rs.R.out, opM, prep, Op.deep, opD, sh_int, sh_str, sh_bl, sh_non, sh_tup, sh_lst, asgT, asgTs, asgI, truth, cmpI, fr_int, fr_str, fr_bl, fr_non, fr_nil, eq_int, dispD, toCell, isTy, I.ty, isN, D1, i0, i1, i2, i3, q_ask, e1, sz1, sh, optI, recv, j]
    | some n =>
      have j : mthD [.lst [.str "ask", .str who, .str w.t], .lst [.str n, .str "=", .str "ask", .str who, .str w.t]] .join (.str " ") [.obj 1] = some (.str (Txt.join " " [n, "=", "ask", who, w.t])) := mth_join (l := [n, "=", "ask", who, w.t]) rfl (join_fit (m := 101) (fun x hx => by
        simp only [List.mem_cons, List.not_mem_nil, or_false] at hx
        rcases hx with rfl | rfl | rfl | rfl | rfl
        · exact (h1 _ rfl).mono (by decide)
        · exact t_eq.mono (by decide)
        · exact t_ask.mono (by decide)
        · exact h2.mono (by decide)
        · exact wt3 h3) sp_len (by simp only [List.length_cons, List.length_nil]; omega))
      refine ⟨[.lst [.str "ask", .str who, .str w.t], .lst [.str n, .str "=", .str "ask", .str who, .str w.t]], ?_⟩
      have et : Txt.join " " [n, "=", "ask", who, w.t] = (Br.ask (some n) who w).t := named_aft _ _ _
      rw [et] at j
      have sz2 : 5 ≤ sizeLine := by rw [sl24]; decide
      simp only [optI] at i0 i1 i2 i3
      simp [DefT.fn, evSs, evS, evE, evEs, evIt, Rs.R.bind, Rs.R.of, Rs.R.out, opM, prep, Op.deep, opD, sh_int, sh_str, sh_bl, sh_non, sh_tup, sh_lst, asgT, asgTs, asgI, truth, cmpI, fr_int, fr_str, fr_bl, fr_non, fr_nil, eq_int, dispD, toCell, isTy, I.ty, isN, D1, i0, i1, i2, i3, q_ask, e1, sz1, sh, optI, recv, addD, sz2, j]
  | @call nm ti ws h1 h2 h3 h4 =>
    have hc := compL_map (g := compP Φ [2] (.call 0 (.cons (.var 2) .nil)) (.nm 2) .nil [some (Br.call nm ti ws).i, some (.obj 0), none]) (f := Wt.i) (f' := fun w => I.str w.t) (M := [.lst [.str "call", .str ti]]) ws [] (fun w hw2 => by
      have e1 := hw w [.lst [.str "call", .str ti]] (h4 w hw2)
      simp [compP, wipeE, evT, asgT, asgI, evE, evEs, R.bind, e1]) (by rw [sl24]; simp; omega)
    have em : ws.map (fun w => I.str w.t) = (ws.map Wt.t).map .str := by rw [List.map_map]; rfl
    rw [em, List.nil_append] at hc
    unfold compP at hc
    have i0 : ixD (Br.call nm ti ws).i (.int 0) = some (optI nm) := rfl
    have i1 : ixD (Br.call nm ti ws).i (.int 1) = some (.str "call") := rfl
    have i2 : ixD (Br.call nm ti ws).i (.int 2) = some (.str ti) := rfl
    have i3 : ixD (Br.call nm ti ws).i (.int 3) = some (.tup (ws.map Wt.i)) := rfl
    have es : seqItems [.lst [.str "call", .str ti]] (.tup (ws.map Wt.i)) = some (.vals (ws.map Wt.i)) := rfl
    have hbd : ∀ x ∈ ws.map Wt.t, Tx 101 x := fun x hx => by
      obtain ⟨w, hw, rfl⟩ := List.mem_map.mp hx
      exact wt3 (h4 w hw)
    generalize hL : ws.map Wt.t = L at hc hbd
    have hLl : L.length ≤ 3 := by rw [← hL, List.length_map]; exact h3
    have sz1 : 2 + L.length ≤ sizeLine := by rw [sl24]; omega
    rw [Br.i] at i0 i1 i2 i3 hc ⊢
    cases nm with
    | none =>
      have j : mthD [.lst (.str "call" :: .str ti :: L.map .str)] .join (.str " ") [.obj 0] = some (.str (Txt.join " " ("call" :: ti :: L))) := mth_join (l := "call" :: ti :: L) rfl (join_fit (m := 101) (fun x hx => by
        simp only [List.mem_cons] at hx
        rcases hx with rfl | rfl | hx
        · exact t_call.mono (by decide)
        · exact h2.mono (by decide)
        · exact hbd x hx) sp_len (by simp only [List.length_cons]; omega))
      refine ⟨[.lst (.str "call" :: .str ti :: L.map .str)], ?_⟩
      have et : Txt.join " " ("call" :: ti :: L) = (Br.call none ti ws).t := by
        rw [join_aft]
        show aft ("call" ++ " " ++ ti) L = after _ ws
        rw [after_aft, hL]
      rw [et] at j
      simp only [optI] at i0 i1 i2 i3 hc ⊢
      simp [DefT.fn, evSs, evS, evE, evEs, evIt, Rs.R.bind, Rs.R.of, Rs.R.out, opM, prep, Op.deep, opD, sh_int, sh_str, sh_bl, sh_non, sh_tup, sh_lst, asgT, asgTs, asgI, truth, cmpI, fr_int, fr_str, fr_bl, fr_non, fr_nil, eq_int, dispD, toCell, isTy, I.ty, isN, D1, i0, i1, i2, i3, q_call, es, sh, optI, recv, wipeE, evT] at hc ⊢
      simp [DefT.fn, evSs, evS, evE, evEs, evIt, Rs.R.bind, Rs.R.of, Rs.R.out, opM, prep, Op.deep, opD, sh_int, sh_str, sh_bl, sh_non, sh_tup, sh_lst, asgT, asgTs, asgI, truth, cmpI, fr_int, fr_str, fr_bl, fr_non, fr_nil, eq_int, dispD, toCell, isTy, I.ty, isN, hc, i0, i1, i2, i3, sz1, j, sh, recv]
    | some n =>
      have j : mthD [.lst (.str "call" :: .str ti :: L.map .str), .lst (.str n :: .str "=" :: .str "call" :: .str ti :: L.map .str)] .join (.str " ") [.obj 1] = some (.str (Txt.join " " (n :: "=" :: "call" :: ti :: L))) := mth_join (l := n :: "=" :: "call" :: ti :: L) rfl (join_fit (m := 101) (fun x hx => by
        simp only [List.mem_cons] at hx
        rcases hx with rfl | rfl | rfl | rfl | hx
        · exact (h1 _ rfl).mono (by decide)
        · exact t_eq.mono (by decide)
        · exact t_call.mono (by decide)
        · exact h2.mono (by decide)
        · exact hbd x hx) sp_len (by simp only [List.length_cons]; omega))
      refine ⟨[.lst (.str "call" :: .str ti :: L.map .str), .lst (.str n :: .str "=" :: .str "call" :: .str ti :: L.map .str)], ?_⟩
      have et : Txt.join " " (n :: "=" :: "call" :: ti :: L) = (Br.call (some n) ti ws).t := by
        rw [named_aft]
        show n ++ " = " ++ aft ("call" ++ " " ++ ti) L = n ++ " = " ++ after _ ws
        rw [after_aft, hL]
      rw [et] at j
      have sz2 : 2 + (L.length + 1 + 1) ≤ sizeLine := by rw [sl24]; omega
      simp only [optI] at i0 i1 i2 i3 hc ⊢
      simp [DefT.fn, evSs, evS, evE, evEs, evIt, Rs.R.bind, Rs.R.of, Rs.R.out, opM, prep, Op.deep, opD, sh_int, sh_str, sh_bl, sh_non, sh_tup, sh_lst, asgT, asgTs, asgI, truth, cmpI, fr_int, fr_str, fr_bl, fr_non, fr_nil, eq_int, dispD, toCell, isTy, I.ty, isN, D1, i0, i1, i2, i3, q_call, es, sh, optI, recv, wipeE, evT] at hc ⊢
      simp [DefT.fn, evSs, evS, evE, evEs, evIt, Rs.R.bind, Rs.R.of, Rs.R.out, opM, prep, Op.deep, opD, sh_int, sh_str, sh_bl, sh_non, sh_tup, sh_lst, asgT, asgTs, asgI, truth, cmpI, fr_int, fr_str, fr_bl, fr_non, fr_nil, eq_int, dispD, toCell, isTy, I.ty, isN, hc, i0, i1, i2, i3, sz1, j, sh, recv, addD, sz2]
end K07

namespace K07
open PySem PySem.Spec PyProof.Rows L2 Rs
set_option maxHeartbeats 8000000 in
theorem loop20 {Φ : Oracle} {W : Nat} (hw : ∀ (w : Wt) (M : Mem), WtOk 3 w → Φ 19 [w.i] M = .ok (.str w.t) M) (x0 x3 x4 x5 x6 : Option I) : ∀ (ws : List Wt) (a : Str) (m : Nat) (x2 : Option I), Tx m a → m + 102 * ws.length ≤ 10000 → (∀ w ∈ ws, WtOk 3 w) →
    ∃ x2', eachL (.nm 2) (evSs Φ W B20_0) (ws.map Wt.i) [x0, some (.str a), x2, x3, x4, x5, x6] [] = some (.nx [x0, some (.str (after a ws)), x2', x3, x4, x5, x6] [])
  | [], a, m, x2, _, _, _ => ⟨x2, rfl⟩
  | w :: ws, a, m, x2, ha, hm, h => by
    rw [List.length_cons] at hm
    have hw1 := h w List.mem_cons_self
    have e1 := hw w [] hw1
    have a1 := add_tx ha t_sp (by omega)
    have a2 := add_tx (ha.app t_sp) (wt3 hw1) (by omega)
    obtain ⟨x2', e⟩ := loop20 hw x0 x3 x4 x5 x6 ws (a ++ " " ++ w.t) (m + 1 + 101) (some w.i) ((ha.app t_sp).app (wt3 hw1)) (by omega) fun x hx => h x (List.mem_cons_of_mem _ hx)
    refine ⟨x2', ?_⟩
    show eachL (.nm 2) (evSs Φ W B20_0) (w.i :: ws.map Wt.i) _ [] = _
    unfold eachL
    have eb : evSs Φ W B20_0 [x0, some (.str a), some w.i, x3, x4, x5, x6] [] = some (.nx [x0, some (.str (a ++ " " ++ w.t)), some w.i, x3, x4, x5, x6] []) := by
      simp [DefT.fn, evSs, evS, evE, evEs, evIt, Rs.R.bind, Rs.R.of, Rs.R.out, opM, prep, Op.deep, opD, sh_int, sh_str, sh_bl, sh_non, sh_tup, sh_lst, asgT, asgTs, asgI, truth, cmpI, fr_int, fr_str, fr_bl, fr_non, fr_nil, eq_int, dispD, toCell, isTy, I.ty, isN, B20_0, e1, a1, a2]
    have ea : asgT (.nm 2) w.i [x0, some (.str a), x2, x3, x4, x5, x6] = some [x0, some (.str a), some w.i, x3, x4, x5, x6] := by simp [asgT, asgI]
    rw [ea]
    dsimp only
    rw [eb]
    exact e
set_option maxHeartbeats 8000000 in
theorem btext20 {W : Nat} {b : Br} {F : Nat} {M : Mem} (h : BrOk b) (hF : 5 ≤ F) : evCall T.P W F 20 [b.i] M = .ok (.str b.t) M := by
  obtain ⟨k, rfl⟩ : ∃ k, F = k + 1 := ⟨F - 1, by omega⟩
  rw [call0 P20 rfl rfl rfl (flats1 b.flat)]
  have hw : ∀ (w : Wt) (M : Mem), WtOk 3 w → evCall T.P W k 19 [w.i] M = .ok (.str w.t) M := fun w M h => text19 h (Nat.le_refl _) (by omega)
  generalize evCall T.P W k = Φ at hw
  suffices ∃ M1, evSs Φ W D20.fn.body (List.map some [b.i] ++ List.replicate (D20.fn.ns - D20.fn.np) none) [] = some (.ret (.str b.t) M1) by
    obtain ⟨M1, e⟩ := this
    rw [e]
    exact back_ret rfl
  refine ⟨[], ?_⟩
  cases h with
  | @ask nm who w h1 h2 h3 =>
    have a1 := add_tx t_ask t_sp (by decide)
    have a2 := add_tx (t_ask.app t_sp) h2 (by decide)
    obtain ⟨x2, e⟩ := loop20 (W := W) hw (some (Br.ask nm who w).i) (some (optI nm)) (some (.str "ask")) (some (.str who)) (some (.tup [w.i])) [w] ("ask" ++ " " ++ who) 13 none ((t_ask.app t_sp).app h2) (by simp) (fun x hx => by rw [List.mem_singleton.mp hx]; exact h3)
    have es : seqItems [] (.tup [w.i]) = some (.vals [w.i]) := rfl
    have e1 : [w].map Wt.i = [w.i] := rfl
    rw [e1] at e
    rw [Br.i] at e ⊢
    have ht : Tx 200 ("ask" ++ " " ++ who ++ " " ++ w.t) := ((((t_ask.app t_sp).app h2).app t_sp).app (wt3 h3)).mono (by decide)
    have ee : after ("ask" ++ " " ++ who) [w] = "ask" ++ " " ++ who ++ " " ++ w.t := rfl
    rw [ee] at e
    cases nm with
    | none =>
      simp only [optI] at e ⊢
      simp [DefT.fn, evSs, evS, evE, evEs, evIt, Rs.R.bind, Rs.R.of, Rs.R.out, opM, prep, Op.deep, opD, sh_int, sh_str, sh_bl, sh_non, sh_tup, sh_lst, asgT, asgTs, asgI, truth, cmpI, fr_int, fr_str, fr_bl, fr_non, fr_nil, eq_int, dispD, toCell, isTy, I.ty, isN, D20, q_ask, a1, a2, es]
      simp [DefT.fn, evSs, evS, evE, evEs, evIt, Rs.R.bind, Rs.R.of, Rs.R.out, opM, prep, Op.deep, opD, sh_int, sh_str, sh_bl, sh_non, sh_tup, sh_lst, asgT, asgTs, asgI, truth, cmpI, fr_int, fr_str, fr_bl, fr_non, fr_nil, eq_int, dispD, toCell, isTy, I.ty, isN, e, Br.t, named]
    | some n =>
      have a3 := add_tx (h1 n rfl) t_eq3 (by decide)
      have a4 := add_tx ((h1 n rfl).app t_eq3) ht (by decide)
      simp only [optI] at e ⊢
      simp [DefT.fn, evSs, evS, evE, evEs, evIt, Rs.R.bind, Rs.R.of, Rs.R.out, opM, prep, Op.deep, opD, sh_int, sh_str, sh_bl, sh_non, sh_tup, sh_lst, asgT, asgTs, asgI, truth, cmpI, fr_int, fr_str, fr_bl, fr_non, fr_nil, eq_int, dispD, toCell, isTy, I.ty, isN, D20, q_ask, a1, a2, es]
      simp [DefT.fn, evSs, evS, evE, evEs, evIt, Rs.R.bind, Rs.R.of, Rs.R.out, opM, prep, Op.deep, opD, sh_int, sh_str, sh_bl, sh_non, sh_tup, sh_lst, asgT, asgTs, asgI, truth, cmpI, fr_int, fr_str, fr_bl, fr_non, fr_nil, eq_int, dispD, toCell, isTy, I.ty, isN, e, Br.t, named, a3, a4]
  | @call nm ti ws h1 h2 h3 h4 =>
    have a1 := add_tx t_call t_sp (by decide)
    have a2 := add_tx (t_call.app t_sp) h2 (by decide)
    obtain ⟨x2, e⟩ := loop20 (W := W) hw (some (Br.call nm ti ws).i) (some (optI nm)) (some (.str "call")) (some (.str ti)) (some (.tup (ws.map Wt.i))) ws ("call" ++ " " ++ ti) 13 none ((t_call.app t_sp).app h2) (by omega) h4
    have es : seqItems [] (.tup (ws.map Wt.i)) = some (.vals (ws.map Wt.i)) := rfl
    rw [Br.i] at e ⊢
    have ht : Tx 400 (after ("call" ++ " " ++ ti) ws) := (after_tx ws _ _ ((t_call.app t_sp).app h2) h4).mono (by omega)
    cases nm with
    | none =>
      simp only [optI] at e ⊢
      simp [DefT.fn, evSs, evS, evE, evEs, evIt, Rs.R.bind, Rs.R.of, Rs.R.out, opM, prep, Op.deep, opD, sh_int, sh_str, sh_bl, sh_non, sh_tup, sh_lst, asgT, asgTs, asgI, truth, cmpI, fr_int, fr_str, fr_bl, fr_non, fr_nil, eq_int, dispD, toCell, isTy, I.ty, isN, D20, q_call, a1, a2, es]
      simp [DefT.fn, evSs, evS, evE, evEs, evIt, Rs.R.bind, Rs.R.of, Rs.R.out, opM, prep, Op.deep, opD, sh_int, sh_str, sh_bl, sh_non, sh_tup, sh_lst, asgT, asgTs, asgI, truth, cmpI, fr_int, fr_str, fr_bl, fr_non, fr_nil, eq_int, dispD, toCell, isTy, I.ty, isN, e, Br.t, named]
    | some n =>
      have a3 := add_tx (h1 n rfl) t_eq3 (by decide)
      have a4 := add_tx ((h1 n rfl).app t_eq3) ht (by decide)
      simp only [optI] at e ⊢
      simp [DefT.fn, evSs, evS, evE, evEs, evIt, Rs.R.bind, Rs.R.of, Rs.R.out, opM, prep, Op.deep, opD, sh_int, sh_str, sh_bl, sh_non, sh_tup, sh_lst, asgT, asgTs, asgI, truth, cmpI, fr_int, fr_str, fr_bl, fr_non, fr_nil, eq_int, dispD, toCell, isTy, I.ty, isN, D20, q_call, a1, a2, es]
      simp [DefT.fn, evSs, evS, evE, evEs, evIt, Rs.R.bind, Rs.R.of, Rs.R.out, opM, prep, Op.deep, opD, sh_int, sh_str, sh_bl, sh_non, sh_tup, sh_lst, asgT, asgTs, asgI, truth, cmpI, fr_int, fr_str, fr_bl, fr_non, fr_nil, eq_int, dispD, toCell, isTy, I.ty, isN, e, Br.t, named, a3, a4]
theorem P2 : T.P 2 = some D2.fn := rfl
theorem t_catch : Tx 6 "catch " := tx_of (by decide +kernel)
theorem t_catch0 : Tx 6 "catch" := tx_of (by decide +kernel)
set_option maxHeartbeats 8000000 in
theorem ctext {W : Nat} {nm : Option Str} {F : Nat} {M : Mem} (h : OptOk nm) (hF : 1 ≤ F) : evCall T.P W F 2 [optI nm] M = .ok (.str (catchT nm)) M := by
  obtain ⟨k, rfl⟩ : ∃ k, F = k + 1 := ⟨F - 1, by omega⟩
  rw [call0 P2 rfl rfl rfl (flats1 (optI_flat nm))]
  generalize evCall T.P W k = Φ
  have e : evSs Φ W D2.fn.body (List.map some [optI nm] ++ List.replicate (D2.fn.ns - D2.fn.np) none) [] = some (.ret (.str (catchT nm)) []) := by
    cases nm with
    | none => simp [DefT.fn, evSs, evS, evE, evEs, evIt, Rs.R.bind, Rs.R.of, Rs.R.out, opM, prep, Op.deep, opD, sh_int, sh_str, sh_bl, sh_non, sh_tup, sh_lst, asgT, asgTs, asgI, truth, cmpI, fr_int, fr_str, fr_bl, fr_non, fr_nil, eq_int, dispD, toCell, isTy, I.ty, isN, D2, optI, catchT]
    | some n =>
      have a1 := add_tx t_catch (h n rfl) (by decide)
      simp [DefT.fn, evSs, evS, evE, evEs, evIt, Rs.R.bind, Rs.R.of, Rs.R.out, opM, prep, Op.deep, opD, sh_int, sh_str, sh_bl, sh_non, sh_tup, sh_lst, asgT, asgTs, asgI, truth, cmpI, fr_int, fr_str, fr_bl, fr_non, fr_nil, eq_int, dispD, toCell, isTy, I.ty, isN, D2, optI, catchT, a1]
  rw [e]
  exact back_ret rfl
theorem catch_tx {nm : Option Str} (h : OptOk nm) : Tx 14 (catchT nm) := by
  cases nm with
  | none => exact t_catch0.mono (by decide)
  | some n => exact t_catch.app (h n rfl)
/-! ### rows, flat -/
theorem brs_flat (ws : List Br) : I.flats (ws.map Br.i) = true := flats_of fun x hx => by
  obtain ⟨w, _, rfl⟩ := List.mem_map.mp hx
  exact w.flat
theorem flat_tup (xs : List I) : (I.tup xs).flat = I.flats xs := rfl
theorem flats_cons (x : I) (xs : List I) : I.flats (x :: xs) = (x.flat && I.flats xs) := rfl
mutual
theorem rw_flat : ∀ r : Rw, r.i.flat = true
  | .want k bs => by rw [Rw.i, flat_tup, flats_cons, flats_cons, flats_cons, flat_tup, brs_flat]; rfl
  | .set x w => by rw [Rw.i, flat_tup, flats_cons, flats_cons, flats_cons, w.flat]; rfl
  | .say j w => by rw [Rw.i, flat_tup, flats_cons, flats_cons, w.flat]; rfl
  | .whl w b => by rw [Rw.i, flat_tup, flats_cons, flats_cons, flats_cons, w.flat, flat_tup, rws_flat b]; rfl
  | .iff w a b => by rw [Rw.i, flat_tup, flats_cons, flats_cons, flats_cons, flats_cons, w.flat, flat_tup, flat_tup, rws_flat a, rws_flat b]; rfl
  | .tri a nm b => by rw [Rw.i, flat_tup, flats_cons, flats_cons, flats_cons, flats_cons, optI_flat, flat_tup, flat_tup, rws_flat a, rws_flat b]; rfl
  | .dd a b => by rw [Rw.i, flat_tup, flats_cons, flats_cons, flats_cons, flat_tup, flat_tup, rws_flat a, rws_flat b]; rfl
theorem rws_flat : ∀ b : List Rw, I.flats (Rw.is b) = true
  | [] => by rw [Rw.is]; rfl
  | r :: rs => by rw [Rw.is, flats_cons, rw_flat r, rws_flat rs]; rfl
end
end K07

namespace K07
open PySem PySem.Spec PyProof.Rows L2 Rs
theorem q_want_set : eqD (.str "want") (.str "set") = some false := by decide +kernel
theorem q_want_want : eqD (.str "want") (.str "want") = some true := by decide +kernel
theorem q_want_if : eqD (.str "want") (.str "if") = some false := by decide +kernel
theorem q_want_while : eqD (.str "want") (.str "while") = some false := by decide +kernel
theorem q_want_try : eqD (.str "want") (.str "try") = some false := by decide +kernel
theorem n_want : innD (.str "want") (.tup [.str "tell", .str "give", .str "fail"]) = some false := by decide +kernel
theorem l_want_tdw : innD (.str "want") (.lst [.str "try", .str "do", .str "want"]) = some true := by decide +kernel
theorem l_want_iw : innD (.str "want") (.lst [.str "if", .str "while"]) = some false := by decide +kernel
theorem l_want_td : innD (.str "want") (.lst [.str "try", .str "do"]) = some false := by decide +kernel
theorem l_want_itd : innD (.str "want") (.lst [.str "if", .str "try", .str "do"]) = some false := by decide +kernel
theorem l_want_iwtd : innD (.str "want") (.lst [.str "if", .str "while", .str "try", .str "do"]) = some false := by decide +kernel
theorem q_set_set : eqD (.str "set") (.str "set") = some true := by decide +kernel
theorem q_set_want : eqD (.str "set") (.str "want") = some false := by decide +kernel
theorem q_set_if : eqD (.str "set") (.str "if") = some false := by decide +kernel
theorem q_set_while : eqD (.str "set") (.str "while") = some false := by decide +kernel
theorem q_set_try : eqD (.str "set") (.str "try") = some false := by decide +kernel
theorem n_set : innD (.str "set") (.tup [.str "tell", .str "give", .str "fail"]) = some false := by decide +kernel
theorem l_set_tdw : innD (.str "set") (.lst [.str "try", .str "do", .str "want"]) = some false := by decide +kernel
theorem l_set_iw : innD (.str "set") (.lst [.str "if", .str "while"]) = some false := by decide +kernel
theorem l_set_td : innD (.str "set") (.lst [.str "try", .str "do"]) = some false := by decide +kernel
theorem l_set_itd : innD (.str "set") (.lst [.str "if", .str "try", .str "do"]) = some false := by decide +kernel
theorem l_set_iwtd : innD (.str "set") (.lst [.str "if", .str "while", .str "try", .str "do"]) = some false := by decide +kernel
theorem q_tell_set : eqD (.str "tell") (.str "set") = some false := by decide +kernel
theorem q_tell_want : eqD (.str "tell") (.str "want") = some false := by decide +kernel
theorem q_tell_if : eqD (.str "tell") (.str "if") = some false := by decide +kernel
theorem q_tell_while : eqD (.str "tell") (.str "while") = some false := by decide +kernel
theorem q_tell_try : eqD (.str "tell") (.str "try") = some false := by decide +kernel
theorem n_tell : innD (.str "tell") (.tup [.str "tell", .str "give", .str "fail"]) = some true := by decide +kernel
theorem l_tell_tdw : innD (.str "tell") (.lst [.str "try", .str "do", .str "want"]) = some false := by decide +kernel
theorem l_tell_iw : innD (.str "tell") (.lst [.str "if", .str "while"]) = some false := by decide +kernel
theorem l_tell_td : innD (.str "tell") (.lst [.str "try", .str "do"]) = some false := by decide +kernel
theorem l_tell_itd : innD (.str "tell") (.lst [.str "if", .str "try", .str "do"]) = some false := by decide +kernel
theorem l_tell_iwtd : innD (.str "tell") (.lst [.str "if", .str "while", .str "try", .str "do"]) = some false := by decide +kernel
theorem q_give_set : eqD (.str "give") (.str "set") = some false := by decide +kernel
theorem q_give_want : eqD (.str "give") (.str "want") = some false := by decide +kernel
theorem q_give_if : eqD (.str "give") (.str "if") = some false := by decide +kernel
theorem q_give_while : eqD (.str "give") (.str "while") = some false := by decide +kernel
theorem q_give_try : eqD (.str "give") (.str "try") = some false := by decide +kernel
theorem n_give : innD (.str "give") (.tup [.str "tell", .str "give", .str "fail"]) = some true := by decide +kernel
theorem l_give_tdw : innD (.str "give") (.lst [.str "try", .str "do", .str "want"]) = some false := by decide +kernel
theorem l_give_iw : innD (.str "give") (.lst [.str "if", .str "while"]) = some false := by decide +kernel
theorem l_give_td : innD (.str "give") (.lst [.str "try", .str "do"]) = some false := by decide +kernel
theorem l_give_itd : innD (.str "give") (.lst [.str "if", .str "try", .str "do"]) = some false := by decide +kernel
theorem l_give_iwtd : innD (.str "give") (.lst [.str "if", .str "while", .str "try", .str "do"]) = some false := by decide +kernel
theorem q_fail_set : eqD (.str "fail") (.str "set") = some false := by decide +kernel
theorem q_fail_want : eqD (.str "fail") (.str "want") = some false := by decide +kernel
theorem q_fail_if : eqD (.str "fail") (.str "if") = some false := by decide +kernel
theorem q_fail_while : eqD (.str "fail") (.str "while") = some false := by decide +kernel
theorem q_fail_try : eqD (.str "fail") (.str "try") = some false := by decide +kernel
theorem n_fail : innD (.str "fail") (.tup [.str "tell", .str "give", .str "fail"]) = some true := by decide +kernel
theorem l_fail_tdw : innD (.str "fail") (.lst [.str "try", .str "do", .str "want"]) = some false := by decide +kernel
theorem l_fail_iw : innD (.str "fail") (.lst [.str "if", .str "while"]) = some false := by decide +kernel
theorem l_fail_td : innD (.str "fail") (.lst [.str "try", .str "do"]) = some false := by decide +kernel
theorem l_fail_itd : innD (.str "fail") (.lst [.str "if", .str "try", .str "do"]) = some false := by decide +kernel
theorem l_fail_iwtd : innD (.str "fail") (.lst [.str "if", .str "while", .str "try", .str "do"]) = some false := by decide +kernel
theorem q_while_set : eqD (.str "while") (.str "set") = some false := by decide +kernel
theorem q_while_want : eqD (.str "while") (.str "want") = some false := by decide +kernel
theorem q_while_if : eqD (.str "while") (.str "if") = some false := by decide +kernel
theorem q_while_while : eqD (.str "while") (.str "while") = some true := by decide +kernel
theorem q_while_try : eqD (.str "while") (.str "try") = some false := by decide +kernel
theorem n_while : innD (.str "while") (.tup [.str "tell", .str "give", .str "fail"]) = some false := by decide +kernel
theorem l_while_tdw : innD (.str "while") (.lst [.str "try", .str "do", .str "want"]) = some false := by decide +kernel
theorem l_while_iw : innD (.str "while") (.lst [.str "if", .str "while"]) = some true := by decide +kernel
theorem l_while_td : innD (.str "while") (.lst [.str "try", .str "do"]) = some false := by decide +kernel
theorem l_while_itd : innD (.str "while") (.lst [.str "if", .str "try", .str "do"]) = some false := by decide +kernel
theorem l_while_iwtd : innD (.str "while") (.lst [.str "if", .str "while", .str "try", .str "do"]) = some true := by decide +kernel
theorem q_if_set : eqD (.str "if") (.str "set") = some false := by decide +kernel
theorem q_if_want : eqD (.str "if") (.str "want") = some false := by decide +kernel
theorem q_if_if : eqD (.str "if") (.str "if") = some true := by decide +kernel
theorem q_if_while : eqD (.str "if") (.str "while") = some false := by decide +kernel
theorem q_if_try : eqD (.str "if") (.str "try") = some false := by decide +kernel
theorem n_if : innD (.str "if") (.tup [.str "tell", .str "give", .str "fail"]) = some false := by decide +kernel
theorem l_if_tdw : innD (.str "if") (.lst [.str "try", .str "do", .str "want"]) = some false := by decide +kernel
theorem l_if_iw : innD (.str "if") (.lst [.str "if", .str "while"]) = some true := by decide +kernel
theorem l_if_td : innD (.str "if") (.lst [.str "try", .str "do"]) = some false := by decide +kernel
theorem l_if_itd : innD (.str "if") (.lst [.str "if", .str "try", .str "do"]) = some true := by decide +kernel
theorem l_if_iwtd : innD (.str "if") (.lst [.str "if", .str "while", .str "try", .str "do"]) = some true := by decide +kernel
theorem q_try_set : eqD (.str "try") (.str "set") = some false := by decide +kernel
theorem q_try_want : eqD (.str "try") (.str "want") = some false := by decide +kernel
theorem q_try_if : eqD (.str "try") (.str "if") = some false := by decide +kernel
theorem q_try_while : eqD (.str "try") (.str "while") = some false := by decide +kernel
theorem q_try_try : eqD (.str "try") (.str "try") = some true := by decide +kernel
theorem n_try : innD (.str "try") (.tup [.str "tell", .str "give", .str "fail"]) = some false := by decide +kernel
theorem l_try_tdw : innD (.str "try") (.lst [.str "try", .str "do", .str "want"]) = some true := by decide +kernel
theorem l_try_iw : innD (.str "try") (.lst [.str "if", .str "while"]) = some false := by decide +kernel
theorem l_try_td : innD (.str "try") (.lst [.str "try", .str "do"]) = some true := by decide +kernel
theorem l_try_itd : innD (.str "try") (.lst [.str "if", .str "try", .str "do"]) = some true := by decide +kernel
theorem l_try_iwtd : innD (.str "try") (.lst [.str "if", .str "while", .str "try", .str "do"]) = some true := by decide +kernel
theorem q_do_set : eqD (.str "do") (.str "set") = some false := by decide +kernel
theorem q_do_want : eqD (.str "do") (.str "want") = some false := by decide +kernel
theorem q_do_if : eqD (.str "do") (.str "if") = some false := by decide +kernel
theorem q_do_while : eqD (.str "do") (.str "while") = some false := by decide +kernel
theorem q_do_try : eqD (.str "do") (.str "try") = some false := by decide +kernel
theorem n_do : innD (.str "do") (.tup [.str "tell", .str "give", .str "fail"]) = some false := by decide +kernel
theorem l_do_tdw : innD (.str "do") (.lst [.str "try", .str "do", .str "want"]) = some true := by decide +kernel
theorem l_do_iw : innD (.str "do") (.lst [.str "if", .str "while"]) = some false := by decide +kernel
theorem l_do_td : innD (.str "do") (.lst [.str "try", .str "do"]) = some true := by decide +kernel
theorem l_do_itd : innD (.str "do") (.lst [.str "if", .str "try", .str "do"]) = some true := by decide +kernel
theorem l_do_iwtd : innD (.str "do") (.lst [.str "if", .str "while", .str "try", .str "do"]) = some true := by decide +kernel
theorem f_tdw (M : Mem) : frz M dpt (.lst [.str "try", .str "do", .str "want"]) = some (.lst [.str "try", .str "do", .str "want"]) := frz_flat _ rfl
theorem f_iw (M : Mem) : frz M dpt (.lst [.str "if", .str "while"]) = some (.lst [.str "if", .str "while"]) := frz_flat _ rfl
theorem f_td (M : Mem) : frz M dpt (.lst [.str "try", .str "do"]) = some (.lst [.str "try", .str "do"]) := frz_flat _ rfl
theorem f_itd (M : Mem) : frz M dpt (.lst [.str "if", .str "try", .str "do"]) = some (.lst [.str "if", .str "try", .str "do"]) := frz_flat _ rfl
theorem f_iwtd (M : Mem) : frz M dpt (.lst [.str "if", .str "while", .str "try", .str "do"]) = some (.lst [.str "if", .str "while", .str "try", .str "do"]) := frz_flat _ rfl
theorem f_tgf (M : Mem) : frz M dpt (.tup [.str "tell", .str "give", .str "fail"]) = some (.tup [.str "tell", .str "give", .str "fail"]) := frz_flat _ rfl

def sL (l : List Str) : I := .lst (l.map .str)
theorem strs_flat (l : List Str) : (sL l).flat = true := flats_strs l
theorem sh_strs (M : Mem) (l : List Str) : sh M (sL l) = sL l := rfl
theorem add_ss {a b : List Str} (h : a.length + b.length ≤ 16777216) : addD (sL a) (sL b) = some (sL (a ++ b)) := by
  show (if (a.map I.str).length + (b.map I.str).length ≤ sizeLine then some (I.lst (a.map I.str ++ b.map I.str)) else none) = _
  rw [if_pos (by rw [sl24]; simpa using h), ← List.map_append]; rfl
theorem add_1s {a : Str} {b : List Str} (h : b.length < 16777216) : addD (.lst [.str a]) (sL b) = some (sL (a :: b)) := add_ss (a := [a]) (by simp; omega)
theorem add_s1 {a : List Str} {b : Str} (h : a.length < 16777216) : addD (sL a) (.lst [.str b]) = some (sL (a ++ [b])) := add_ss (b := [b]) (by simp; omega)
theorem t_if : Tx 6 "if " := tx_of (by decide +kernel)
theorem t_while : Tx 6 "while " := tx_of (by decide +kernel)
theorem t_want : Tx 6 "want " := tx_of (by decide +kernel)
theorem t_set : Tx 6 "set " := tx_of (by decide +kernel)
theorem t_sy (j : Sy) : Tx 6 j.s := by cases j <;> exact tx_of (by decide +kernel)
theorem tEnd : Tx 400 "end" := tx_of (by decide +kernel)
theorem tElse : Tx 400 "else" := tx_of (by decide +kernel)
theorem tUndo : Tx 400 "undo" := tx_of (by decide +kernel)
theorem tTry : Tx 400 "try" := tx_of (by decide +kernel)
theorem tDo : Tx 400 "do" := tx_of (by decide +kernel)
theorem lns_mem : ∀ {b : List Rw} {s : Str}, s ∈ Rw.lns b → ∃ r ∈ b, s ∈ r.ln
  | [], s, h => by rw [Rw.lns] at h; cases h
  | r :: rs, s, h => by
    rw [Rw.lns] at h
    rcases List.mem_append.mp h with q | q
    · exact ⟨r, List.mem_cons_self, q⟩
    · obtain ⟨x, hx, hs⟩ := lns_mem q
      exact ⟨x, List.mem_cons_of_mem _ hx, hs⟩
theorem ln_tx : ∀ {d : Nat} {r : Rw}, RwOk d r → ∀ s ∈ r.ln, Tx 400 s := by
  intro d r h
  induction h with
  | @want d k bs h0 h1 h2 h3 =>
    intro s hs
    rw [Rw.ln] at hs
    simp only [List.mem_cons, List.mem_append, List.mem_map, List.not_mem_nil, or_false] at hs
    rcases hs with rfl | ⟨b, hb, rfl⟩ | rfl
    · exact (t_want.app (num_tx h0 (by omega))).mono (by decide)
    · exact (br_tx (h3 b hb)).mono (by decide)
    · exact tEnd
  | set h1 h2 =>
    intro s hs
    rw [Rw.ln] at hs
    rw [List.mem_singleton.mp hs]
    exact (((t_set.app h1).app t_sp).app (wt3 h2)).mono (by decide)
  | @say d j w h2 =>
    intro s hs
    rw [Rw.ln] at hs
    rw [List.mem_singleton.mp hs]
    exact (((t_sy j).app t_sp).app (wt3 h2)).mono (by decide)
  | whl h h1 ih =>
    intro s hs
    rw [Rw.ln] at hs
    simp only [List.mem_cons, List.mem_append, List.not_mem_nil, or_false] at hs
    rcases hs with rfl | q | rfl
    · exact (t_while.app (wt3 h)).mono (by decide)
    · obtain ⟨r, hr, hs⟩ := lns_mem q
      exact ih r hr s hs
    · exact tEnd
  | iff h h1 h2 ih1 ih2 =>
    intro s hs
    rw [Rw.ln] at hs
    simp only [List.mem_cons, List.mem_append, List.not_mem_nil, or_false] at hs
    rcases hs with rfl | q | rfl | q | rfl
    · exact (t_if.app (wt3 h)).mono (by decide)
    · obtain ⟨r, hr, hs⟩ := lns_mem q
      exact ih1 r hr s hs
    · exact tElse
    · obtain ⟨r, hr, hs⟩ := lns_mem q
      exact ih2 r hr s hs
    · exact tEnd
  | tri h h1 h2 ih1 ih2 =>
    intro s hs
    rw [Rw.ln] at hs
    simp only [List.mem_cons, List.mem_append, List.not_mem_nil, or_false] at hs
    rcases hs with rfl | q | rfl | q | rfl
    · exact tTry
    · obtain ⟨r, hr, hs⟩ := lns_mem q
      exact ih1 r hr s hs
    · exact (catch_tx h).mono (by decide)
    · obtain ⟨r, hr, hs⟩ := lns_mem q
      exact ih2 r hr s hs
    · exact tEnd
  | dd h1 h2 ih1 ih2 =>
    intro s hs
    rw [Rw.ln] at hs
    simp only [List.mem_cons, List.mem_append, List.not_mem_nil, or_false] at hs
    rcases hs with rfl | q | rfl | q | rfl
    · exact tDo
    · obtain ⟨r, hr, hs⟩ := lns_mem q
      exact ih1 r hr s hs
    · exact tUndo
    · obtain ⟨r, hr, hs⟩ := lns_mem q
      exact ih2 r hr s hs
    · exact tEnd
theorem P3 : T.P 3 = some D3.fn := rfl
theorem P4 : T.P 4 = some D4.fn := rfl
theorem P5 : T.P 5 = some D5.fn := rfl
def BlkT (W d : Nat) : Prop := ∀ (b : List Rw) (F : Nat) (M : Mem), (∀ r ∈ b, RwOk d r) → (Rw.lns b).length ≤ 10000 → 3 * d + 10 ≤ F → evCall T.P W F 5 [.tup (Rw.is b)] M = .ok (sL (Rw.lns b)) M
def RowT (W d : Nat) : Prop := ∀ (r : Rw) (F : Nat) (M : Mem), RwOk d r → r.ln.length ≤ 10000 → 3 * d + 9 ≤ F → evCall T.P W F 4 [r.i] M = .ok (sL r.ln) M
def NestT (W d : Nat) : Prop := ∀ (r : Rw) (F : Nat) (M : Mem), RwOk (d + 1) r → r.ln.length ≤ 10000 → 3 * d + 11 ≤ F → (∀ k bs, r ≠ .want k bs) → (∀ x w, r ≠ .set x w) → (∀ j w, r ≠ .say j w) → evCall T.P W F 3 [r.i] M = .ok (sL r.ln) M
set_option maxHeartbeats 8000000 in
theorem nestT_ok {W d : Nat} (hB : BlkT W d) : NestT W d := by
  intro r F M ok hl hF n1 n2 n3
  obtain ⟨k, rfl⟩ : ∃ k, F = k + 1 := ⟨F - 1, by omega⟩
  rw [call0 P3 rfl rfl rfl (flats1 (rw_flat r))]
  have hb := fun (b : List Rw) (M : Mem) (h1 : ∀ r ∈ b, RwOk d r) (h2 : (Rw.lns b).length ≤ 10000) => hB b k M h1 h2 (by omega)
  have hw : ∀ (w : Wt) (M : Mem), WtOk 3 w → evCall T.P W k 0 [w.i] M = .ok (.str w.t) M := fun w M h => text0 h (Nat.le_refl _) (by omega)
  have hc : ∀ (nm : Option Str) (M : Mem), OptOk nm → evCall T.P W k 2 [optI nm] M = .ok (.str (catchT nm)) M := fun nm M h => ctext h (by omega)
  generalize evCall T.P W k = Φ at hb hw hc
  suffices evSs Φ W D3.fn.body (List.map some [r.i] ++ List.replicate (D3.fn.ns - D3.fn.np) none) [] = some (.ret (sL r.ln) []) by
    rw [this]
    exact back_ret (strs_flat _)
  cases ok with
  | want => exact absurd rfl (n1 _ _)
  | set => exact absurd rfl (n2 _ _)
  | say => exact absurd rfl (n3 _ _)
  | @whl _ w b h h1 =>
    rw [Rw.ln] at hl ⊢
    simp only [List.length_cons, List.length_append, List.length_nil] at hl
    have e1 := hw w [] h
    have e2 := hb b [] h1 (by omega)
    have t1 := add_tx t_while (wt3 h) (by decide)
    have a1 := add_1s (a := "while " ++ w.t) (b := Rw.lns b) (by omega)
    have a2 := add_s1 (a := ("while " ++ w.t) :: Rw.lns b) (b := "end") (by simp only [List.length_cons]; omega)
    have i0 : ixD (Rw.whl w b).i (.int 0) = some (.str "while") := by rw [Rw.i]; rfl
    have i1 : ixD (Rw.whl w b).i (.int 1) = some w.i := by rw [Rw.i]; rfl
    have i2 : ixD (Rw.whl w b).i (.int 2) = some (.tup (Rw.is b)) := by rw [Rw.i]; rfl
    rw [Rw.i] at i0 i1 i2 ⊢
    simp [DefT.fn, evSs, evS, evE, evEs, evIt, Rs.R.bind, Rs.R.of, Rs.R.out, opM, prep, Op.deep, opD, sh_int, sh_str, sh_bl, sh_non, sh_tup, sh_lst, asgT, asgTs, asgI, truth, cmpI, fr_int, fr_str, fr_bl, fr_non, fr_nil, eq_int, dispD, toCell, isTy, I.ty, isN, D3, i0, i1, i2, q_want_set, q_want_want, q_want_if, q_want_while, q_want_try, n_want, l_want_tdw, l_want_iw, l_want_td, l_want_itd, l_want_iwtd, q_set_set, q_set_want, q_set_if, q_set_while, q_set_try, n_set, l_set_tdw, l_set_iw, l_set_td, l_set_itd, l_set_iwtd, q_tell_set, q_tell_want, q_tell_if, q_tell_while, q_tell_try, n_tell, l_tell_tdw, l_tell_iw, l_tell_td, l_tell_itd, l_tell_iwtd, q_give_set, q_give_want, q_give_if, q_give_while, q_give_try, n_give, l_give_tdw, l_give_iw, l_give_td, l_give_itd, l_give_iwtd, q_fail_set, q_fail_want, q_fail_if, q_fail_while, q_fail_try, n_fail, l_fail_tdw, l_fail_iw, l_fail_td, l_fail_itd, l_fail_iwtd, q_while_set, q_while_want, q_while_if, q_while_while, q_while_try, n_while, l_while_tdw, l_while_iw, l_while_td, l_while_itd, l_while_iwtd, q_if_set, q_if_want, q_if_if, q_if_while, q_if_try, n_if, l_if_tdw, l_if_iw, l_if_td, l_if_itd, l_if_iwtd, q_try_set, q_try_want, q_try_if, q_try_while, q_try_try, n_try, l_try_tdw, l_try_iw, l_try_td, l_try_itd, l_try_iwtd, q_do_set, q_do_want, q_do_if, q_do_while, q_do_try, n_do, l_do_tdw, l_do_iw, l_do_td, l_do_itd, l_do_iwtd, f_tdw, f_iw, f_td, f_itd, f_iwtd, f_tgf, e1, e2, t1, a1, a2, sh_strs]
  | @iff _ w a b h h1 h2 =>
    rw [Rw.ln] at hl ⊢
    simp only [List.length_cons, List.length_append, List.length_nil] at hl
    have e1 := hw w [] h
    have e2 := hb a [] h1 (by omega)
    have e3 := hb b [] h2 (by omega)
    have t1 := add_tx t_if (wt3 h) (by decide)
    have a1 := add_1s (a := "if " ++ w.t) (b := Rw.lns a) (by omega)
    have a2 := add_s1 (a := ("if " ++ w.t) :: Rw.lns a) (b := "else") (by simp only [List.length_cons]; omega)
    have a3 := add_ss (a := ("if " ++ w.t) :: Rw.lns a ++ [("else" : Str)]) (b := Rw.lns b) (by simp only [List.length_cons, List.length_append, List.length_nil]; omega)
    have a4 := add_s1 (a := ("if " ++ w.t) :: Rw.lns a ++ [("else" : Str)] ++ Rw.lns b) (b := "end") (by simp only [List.length_cons, List.length_append, List.length_nil]; omega)
    have i0 : ixD (Rw.iff w a b).i (.int 0) = some (.str "if") := by rw [Rw.i]; rfl
    have i1 : ixD (Rw.iff w a b).i (.int 1) = some w.i := by rw [Rw.i]; rfl
    have i2 : ixD (Rw.iff w a b).i (.int 2) = some (.tup (Rw.is a)) := by rw [Rw.i]; rfl
    have i3 : ixD (Rw.iff w a b).i (.int 3) = some (.tup (Rw.is b)) := by rw [Rw.i]; rfl
    rw [Rw.i] at i0 i1 i2 i3 ⊢
    simp only [List.cons_append, List.append_assoc, List.nil_append] at a1 a2 a3 a4
    simp [DefT.fn, evSs, evS, evE, evEs, evIt, Rs.R.bind, Rs.R.of, Rs.R.out, opM, prep, Op.deep, opD, sh_int, sh_str, sh_bl, sh_non, sh_tup, sh_lst, asgT, asgTs, asgI, truth, cmpI, fr_int, fr_str, fr_bl, fr_non, fr_nil, eq_int, dispD, toCell, isTy, I.ty, isN, D3, i0, i1, i2, i3, q_want_set, q_want_want, q_want_if, q_want_while, q_want_try, n_want, l_want_tdw, l_want_iw, l_want_td, l_want_itd, l_want_iwtd, q_set_set, q_set_want, q_set_if, q_set_while, q_set_try, n_set, l_set_tdw, l_set_iw, l_set_td, l_set_itd, l_set_iwtd, q_tell_set, q_tell_want, q_tell_if, q_tell_while, q_tell_try, n_tell, l_tell_tdw, l_tell_iw, l_tell_td, l_tell_itd, l_tell_iwtd, q_give_set, q_give_want, q_give_if, q_give_while, q_give_try, n_give, l_give_tdw, l_give_iw, l_give_td, l_give_itd, l_give_iwtd, q_fail_set, q_fail_want, q_fail_if, q_fail_while, q_fail_try, n_fail, l_fail_tdw, l_fail_iw, l_fail_td, l_fail_itd, l_fail_iwtd, q_while_set, q_while_want, q_while_if, q_while_while, q_while_try, n_while, l_while_tdw, l_while_iw, l_while_td, l_while_itd, l_while_iwtd, q_if_set, q_if_want, q_if_if, q_if_while, q_if_try, n_if, l_if_tdw, l_if_iw, l_if_td, l_if_itd, l_if_iwtd, q_try_set, q_try_want, q_try_if, q_try_while, q_try_try, n_try, l_try_tdw, l_try_iw, l_try_td, l_try_itd, l_try_iwtd, q_do_set, q_do_want, q_do_if, q_do_while, q_do_try, n_do, l_do_tdw, l_do_iw, l_do_td, l_do_itd, l_do_iwtd, f_tdw, f_iw, f_td, f_itd, f_iwtd, f_tgf, e1, e2, e3, t1, a1, a2, a3, a4, sh_strs]
  | @tri _ nm a b h h1 h2 =>
    rw [Rw.ln] at hl ⊢
    simp only [List.length_cons, List.length_append, List.length_nil] at hl
    have e1 := hc nm [] h
    have e2 := hb a [] h1 (by omega)
    have e3 := hb b [] h2 (by omega)
    have a1 := add_1s (a := "try") (b := Rw.lns a) (by omega)
    have a2 := add_s1 (a := ("try" : Str) :: Rw.lns a) (b := catchT nm) (by simp only [List.length_cons]; omega)
    have a3 := add_ss (a := ("try" : Str) :: Rw.lns a ++ [catchT nm]) (b := Rw.lns b) (by simp only [List.length_cons, List.length_append, List.length_nil]; omega)
    have a4 := add_s1 (a := ("try" : Str) :: Rw.lns a ++ [catchT nm] ++ Rw.lns b) (b := "end") (by simp only [List.length_cons, List.length_append, List.length_nil]; omega)
    have i0 : ixD (Rw.tri a nm b).i (.int 0) = some (.str "try") := by rw [Rw.i]; rfl
    have i1 : ixD (Rw.tri a nm b).i (.int 1) = some (.tup (Rw.is a)) := by rw [Rw.i]; rfl
    have i2 : ixD (Rw.tri a nm b).i (.int 2) = some (optI nm) := by rw [Rw.i]; rfl
    have i3 : ixD (Rw.tri a nm b).i (.int 3) = some (.tup (Rw.is b)) := by rw [Rw.i]; rfl
    rw [Rw.i] at i0 i1 i2 i3 ⊢
    simp only [List.cons_append, List.append_assoc, List.nil_append] at a1 a2 a3 a4
    simp [DefT.fn, evSs, evS, evE, evEs, evIt, Rs.R.bind, Rs.R.of, Rs.R.out, opM, prep, Op.deep, opD, sh_int, sh_str, sh_bl, sh_non, sh_tup, sh_lst, asgT, asgTs, asgI, truth, cmpI, fr_int, fr_str, fr_bl, fr_non, fr_nil, eq_int, dispD, toCell, isTy, I.ty, isN, D3, i0, i1, i2, i3, q_want_set, q_want_want, q_want_if, q_want_while, q_want_try, n_want, l_want_tdw, l_want_iw, l_want_td, l_want_itd, l_want_iwtd, q_set_set, q_set_want, q_set_if, q_set_while, q_set_try, n_set, l_set_tdw, l_set_iw, l_set_td, l_set_itd, l_set_iwtd, q_tell_set, q_tell_want, q_tell_if, q_tell_while, q_tell_try, n_tell, l_tell_tdw, l_tell_iw, l_tell_td, l_tell_itd, l_tell_iwtd, q_give_set, q_give_want, q_give_if, q_give_while, q_give_try, n_give, l_give_tdw, l_give_iw, l_give_td, l_give_itd, l_give_iwtd, q_fail_set, q_fail_want, q_fail_if, q_fail_while, q_fail_try, n_fail, l_fail_tdw, l_fail_iw, l_fail_td, l_fail_itd, l_fail_iwtd, q_while_set, q_while_want, q_while_if, q_while_while, q_while_try, n_while, l_while_tdw, l_while_iw, l_while_td, l_while_itd, l_while_iwtd, q_if_set, q_if_want, q_if_if, q_if_while, q_if_try, n_if, l_if_tdw, l_if_iw, l_if_td, l_if_itd, l_if_iwtd, q_try_set, q_try_want, q_try_if, q_try_while, q_try_try, n_try, l_try_tdw, l_try_iw, l_try_td, l_try_itd, l_try_iwtd, q_do_set, q_do_want, q_do_if, q_do_while, q_do_try, n_do, l_do_tdw, l_do_iw, l_do_td, l_do_itd, l_do_iwtd, f_tdw, f_iw, f_td, f_itd, f_iwtd, f_tgf, e1, e2, e3, a1, a2, a3, a4, sh_strs]
  | @dd _ a b h1 h2 =>
    rw [Rw.ln] at hl ⊢
    simp only [List.length_cons, List.length_append, List.length_nil] at hl
    have e2 := hb a [] h1 (by omega)
    have e3 := hb b [] h2 (by omega)
    have a1 := add_1s (a := "do") (b := Rw.lns a) (by omega)
    have a2 := add_s1 (a := ("do" : Str) :: Rw.lns a) (b := "undo") (by simp only [List.length_cons]; omega)
    have a3 := add_ss (a := ("do" : Str) :: Rw.lns a ++ [("undo" : Str)]) (b := Rw.lns b) (by simp only [List.length_cons, List.length_append, List.length_nil]; omega)
    have a4 := add_s1 (a := ("do" : Str) :: Rw.lns a ++ [("undo" : Str)] ++ Rw.lns b) (b := "end") (by simp only [List.length_cons, List.length_append, List.length_nil]; omega)
    have i0 : ixD (Rw.dd a b).i (.int 0) = some (.str "do") := by rw [Rw.i]; rfl
    have i1 : ixD (Rw.dd a b).i (.int 1) = some (.tup (Rw.is a)) := by rw [Rw.i]; rfl
    have i2 : ixD (Rw.dd a b).i (.int 2) = some (.tup (Rw.is b)) := by rw [Rw.i]; rfl
    rw [Rw.i] at i0 i1 i2 ⊢
    simp only [List.cons_append, List.append_assoc, List.nil_append] at a1 a2 a3 a4
    simp [DefT.fn, evSs, evS, evE, evEs, evIt, Rs.R.bind, Rs.R.of, Rs.R.out, opM, prep, Op.deep, opD, sh_int, sh_str, sh_bl, sh_non, sh_tup, sh_lst, asgT, asgTs, asgI, truth, cmpI, fr_int, fr_str, fr_bl, fr_non, fr_nil, eq_int, dispD, toCell, isTy, I.ty, isN, D3, i0, i1, i2, q_want_set, q_want_want, q_want_if, q_want_while, q_want_try, n_want, l_want_tdw, l_want_iw, l_want_td, l_want_itd, l_want_iwtd, q_set_set, q_set_want, q_set_if, q_set_while, q_set_try, n_set, l_set_tdw, l_set_iw, l_set_td, l_set_itd, l_set_iwtd, q_tell_set, q_tell_want, q_tell_if, q_tell_while, q_tell_try, n_tell, l_tell_tdw, l_tell_iw, l_tell_td, l_tell_itd, l_tell_iwtd, q_give_set, q_give_want, q_give_if, q_give_while, q_give_try, n_give, l_give_tdw, l_give_iw, l_give_td, l_give_itd, l_give_iwtd, q_fail_set, q_fail_want, q_fail_if, q_fail_while, q_fail_try, n_fail, l_fail_tdw, l_fail_iw, l_fail_td, l_fail_itd, l_fail_iwtd, q_while_set, q_while_want, q_while_if, q_while_while, q_while_try, n_while, l_while_tdw, l_while_iw, l_while_td, l_while_itd, l_while_iwtd, q_if_set, q_if_want, q_if_if, q_if_while, q_if_try, n_if, l_if_tdw, l_if_iw, l_if_td, l_if_itd, l_if_iwtd, q_try_set, q_try_want, q_try_if, q_try_while, q_try_try, n_try, l_try_tdw, l_try_iw, l_try_td, l_try_itd, l_try_iwtd, q_do_set, q_do_want, q_do_if, q_do_while, q_do_try, n_do, l_do_tdw, l_do_iw, l_do_td, l_do_itd, l_do_iwtd, f_tdw, f_iw, f_td, f_itd, f_iwtd, f_tgf, e2, e3, a1, a2, a3, a4, sh_strs]
end K07

namespace K07
open PySem PySem.Spec PyProof.Rows L2 Rs
theorem nests_of {d : Nat} {r : Rw} : (∃ k bs, r = .want k bs) ∨ (∃ x w, r = .set x w) ∨ (∃ j w, r = .say j w) ∨ ((∀ k bs, r ≠ .want k bs) ∧ (∀ x w, r ≠ .set x w) ∧ (∀ j w, r ≠ .say j w)) := by
  cases r with
  | want k bs => exact .inl ⟨_, _, rfl⟩
  | set x w => exact .inr (.inl ⟨_, _, rfl⟩)
  | say j w => exact .inr (.inr (.inl ⟨_, _, rfl⟩))
  | whl => exact .inr (.inr (.inr ⟨(fun _ _ z => nomatch z), (fun _ _ z => nomatch z), (fun _ _ z => nomatch z)⟩))
  | iff => exact .inr (.inr (.inr ⟨(fun _ _ z => nomatch z), (fun _ _ z => nomatch z), (fun _ _ z => nomatch z)⟩))
  | tri => exact .inr (.inr (.inr ⟨(fun _ _ z => nomatch z), (fun _ _ z => nomatch z), (fun _ _ z => nomatch z)⟩))
  | dd => exact .inr (.inr (.inr ⟨(fun _ _ z => nomatch z), (fun _ _ z => nomatch z), (fun _ _ z => nomatch z)⟩))
theorem add_1l {a : Str} {b : List Str} (h : b.length < 16777216) : addD (.lst [.str a]) (.lst (b.map .str)) = some (sL (a :: b)) := add_1s h
set_option maxHeartbeats 8000000 in
theorem rowT_ok {W d : Nat} (hN : ∀ e, d = e + 1 → NestT W e) : RowT W d := by
  intro r F M ok hl hF
  obtain ⟨k, rfl⟩ : ∃ k, F = k + 1 := ⟨F - 1, by omega⟩
  rw [call0 P4 rfl rfl rfl (flats1 (rw_flat r))]
  have hw : ∀ (w : Wt) (M : Mem), WtOk 3 w → evCall T.P W k 0 [w.i] M = .ok (.str w.t) M := fun w M h => text0 h (Nat.le_refl _) (by omega)
  have hb : ∀ (b : Br) (M : Mem), BrOk b → evCall T.P W k 1 [b.i] M = .ok (.str b.t) M := fun b M h => btext1 h (by omega)
  have hn : (∀ k bs, r ≠ .want k bs) → (∀ x w, r ≠ .set x w) → (∀ j w, r ≠ .say j w) → evCall T.P W k 3 [r.i] [] = .ok (sL r.ln) [] := fun n1 n2 n3 => by
    have hd : ∃ e, d = e + 1 := by
      cases ok with
      | want => exact absurd rfl (n1 _ _)
      | set => exact absurd rfl (n2 _ _)
      | say => exact absurd rfl (n3 _ _)
      | whl => exact ⟨_, rfl⟩
      | iff => exact ⟨_, rfl⟩
      | tri => exact ⟨_, rfl⟩
      | dd => exact ⟨_, rfl⟩
    obtain ⟨e, rfl⟩ := hd
    exact hN e rfl r k [] ok hl (by omega) n1 n2 n3
  generalize evCall T.P W k = Φ at hb hw hn
  suffices evSs Φ W D4.fn.body (List.map some [r.i] ++ List.replicate (D4.fn.ns - D4.fn.np) none) [] = some (.ret (sL r.ln) []) by
    rw [this]
    exact back_ret (strs_flat _)
  cases ok with
  | @want _ k bs h0 h1 h2 h3 =>
    have i0 : ixD (Rw.want k bs).i (.int 0) = some (.str "want") := by rw [Rw.i]; rfl
    have i1 : ixD (Rw.want k bs).i (.int 1) = some (.int k) := by rw [Rw.i]; rfl
    have i2 : ixD (Rw.want k bs).i (.int 2) = some (.tup (bs.map Br.i)) := by rw [Rw.i]; rfl
    have hk : k.natAbs.log2 < 1920 := by
      have := log_lt (n := 64) h0 (by omega) (by omega)
      omega
    have tn : Tx 10 (Str.ofString k.repr) := num_tx h0 (show k < 10 ^ 10 by omega)
    have t1 := add_tx t_want tn (by decide)
    have hc := compL_map (g := compP Φ [1] (.call 1 (.cons (.var 1) .nil)) (.nm 1) .nil [some (Rw.want k bs).i, none]) (f := Br.i) (f' := fun b => I.str b.t) (M := []) bs [] (fun b hb2 => by
      have e1 := hb b [] (h3 b hb2)
      simp [compP, wipeE, evT, asgT, asgI, evE, evEs, R.bind, e1]) (by rw [sl24]; simp; omega)
    have em : bs.map (fun b => I.str b.t) = (bs.map Br.t).map .str := by rw [List.map_map]; rfl
    rw [em, List.nil_append] at hc
    unfold compP at hc
    have es : seqItems [] (.tup (bs.map Br.i)) = some (.vals (bs.map Br.i)) := rfl
    rw [Rw.ln]
    generalize hL : bs.map Br.t = L at hc
    have hLl : L.length ≤ 4 := by rw [← hL, List.length_map]; exact h2
    have a1 := add_1l (a := "want " ++ Str.ofString k.repr) (b := L) (by omega)
    have a2 := add_s1 (a := ("want " ++ Str.ofString k.repr) :: L) (b := "end") (by simp only [List.length_cons]; omega)
    simp only [List.cons_append] at a2
    rw [Rw.i] at i0 i1 i2 hc ⊢
    simp [DefT.fn, evSs, evS, evE, evEs, evIt, Rs.R.bind, Rs.R.of, Rs.R.out, opM, prep, Op.deep, opD, sh_int, sh_str, sh_bl, sh_non, sh_tup, sh_lst, asgT, asgTs, asgI, truth, cmpI, fr_int, fr_str, fr_bl, fr_non, fr_nil, eq_int, dispD, toCell, isTy, I.ty, isN, D4, i0, i1, i2, hk, q_want_set, q_want_want, q_want_if, q_want_while, q_want_try, n_want, l_want_tdw, l_want_iw, l_want_td, l_want_itd, l_want_iwtd, q_set_set, q_set_want, q_set_if, q_set_while, q_set_try, n_set, l_set_tdw, l_set_iw, l_set_td, l_set_itd, l_set_iwtd, q_tell_set, q_tell_want, q_tell_if, q_tell_while, q_tell_try, n_tell, l_tell_tdw, l_tell_iw, l_tell_td, l_tell_itd, l_tell_iwtd, q_give_set, q_give_want, q_give_if, q_give_while, q_give_try, n_give, l_give_tdw, l_give_iw, l_give_td, l_give_itd, l_give_iwtd, q_fail_set, q_fail_want, q_fail_if, q_fail_while, q_fail_try, n_fail, l_fail_tdw, l_fail_iw, l_fail_td, l_fail_itd, l_fail_iwtd, q_while_set, q_while_want, q_while_if, q_while_while, q_while_try, n_while, l_while_tdw, l_while_iw, l_while_td, l_while_itd, l_while_iwtd, q_if_set, q_if_want, q_if_if, q_if_while, q_if_try, n_if, l_if_tdw, l_if_iw, l_if_td, l_if_itd, l_if_iwtd, q_try_set, q_try_want, q_try_if, q_try_while, q_try_try, n_try, l_try_tdw, l_try_iw, l_try_td, l_try_itd, l_try_iwtd, q_do_set, q_do_want, q_do_if, q_do_while, q_do_try, n_do, l_do_tdw, l_do_iw, l_do_td, l_do_itd, l_do_iwtd, f_tdw, f_iw, f_td, f_itd, f_iwtd, f_tgf, es, wipeE, evT] at hc ⊢
    simp [DefT.fn, evSs, evS, evE, evEs, evIt, Rs.R.bind, Rs.R.of, Rs.R.out, opM, prep, Op.deep, opD, sh_int, sh_str, sh_bl, sh_non, sh_tup, sh_lst, asgT, asgTs, asgI, truth, cmpI, fr_int, fr_str, fr_bl, fr_non, fr_nil, eq_int, dispD, toCell, isTy, I.ty, isN, hc, es, i0, i1, hk, t1, a1, a2, sh_strs]
  | @set _ x w h1 h2 =>
    have i0 : ixD (Rw.set x w).i (.int 0) = some (.str "set") := by rw [Rw.i]; rfl
    have i1 : ixD (Rw.set x w).i (.int 1) = some (.str x) := by rw [Rw.i]; rfl
    have i2 : ixD (Rw.set x w).i (.int 2) = some w.i := by rw [Rw.i]; rfl
    have e1 := hw w [] h2
    have t1 := add_tx t_set h1 (by decide)
    have t2 := add_tx (t_set.app h1) t_sp (by decide)
    have t3 := add_tx ((t_set.app h1).app t_sp) (wt3 h2) (by decide)
    rw [Rw.i] at i0 i1 i2 ⊢
    rw [Rw.ln]
    simp [DefT.fn, evSs, evS, evE, evEs, evIt, Rs.R.bind, Rs.R.of, Rs.R.out, opM, prep, Op.deep, opD, sh_int, sh_str, sh_bl, sh_non, sh_tup, sh_lst, asgT, asgTs, asgI, truth, cmpI, fr_int, fr_str, fr_bl, fr_non, fr_nil, eq_int, dispD, toCell, isTy, I.ty, isN, D4, i0, i1, i2, q_want_set, q_want_want, q_want_if, q_want_while, q_want_try, n_want, l_want_tdw, l_want_iw, l_want_td, l_want_itd, l_want_iwtd, q_set_set, q_set_want, q_set_if, q_set_while, q_set_try, n_set, l_set_tdw, l_set_iw, l_set_td, l_set_itd, l_set_iwtd, q_tell_set, q_tell_want, q_tell_if, q_tell_while, q_tell_try, n_tell, l_tell_tdw, l_tell_iw, l_tell_td, l_tell_itd, l_tell_iwtd, q_give_set, q_give_want, q_give_if, q_give_while, q_give_try, n_give, l_give_tdw, l_give_iw, l_give_td, l_give_itd, l_give_iwtd, q_fail_set, q_fail_want, q_fail_if, q_fail_while, q_fail_try, n_fail, l_fail_tdw, l_fail_iw, l_fail_td, l_fail_itd, l_fail_iwtd, q_while_set, q_while_want, q_while_if, q_while_while, q_while_try, n_while, l_while_tdw, l_while_iw, l_while_td, l_while_itd, l_while_iwtd, q_if_set, q_if_want, q_if_if, q_if_while, q_if_try, n_if, l_if_tdw, l_if_iw, l_if_td, l_if_itd, l_if_iwtd, q_try_set, q_try_want, q_try_if, q_try_while, q_try_try, n_try, l_try_tdw, l_try_iw, l_try_td, l_try_itd, l_try_iwtd, q_do_set, q_do_want, q_do_if, q_do_while, q_do_try, n_do, l_do_tdw, l_do_iw, l_do_td, l_do_itd, l_do_iwtd, f_tdw, f_iw, f_td, f_itd, f_iwtd, f_tgf, e1, t1, t2, t3, sL]
  | @say _ j w h2 =>
    have i0 : ixD (Rw.say j w).i (.int 0) = some (.str j.s) := by rw [Rw.i]; rfl
    have i1 : ixD (Rw.say j w).i (.int 1) = some w.i := by rw [Rw.i]; rfl
    have e1 := hw w [] h2
    have t1 := add_tx (t_sy j) t_sp (by decide)
    have t2 := add_tx ((t_sy j).app t_sp) (wt3 h2) (by decide)
    rw [Rw.i] at i0 i1 ⊢
    rw [Rw.ln]
    cases j <;> simp only [Sy.s] at i0 i1 t1 t2 ⊢ <;> simp [DefT.fn, evSs, evS, evE, evEs, evIt, Rs.R.bind, Rs.R.of, Rs.R.out, opM, prep, Op.deep, opD, sh_int, sh_str, sh_bl, sh_non, sh_tup, sh_lst, asgT, asgTs, asgI, truth, cmpI, fr_int, fr_str, fr_bl, fr_non, fr_nil, eq_int, dispD, toCell, isTy, I.ty, isN, D4, i0, i1, q_want_set, q_want_want, q_want_if, q_want_while, q_want_try, n_want, l_want_tdw, l_want_iw, l_want_td, l_want_itd, l_want_iwtd, q_set_set, q_set_want, q_set_if, q_set_while, q_set_try, n_set, l_set_tdw, l_set_iw, l_set_td, l_set_itd, l_set_iwtd, q_tell_set, q_tell_want, q_tell_if, q_tell_while, q_tell_try, n_tell, l_tell_tdw, l_tell_iw, l_tell_td, l_tell_itd, l_tell_iwtd, q_give_set, q_give_want, q_give_if, q_give_while, q_give_try, n_give, l_give_tdw, l_give_iw, l_give_td, l_give_itd, l_give_iwtd, q_fail_set, q_fail_want, q_fail_if, q_fail_while, q_fail_try, n_fail, l_fail_tdw, l_fail_iw, l_fail_td, l_fail_itd, l_fail_iwtd, q_while_set, q_while_want, q_while_if, q_while_while, q_while_try, n_while, l_while_tdw, l_while_iw, l_while_td, l_while_itd, l_while_iwtd, q_if_set, q_if_want, q_if_if, q_if_while, q_if_try, n_if, l_if_tdw, l_if_iw, l_if_td, l_if_itd, l_if_iwtd, q_try_set, q_try_want, q_try_if, q_try_while, q_try_try, n_try, l_try_tdw, l_try_iw, l_try_td, l_try_itd, l_try_iwtd, q_do_set, q_do_want, q_do_if, q_do_while, q_do_try, n_do, l_do_tdw, l_do_iw, l_do_td, l_do_itd, l_do_iwtd, f_tdw, f_iw, f_td, f_itd, f_iwtd, f_tgf, e1, t1, t2, sL]
  | @whl _ w b h h1 =>
    have e1 := hn (fun _ _ z => nomatch z) (fun _ _ z => nomatch z) (fun _ _ z => nomatch z)
    have i0 : ixD (Rw.whl w b).i (.int 0) = some (.str "while") := by rw [Rw.i]; rfl
    generalize (Rw.whl w b).ln = ll at e1 ⊢
    have hs : sh [] (Rw.whl w b).i = (Rw.whl w b).i := by rw [Rw.i]; rfl
    simp [DefT.fn, evSs, evS, evE, evEs, evIt, Rs.R.bind, Rs.R.of, Rs.R.out, opM, prep, Op.deep, opD, sh_int, sh_str, sh_bl, sh_non, sh_tup, sh_lst, asgT, asgTs, asgI, truth, cmpI, fr_int, fr_str, fr_bl, fr_non, fr_nil, eq_int, dispD, toCell, isTy, I.ty, isN, D4, i0, q_want_set, q_want_want, q_want_if, q_want_while, q_want_try, n_want, l_want_tdw, l_want_iw, l_want_td, l_want_itd, l_want_iwtd, q_set_set, q_set_want, q_set_if, q_set_while, q_set_try, n_set, l_set_tdw, l_set_iw, l_set_td, l_set_itd, l_set_iwtd, q_tell_set, q_tell_want, q_tell_if, q_tell_while, q_tell_try, n_tell, l_tell_tdw, l_tell_iw, l_tell_td, l_tell_itd, l_tell_iwtd, q_give_set, q_give_want, q_give_if, q_give_while, q_give_try, n_give, l_give_tdw, l_give_iw, l_give_td, l_give_itd, l_give_iwtd, q_fail_set, q_fail_want, q_fail_if, q_fail_while, q_fail_try, n_fail, l_fail_tdw, l_fail_iw, l_fail_td, l_fail_itd, l_fail_iwtd, q_while_set, q_while_want, q_while_if, q_while_while, q_while_try, n_while, l_while_tdw, l_while_iw, l_while_td, l_while_itd, l_while_iwtd, q_if_set, q_if_want, q_if_if, q_if_while, q_if_try, n_if, l_if_tdw, l_if_iw, l_if_td, l_if_itd, l_if_iwtd, q_try_set, q_try_want, q_try_if, q_try_while, q_try_try, n_try, l_try_tdw, l_try_iw, l_try_td, l_try_itd, l_try_iwtd, q_do_set, q_do_want, q_do_if, q_do_while, q_do_try, n_do, l_do_tdw, l_do_iw, l_do_td, l_do_itd, l_do_iwtd, f_tdw, f_iw, f_td, f_itd, f_iwtd, f_tgf, e1, hs]
  | @iff _ w a b h h1 h2 =>
    have e1 := hn (fun _ _ z => nomatch z) (fun _ _ z => nomatch z) (fun _ _ z => nomatch z)
    have i0 : ixD (Rw.iff w a b).i (.int 0) = some (.str "if") := by rw [Rw.i]; rfl
    generalize (Rw.iff w a b).ln = ll at e1 ⊢
    have hs : sh [] (Rw.iff w a b).i = (Rw.iff w a b).i := by rw [Rw.i]; rfl
    simp [DefT.fn, evSs, evS, evE, evEs, evIt, Rs.R.bind, Rs.R.of, Rs.R.out, opM, prep, Op.deep, opD, sh_int, sh_str, sh_bl, sh_non, sh_tup, sh_lst, asgT, asgTs, asgI, truth, cmpI, fr_int, fr_str, fr_bl, fr_non, fr_nil, eq_int, dispD, toCell, isTy, I.ty, isN, D4, i0, q_want_set, q_want_want, q_want_if, q_want_while, q_want_try, n_want, l_want_tdw, l_want_iw, l_want_td, l_want_itd, l_want_iwtd, q_set_set, q_set_want, q_set_if, q_set_while, q_set_try, n_set, l_set_tdw, l_set_iw, l_set_td, l_set_itd, l_set_iwtd, q_tell_set, q_tell_want, q_tell_if, q_tell_while, q_tell_try, n_tell, l_tell_tdw, l_tell_iw, l_tell_td, l_tell_itd, l_tell_iwtd, q_give_set, q_give_want, q_give_if, q_give_while, q_give_try, n_give, l_give_tdw, l_give_iw, l_give_td, l_give_itd, l_give_iwtd, q_fail_set, q_fail_want, q_fail_if, q_fail_while, q_fail_try, n_fail, l_fail_tdw, l_fail_iw, l_fail_td, l_fail_itd, l_fail_iwtd, q_while_set, q_while_want, q_while_if, q_while_while, q_while_try, n_while, l_while_tdw, l_while_iw, l_while_td, l_while_itd, l_while_iwtd, q_if_set, q_if_want, q_if_if, q_if_while, q_if_try, n_if, l_if_tdw, l_if_iw, l_if_td, l_if_itd, l_if_iwtd, q_try_set, q_try_want, q_try_if, q_try_while, q_try_try, n_try, l_try_tdw, l_try_iw, l_try_td, l_try_itd, l_try_iwtd, q_do_set, q_do_want, q_do_if, q_do_while, q_do_try, n_do, l_do_tdw, l_do_iw, l_do_td, l_do_itd, l_do_iwtd, f_tdw, f_iw, f_td, f_itd, f_iwtd, f_tgf, e1, hs]
  | @tri _ nm a b h h1 h2 =>
    have e1 := hn (fun _ _ z => nomatch z) (fun _ _ z => nomatch z) (fun _ _ z => nomatch z)
    have i0 : ixD (Rw.tri a nm b).i (.int 0) = some (.str "try") := by rw [Rw.i]; rfl
    generalize (Rw.tri a nm b).ln = ll at e1 ⊢
    have hs : sh [] (Rw.tri a nm b).i = (Rw.tri a nm b).i := by rw [Rw.i]; rfl
    simp [DefT.fn, evSs, evS, evE, evEs, evIt, Rs.R.bind, Rs.R.of, Rs.R.out, opM, prep, Op.deep, opD, sh_int, sh_str, sh_bl, sh_non, sh_tup, sh_lst, asgT, asgTs, asgI, truth, cmpI, fr_int, fr_str, fr_bl, fr_non, fr_nil, eq_int, dispD, toCell, isTy, I.ty, isN, D4, i0, q_want_set, q_want_want, q_want_if, q_want_while, q_want_try, n_want, l_want_tdw, l_want_iw, l_want_td, l_want_itd, l_want_iwtd, q_set_set, q_set_want, q_set_if, q_set_while, q_set_try, n_set, l_set_tdw, l_set_iw, l_set_td, l_set_itd, l_set_iwtd, q_tell_set, q_tell_want, q_tell_if, q_tell_while, q_tell_try, n_tell, l_tell_tdw, l_tell_iw, l_tell_td, l_tell_itd, l_tell_iwtd, q_give_set, q_give_want, q_give_if, q_give_while, q_give_try, n_give, l_give_tdw, l_give_iw, l_give_td, l_give_itd, l_give_iwtd, q_fail_set, q_fail_want, q_fail_if, q_fail_while, q_fail_try, n_fail, l_fail_tdw, l_fail_iw, l_fail_td, l_fail_itd, l_fail_iwtd, q_while_set, q_while_want, q_while_if, q_while_while, q_while_try, n_while, l_while_tdw, l_while_iw, l_while_td, l_while_itd, l_while_iwtd, q_if_set, q_if_want, q_if_if, q_if_while, q_if_try, n_if, l_if_tdw, l_if_iw, l_if_td, l_if_itd, l_if_iwtd, q_try_set, q_try_want, q_try_if, q_try_while, q_try_try, n_try, l_try_tdw, l_try_iw, l_try_td, l_try_itd, l_try_iwtd, q_do_set, q_do_want, q_do_if, q_do_while, q_do_try, n_do, l_do_tdw, l_do_iw, l_do_td, l_do_itd, l_do_iwtd, f_tdw, f_iw, f_td, f_itd, f_iwtd, f_tgf, e1, hs]
  | @dd _ a b h1 h2 =>
    have e1 := hn (fun _ _ z => nomatch z) (fun _ _ z => nomatch z) (fun _ _ z => nomatch z)
    have i0 : ixD (Rw.dd a b).i (.int 0) = some (.str "do") := by rw [Rw.i]; rfl
    generalize (Rw.dd a b).ln = ll at e1 ⊢
    have hs : sh [] (Rw.dd a b).i = (Rw.dd a b).i := by rw [Rw.i]; rfl
    simp [DefT.fn, evSs, evS, evE, evEs, evIt, Rs.R.bind, Rs.R.of, Rs.R.out, opM, prep, Op.deep, opD, sh_int, sh_str, sh_bl, sh_non, sh_tup, sh_lst, asgT, asgTs, asgI, truth, cmpI, fr_int, fr_str, fr_bl, fr_non, fr_nil, eq_int, dispD, toCell, isTy, I.ty, isN, D4, i0, q_want_set, q_want_want, q_want_if, q_want_while, q_want_try, n_want, l_want_tdw, l_want_iw, l_want_td, l_want_itd, l_want_iwtd, q_set_set, q_set_want, q_set_if, q_set_while, q_set_try, n_set, l_set_tdw, l_set_iw, l_set_td, l_set_itd, l_set_iwtd, q_tell_set, q_tell_want, q_tell_if, q_tell_while, q_tell_try, n_tell, l_tell_tdw, l_tell_iw, l_tell_td, l_tell_itd, l_tell_iwtd, q_give_set, q_give_want, q_give_if, q_give_while, q_give_try, n_give, l_give_tdw, l_give_iw, l_give_td, l_give_itd, l_give_iwtd, q_fail_set, q_fail_want, q_fail_if, q_fail_while, q_fail_try, n_fail, l_fail_tdw, l_fail_iw, l_fail_td, l_fail_itd, l_fail_iwtd, q_while_set, q_while_want, q_while_if, q_while_while, q_while_try, n_while, l_while_tdw, l_while_iw, l_while_td, l_while_itd, l_while_iwtd, q_if_set, q_if_want, q_if_if, q_if_while, q_if_try, n_if, l_if_tdw, l_if_iw, l_if_td, l_if_itd, l_if_iwtd, q_try_set, q_try_want, q_try_if, q_try_while, q_try_try, n_try, l_try_tdw, l_try_iw, l_try_td, l_try_itd, l_try_iwtd, q_do_set, q_do_want, q_do_if, q_do_while, q_do_try, n_do, l_do_tdw, l_do_iw, l_do_td, l_do_itd, l_do_iwtd, f_tdw, f_iw, f_td, f_itd, f_iwtd, f_tgf, e1, hs]
theorem lns_part : ∀ {b : List Rw} {r : Rw}, r ∈ b → r.ln.length ≤ (Rw.lns b).length
  | x :: rs, r, h => by
    rw [Rw.lns, List.length_append]
    rcases List.mem_cons.mp h with rfl | h
    · omega
    · have := lns_part h
      omega
theorem sL_eq (l : List Str) : sL l = .lst (l.map .str) := rfl
set_option maxHeartbeats 8000000 in
theorem loop5 {Φ : Oracle} {W : Nat} (x0 : Option I) : ∀ (b : List Rw) (l : List Str) (x2 : Option I), (∀ (r : Rw) (M : Mem), r ∈ b → Φ 4 [r.i] M = .ok (sL r.ln) M) → l.length + (Rw.lns b).length ≤ 100000 →
    ∃ x2', eachL (.nm 2) (evSs Φ W B5_0) (Rw.is b) [x0, some (.obj 0), x2] [.lst (l.map .str)] = some (.nx [x0, some (.obj 0), x2'] [.lst ((l ++ Rw.lns b).map .str)])
  | [], l, x2, _, _ => ⟨x2, by rw [Rw.is, Rw.lns, List.append_nil]; rfl⟩
  | r :: rs, l, x2, h, hl => by
    rw [Rw.lns, List.length_append] at hl
    have e1 : Φ 4 [r.i] [.lst (l.map .str)] = .ok (.lst (r.ln.map .str)) [.lst (l.map .str)] := h r _ List.mem_cons_self
    obtain ⟨x2', e⟩ := loop5 x0 rs (l ++ r.ln) (some r.i) (fun x M hx => h x M (List.mem_cons_of_mem _ hx)) (by rw [List.length_append]; omega)
    refine ⟨x2', ?_⟩
    rw [Rw.is, Rw.lns]
    unfold eachL
    have hsz : l.length + r.ln.length ≤ sizeLine := by rw [sl24]; omega
    have eb : evSs Φ W B5_0 [x0, some (.obj 0), some r.i] [.lst (l.map .str)] = some (.nx [x0, some (.obj 0), some r.i] [.lst ((l ++ r.ln).map .str)]) := by
      simp [DefT.fn, evSs, evS, evE, evEs, evIt, Rs.R.bind, Rs.R.of, Rs.R.out, opM, prep, Op.deep, opD, sh_int, sh_str, sh_bl, sh_non, sh_tup, sh_lst, asgT, asgTs, asgI, truth, cmpI, fr_int, fr_str, fr_bl, fr_non, fr_nil, eq_int, dispD, toCell, isTy, I.ty, isN, B5_0, e1, hsz]
    have ea : asgT (.nm 2) r.i [x0, some (.obj 0), x2] = some [x0, some (.obj 0), some r.i] := by simp [asgT, asgI]
    rw [ea]
    dsimp only
    rw [eb]
    dsimp only
    rw [e, List.append_assoc]
set_option maxHeartbeats 8000000 in
theorem blkT_ok {W d : Nat} (hR : RowT W d) : BlkT W d := by
  intro b F M ok hl hF
  obtain ⟨k, rfl⟩ : ∃ k, F = k + 1 := ⟨F - 1, by omega⟩
  rw [call0 P5 rfl rfl rfl (flats1 (x := .tup (Rw.is b)) (rws_flat b))]
  have hr : ∀ (r : Rw) (M : Mem), r ∈ b → evCall T.P W k 4 [r.i] M = .ok (sL r.ln) M := fun r M h => hR r k M (ok r h) (Nat.le_trans (lns_part h) hl) (by omega)
  generalize evCall T.P W k = Φ at hr
  obtain ⟨x2, e⟩ := loop5 (W := W) (some (.tup (Rw.is b))) b [] none hr (by simp; omega)
  suffices evSs Φ W D5.fn.body (List.map some [I.tup (Rw.is b)] ++ List.replicate (D5.fn.ns - D5.fn.np) none) [] = some (.ret (.obj 0) [.lst ((Rw.lns b).map .str)]) by
    rw [this]
    exact back_obj (i := 0) rfl (flats_strs _)
  have es : ∀ M, seqItems M (.tup (Rw.is b)) = some (.vals (Rw.is b)) := fun _ => rfl
  rw [List.nil_append, List.map_nil] at e
  simp [DefT.fn, evSs, evS, evE, evEs, evIt, Rs.R.bind, Rs.R.of, Rs.R.out, opM, prep, Op.deep, opD, sh_int, sh_str, sh_bl, sh_non, sh_tup, sh_lst, asgT, asgTs, asgI, truth, cmpI, fr_int, fr_str, fr_bl, fr_non, fr_nil, eq_int, dispD, toCell, isTy, I.ty, isN, D5, es]
  simp [DefT.fn, evSs, evS, evE, evEs, evIt, Rs.R.bind, Rs.R.of, Rs.R.out, opM, prep, Op.deep, opD, sh_int, sh_str, sh_bl, sh_non, sh_tup, sh_lst, asgT, asgTs, asgI, truth, cmpI, fr_int, fr_str, fr_bl, fr_non, fr_nil, eq_int, dispD, toCell, isTy, I.ty, isN, e]
theorem bT : ∀ (W d : Nat), BlkT W d
  | W, 0 => blkT_ok (rowT_ok fun e z => nomatch z)
  | W, d + 1 => blkT_ok (rowT_ok fun e z => by cases z; exact nestT_ok (bT W d))
end K07

namespace K07
open PySem PySem.Spec PyProof.Rows L2 Rs
theorem P21 : T.P 21 = some D21.fn := rfl
theorem set1 {M : Mem} {x y : Cell} : (M ++ [x]).set M.length y = M ++ [y] := snoc_set
theorem get2 {M : Mem} {x y : Cell} : (M ++ [x, y])[M.length + 1]? = some y := by
  rw [List.getElem?_append_right (by omega), show M.length + 1 - M.length = 1 by omega]; rfl
theorem get3 {M : Mem} {x y z : Cell} : (M ++ [x, y, z])[M.length + 1 + 1]? = some z := by
  rw [List.getElem?_append_right (by omega), show M.length + 1 + 1 - M.length = 2 by omega]; rfl
theorem set2 {M : Mem} {x y z : Cell} : (M ++ [x, y]).set (M.length + 1) z = M ++ [x, z] := by
  rw [List.set_append_right _ _ (by omega), show M.length + 1 - M.length = 1 by omega]; rfl
theorem set3 {M : Mem} {x y z w : Cell} : (M ++ [x, y, z]).set (M.length + 1 + 1) w = M ++ [x, y, w] := by
  rw [List.set_append_right _ _ (by omega), show M.length + 1 + 1 - M.length = 2 by omega]; rfl
theorem mth_index {M : Mem} {ys : List I} {z : I} {n : Nat} (h1 : frz M dpt (.lst ys) = some (.lst ys)) (h2 : frz M dpt z = some z) (h3 : ((I.lst ys).fit && z.fit) = true) (h4 : firstAt (I.pys ys) z.py = some n) : mthD M .index (.lst ys) [z] = some (.int n) := by
  show (match frz M dpt (.lst ys), frz M dpt z with
    | some (.lst ys), some z => if (I.lst ys).fit && z.fit then (firstAt (I.pys ys) z.py).map fun (n : Nat) => I.int (n : Int) else none
    | _, _ => none) = _
  rw [h1, h2]
  dsimp only
  rw [if_pos h3, h4]; rfl
theorem x_if (M : Mem) : mthD M .index (.lst [.str "if", .str "try", .str "do"]) [.str "if"] = some (.int 0) := mth_index (n := 0) (f_itd M) (fr_str M _ _) (by decide +kernel) (by decide +kernel)
theorem x_try (M : Mem) : mthD M .index (.lst [.str "if", .str "try", .str "do"]) [.str "try"] = some (.int 1) := mth_index (n := 1) (f_itd M) (fr_str M _ _) (by decide +kernel) (by decide +kernel)
theorem x_do (M : Mem) : mthD M .index (.lst [.str "if", .str "try", .str "do"]) [.str "do"] = some (.int 2) := mth_index (n := 2) (f_itd M) (fr_str M _ _) (by decide +kernel) (by decide +kernel)
/-- the state within the rows' loop -/
def St21 (x0 : Option I) (τ : Rs.Env) (M : Mem) (l : List Str) : Prop := ∃ (Mp : Mem) (x2 x3 x4 x5 : Option I), M = Mp ++ [.lst (l.map .str)] ∧ τ = [x0, some (.obj Mp.length), x2, x3, x4, x5]
def Row21 (Φ : Oracle) (W : Nat) (r : Rw) : Prop := ∀ (x0 : Option I) (τ : Rs.Env) (M : Mem) (l : List Str), l.length + r.ln.length ≤ 100000 → St21 x0 τ M l → ∃ τ1 τ2 M2, asgT (.nm 2) r.i τ = some τ1 ∧ evSs Φ W B21_1 τ1 M = some (.nx τ2 M2) ∧ St21 x0 τ2 M2 (l ++ r.ln)
theorem e_set : ("set" : Str) ++ " " = "set " := by decide +kernel
theorem e_if : ("if" : Str) ++ " " = "if " := by decide +kernel
theorem e_while : ("while" : Str) ++ " " = "while " := by decide +kernel
theorem e_want : ("want" : Str) ++ " " = "want " := by decide +kernel
theorem e_catch : ("catch" : Str) ++ " " = "catch " := by decide +kernel
theorem s_set : Tx 6 "set" := tx_of (by decide +kernel)
theorem s_if : Tx 6 "if" := tx_of (by decide +kernel)
theorem s_while : Tx 6 "while" := tx_of (by decide +kernel)
theorem s_want : Tx 6 "want" := tx_of (by decide +kernel)
theorem loop21 {Φ : Oracle} {W : Nat} (x0 : Option I) : ∀ (b : List Rw) (τ : Rs.Env) (M : Mem) (l : List Str), (∀ r ∈ b, Row21 Φ W r) → l.length + (Rw.lns b).length ≤ 100000 → St21 x0 τ M l → ∃ τ' M', eachL (.nm 2) (evSs Φ W B21_1) (Rw.is b) τ M = some (.nx τ' M') ∧ St21 x0 τ' M' (l ++ Rw.lns b)
  | [], τ, M, l, _, _, s => ⟨τ, M, by rw [Rw.is]; rfl, by rw [Rw.lns, List.append_nil]; exact s⟩
  | r :: rs, τ, M, l, h, hl, s => by
    rw [Rw.lns, List.length_append] at hl
    obtain ⟨τ1, τ2, M2, e1, e2, s2⟩ := h r List.mem_cons_self x0 τ M l (by omega) s
    obtain ⟨τ', M', e3, s3⟩ := loop21 x0 rs τ2 M2 (l ++ r.ln) (fun x hx => h x (List.mem_cons_of_mem _ hx)) (by rw [List.length_append]; omega) s2
    refine ⟨τ', M', ?_, by rw [Rw.lns, ← List.append_assoc]; exact s3⟩
    rw [Rw.is]
    unfold eachL
    rw [e1]
    dsimp only
    rw [e2]
    exact e3
section
variable {Φ : Oracle} {W d : Nat}
set_option maxHeartbeats 8000000 in
theorem r21_set {x : Str} {w : Wt} (hw : ∀ (w : Wt) (M : Mem), WtOk 3 w → Φ 19 [w.i] M = .ok (.str w.t) M) (h1 : Tx 8 x) (h2 : WtOk 3 w) : Row21 Φ W (.set x w) := by
  rintro x0 τ M l hl ⟨Mp, x2, x3, x4, x5, rfl, rfl⟩
  have i0 : ixD (Rw.set x w).i (.int 0) = some (.str "set") := by rw [Rw.i]; rfl
  have i1 : ixD (Rw.set x w).i (.int 1) = some (.str x) := by rw [Rw.i]; rfl
  have i2 : ixD (Rw.set x w).i (.int 2) = some w.i := by rw [Rw.i]; rfl
  have j1 : ixD (.lst [.int 1, .int 2]) (.int 1) = some (.int 2) := rfl
  have e1 := hw w (Mp ++ [.lst (l.map .str)]) h2
  have t1 := add_tx s_set t_sp (by decide)
  have t2 := add_tx (s_set.app t_sp) h1 (by decide)
  have t3 := add_tx ((s_set.app t_sp).app h1) t_sp (by decide)
  have t4 := add_tx (((s_set.app t_sp).app h1).app t_sp) (wt3 h2) (by decide)
  have hsz : l.length < sizeLine := by rw [sl24]; omega
  rw [Rw.ln, ← e_set]
  rw [Rw.i] at i0 i1 i2 ⊢
  refine ⟨_, _, _, rfl, ?_, Mp, some (.tup [.str "set", .str x, w.i]), some (.str "set"), some (.str ("set" ++ " " ++ x ++ " " ++ w.t)), x5, rfl, rfl⟩
  simp [DefT.fn, evSs, evS, evE, evEs, evIt, Rs.R.bind, Rs.R.of, Rs.R.out, opM, prep, Op.deep, opD, sh_int, sh_str, sh_bl, sh_non, sh_tup, sh_lst, asgT, asgTs, asgI, truth, cmpI, fr_int, fr_str, fr_bl, fr_non, fr_nil, eq_int, dispD, toCell, isTy, I.ty, isN, B21_1, i0, i1, i2, j1, q_want_set, q_want_want, q_want_if, q_want_while, q_want_try, n_want, l_want_tdw, l_want_iw, l_want_td, l_want_itd, l_want_iwtd, q_set_set, q_set_want, q_set_if, q_set_while, q_set_try, n_set, l_set_tdw, l_set_iw, l_set_td, l_set_itd, l_set_iwtd, q_tell_set, q_tell_want, q_tell_if, q_tell_while, q_tell_try, n_tell, l_tell_tdw, l_tell_iw, l_tell_td, l_tell_itd, l_tell_iwtd, q_give_set, q_give_want, q_give_if, q_give_while, q_give_try, n_give, l_give_tdw, l_give_iw, l_give_td, l_give_itd, l_give_iwtd, q_fail_set, q_fail_want, q_fail_if, q_fail_while, q_fail_try, n_fail, l_fail_tdw, l_fail_iw, l_fail_td, l_fail_itd, l_fail_iwtd, q_while_set, q_while_want, q_while_if, q_while_while, q_while_try, n_while, l_while_tdw, l_while_iw, l_while_td, l_while_itd, l_while_iwtd, q_if_set, q_if_want, q_if_if, q_if_while, q_if_try, n_if, l_if_tdw, l_if_iw, l_if_td, l_if_itd, l_if_iwtd, q_try_set, q_try_want, q_try_if, q_try_while, q_try_try, n_try, l_try_tdw, l_try_iw, l_try_td, l_try_itd, l_try_iwtd, q_do_set, q_do_want, q_do_if, q_do_while, q_do_try, n_do, l_do_tdw, l_do_iw, l_do_td, l_do_itd, l_do_iwtd, f_tdw, f_iw, f_td, f_itd, f_iwtd, f_tgf, e1, t1, t2, t3, t4, hsz, set1]
theorem lt_big {n : Nat} (h : n < 200000) : n < sizeLine := by rw [sl24]; omega
theorem addL {a b : List I} (h : a.length + b.length ≤ 200000) : addD (.lst a) (.lst b) = some (.lst (a ++ b)) := by
  show (if a.length + b.length ≤ sizeLine then some (I.lst (a ++ b)) else none) = _
  rw [if_pos (by rw [sl24]; omega)]
theorem sh1 {M : Mem} {a : List I} : sh (M ++ [.lst a]) (.obj M.length) = .lst a := sh_obj (by simp)
theorem sh2 {M : Mem} {x : Cell} {a : List I} : sh (M ++ [x, .lst a]) (.obj (M.length + 1)) = .lst a := sh_obj get2
theorem sh3 {M : Mem} {x y : Cell} {a : List I} : sh (M ++ [x, y, .lst a]) (.obj (M.length + 1 + 1)) = .lst a := sh_obj get3
set_option maxHeartbeats 8000000 in
theorem r21_say {j : Sy} {w : Wt} (hw : ∀ (w : Wt) (M : Mem), WtOk 3 w → Φ 19 [w.i] M = .ok (.str w.t) M) (h2 : WtOk 3 w) : Row21 Φ W (.say j w) := by
  rintro x0 τ M l hl ⟨Mp, x2, x3, x4, x5, rfl, rfl⟩
  have i0 : ixD (Rw.say j w).i (.int 0) = some (.str j.s) := by rw [Rw.i]; rfl
  have i1 : ixD (Rw.say j w).i (.int 1) = some w.i := by rw [Rw.i]; rfl
  have j1 : ixD (.lst [.int 1, .int 2]) (.int 0) = some (.int 1) := rfl
  have e1 := hw w (Mp ++ [.lst (l.map .str)]) h2
  have t1 := add_tx (t_sy j) t_sp (by decide)
  have t2 := add_tx ((t_sy j).app t_sp) (wt3 h2) (by decide)
  rw [Rw.ln]
  rw [Rw.i] at i0 i1 ⊢
  refine ⟨_, _, _, rfl, ?_, Mp, some (.tup [.str j.s, w.i]), some (.str j.s), some (.str (j.s ++ " " ++ w.t)), x5, rfl, rfl⟩
  cases j <;> simp only [Sy.s] at i0 i1 t1 t2 ⊢ <;> simp (disch := first | omega | (simp only [List.length_append, List.length_map, List.length_cons, List.length_nil]; omega)) [DefT.fn, evSs, evS, evE, evEs, evIt, Rs.R.bind, Rs.R.of, Rs.R.out, opM, prep, Op.deep, opD, sh_int, sh_str, sh_bl, sh_non, sh_tup, sh_lst, asgT, asgTs, asgI, truth, cmpI, fr_int, fr_str, fr_bl, fr_non, fr_nil, eq_int, dispD, toCell, isTy, I.ty, isN, B21_1, i0, i1, j1, q_want_set, q_want_want, q_want_if, q_want_while, q_want_try, n_want, l_want_tdw, l_want_iw, l_want_td, l_want_itd, l_want_iwtd, q_set_set, q_set_want, q_set_if, q_set_while, q_set_try, n_set, l_set_tdw, l_set_iw, l_set_td, l_set_itd, l_set_iwtd, q_tell_set, q_tell_want, q_tell_if, q_tell_while, q_tell_try, n_tell, l_tell_tdw, l_tell_iw, l_tell_td, l_tell_itd, l_tell_iwtd, q_give_set, q_give_want, q_give_if, q_give_while, q_give_try, n_give, l_give_tdw, l_give_iw, l_give_td, l_give_itd, l_give_iwtd, q_fail_set, q_fail_want, q_fail_if, q_fail_while, q_fail_try, n_fail, l_fail_tdw, l_fail_iw, l_fail_td, l_fail_itd, l_fail_iwtd, q_while_set, q_while_want, q_while_if, q_while_while, q_while_try, n_while, l_while_tdw, l_while_iw, l_while_td, l_while_itd, l_while_iwtd, q_if_set, q_if_want, q_if_if, q_if_while, q_if_try, n_if, l_if_tdw, l_if_iw, l_if_td, l_if_itd, l_if_iwtd, q_try_set, q_try_want, q_try_if, q_try_while, q_try_try, n_try, l_try_tdw, l_try_iw, l_try_td, l_try_itd, l_try_iwtd, q_do_set, q_do_want, q_do_if, q_do_while, q_do_try, n_do, l_do_tdw, l_do_iw, l_do_td, l_do_itd, l_do_iwtd, f_tdw, f_iw, f_td, f_itd, f_iwtd, f_tgf, e1, t1, t2, lt_big, set1]
set_option maxHeartbeats 8000000 in
theorem r21_whl {w : Wt} {b : List Rw} (hw : ∀ (w : Wt) (M : Mem), WtOk 3 w → Φ 19 [w.i] M = .ok (.str w.t) M) (hb : ∀ M, Φ 21 [.tup (Rw.is b)] M = .ok (.lst ((Rw.lns b).map .str)) M) (h2 : WtOk 3 w) : Row21 Φ W (.whl w b) := by
  rintro x0 τ M l hl ⟨Mp, x2, x3, x4, x5, rfl, rfl⟩
  have i0 : ixD (Rw.whl w b).i (.int 0) = some (.str "while") := by rw [Rw.i]; rfl
  have i1 : ixD (Rw.whl w b).i (.int 1) = some w.i := by rw [Rw.i]; rfl
  have i2 : ixD (Rw.whl w b).i (.int 2) = some (.tup (Rw.is b)) := by rw [Rw.i]; rfl
  have j1 : ixD (.lst [.int 1, .int 2]) (.int 0) = some (.int 1) := rfl
  have e1 := hw w (Mp ++ [.lst (l.map .str)]) h2
  have t1 := add_tx s_while t_sp (by decide)
  have t2 := add_tx (s_while.app t_sp) (wt3 h2) (by decide)
  rw [Rw.ln] at hl ⊢
  simp only [List.length_cons, List.length_append, List.length_nil] at hl
  rw [← e_while]
  rw [Rw.i] at i0 i1 i2 ⊢
  refine ⟨_, [x0, some (.obj (Mp.length + 1)), some (.tup [.str "while", w.i, .tup (Rw.is b)]), some (.str "while"), some (.str ("while" ++ " " ++ w.t)), x5], Mp ++ [.lst ((l ++ ["while" ++ " " ++ w.t]).map .str), .lst ((l ++ ("while" ++ " " ++ w.t) :: (Rw.lns b ++ [("end" : Str)])).map .str)], rfl, ?_, Mp ++ [.lst ((l ++ ["while" ++ " " ++ w.t]).map .str)], some (.tup [.str "while", w.i, .tup (Rw.is b)]), some (.str "while"), some (.str ("while" ++ " " ++ w.t)), x5, by simp, by simp⟩
  simp (disch := first | omega | (simp only [List.length_append, List.length_map, List.length_cons, List.length_nil]; omega)) [DefT.fn, evSs, evS, evE, evEs, evIt, Rs.R.bind, Rs.R.of, Rs.R.out, opM, prep, Op.deep, opD, sh_int, sh_str, sh_bl, sh_non, sh_tup, sh_lst, asgT, asgTs, asgI, truth, cmpI, fr_int, fr_str, fr_bl, fr_non, fr_nil, eq_int, dispD, toCell, isTy, I.ty, isN, B21_1, i0, i1, i2, j1, q_want_set, q_want_want, q_want_if, q_want_while, q_want_try, n_want, l_want_tdw, l_want_iw, l_want_td, l_want_itd, l_want_iwtd, q_set_set, q_set_want, q_set_if, q_set_while, q_set_try, n_set, l_set_tdw, l_set_iw, l_set_td, l_set_itd, l_set_iwtd, q_tell_set, q_tell_want, q_tell_if, q_tell_while, q_tell_try, n_tell, l_tell_tdw, l_tell_iw, l_tell_td, l_tell_itd, l_tell_iwtd, q_give_set, q_give_want, q_give_if, q_give_while, q_give_try, n_give, l_give_tdw, l_give_iw, l_give_td, l_give_itd, l_give_iwtd, q_fail_set, q_fail_want, q_fail_if, q_fail_while, q_fail_try, n_fail, l_fail_tdw, l_fail_iw, l_fail_td, l_fail_itd, l_fail_iwtd, q_while_set, q_while_want, q_while_if, q_while_while, q_while_try, n_while, l_while_tdw, l_while_iw, l_while_td, l_while_itd, l_while_iwtd, q_if_set, q_if_want, q_if_if, q_if_while, q_if_try, n_if, l_if_tdw, l_if_iw, l_if_td, l_if_itd, l_if_iwtd, q_try_set, q_try_want, q_try_if, q_try_while, q_try_try, n_try, l_try_tdw, l_try_iw, l_try_td, l_try_itd, l_try_iwtd, q_do_set, q_do_want, q_do_if, q_do_while, q_do_try, n_do, l_do_tdw, l_do_iw, l_do_td, l_do_itd, l_do_iwtd, f_tdw, f_iw, f_td, f_itd, f_iwtd, f_tgf, e1, t1, t2, hb, lt_big, set1, set2, sh1, sh2, get2, addL]
end
end K07

namespace K07
open PySem PySem.Spec PyProof.Rows L2 Rs
section
variable {Φ : Oracle} {W d : Nat}
set_option maxHeartbeats 8000000 in
theorem r21_iff {w : Wt} {a b : List Rw} (hw : ∀ (w : Wt) (M : Mem), WtOk 3 w → Φ 19 [w.i] M = .ok (.str w.t) M) (ha : ∀ M, Φ 21 [.tup (Rw.is a)] M = .ok (.lst ((Rw.lns a).map .str)) M) (hb : ∀ M, Φ 21 [.tup (Rw.is b)] M = .ok (.lst ((Rw.lns b).map .str)) M) (h2 : WtOk 3 w) : Row21 Φ W (.iff w a b) := by
  rintro x0 τ M l hl ⟨Mp, x2, x3, x4, x5, rfl, rfl⟩
  have i0 : ixD (Rw.iff w a b).i (.int 0) = some (.str "if") := by rw [Rw.i]; rfl
  have i1 : ixD (Rw.iff w a b).i (.int 1) = some w.i := by rw [Rw.i]; rfl
  have i2 : ixD (Rw.iff w a b).i (.int 2) = some (.tup (Rw.is a)) := by rw [Rw.i]; rfl
  have i3 : ixD (Rw.iff w a b).i (.int (-1)) = some (.tup (Rw.is b)) := by rw [Rw.i]; rfl
  have j1 : ixD (.lst [.int 1, .int 2]) (.int 0) = some (.int 1) := rfl
  have j2 : ixD (.lst [.str "else", .str "catch", .str "undo"]) (.int 0) = some (.str "else") := rfl
  have e1 := hw w (Mp ++ [.lst (l.map .str)]) h2
  have t1 := add_tx s_if t_sp (by decide)
  have t2 := add_tx (s_if.app t_sp) (wt3 h2) (by decide)
  rw [Rw.ln] at hl ⊢
  simp only [List.length_cons, List.length_append, List.length_nil] at hl
  rw [← e_if]
  rw [Rw.i] at i0 i1 i2 i3 ⊢
  refine ⟨_, [x0, some (.obj (Mp.length + 1 + 1)), some (.tup [.str "if", w.i, .tup (Rw.is a), .tup (Rw.is b)]), some (.str "if"), some (.str "else"), x5],
    Mp ++ [.lst ((l ++ ["if" ++ " " ++ w.t]).map .str), .lst ((l ++ ("if" ++ " " ++ w.t) :: Rw.lns a).map .str), .lst ((l ++ ("if" ++ " " ++ w.t) :: (Rw.lns a ++ ("else" : Str) :: (Rw.lns b ++ [("end" : Str)]))).map .str)], rfl, ?_,
    Mp ++ [.lst ((l ++ ["if" ++ " " ++ w.t]).map .str), .lst ((l ++ ("if" ++ " " ++ w.t) :: Rw.lns a).map .str)], some (.tup [.str "if", w.i, .tup (Rw.is a), .tup (Rw.is b)]), some (.str "if"), some (.str "else"), x5, by simp, by simp⟩
  simp (disch := first | omega | (simp only [List.length_append, List.length_map, List.length_cons, List.length_nil]; omega)) [DefT.fn, evSs, evS, evE, evEs, evIt, Rs.R.bind, Rs.R.of, Rs.R.out, opM, prep, Op.deep, opD, sh_int, sh_str, sh_bl, sh_non, sh_tup, sh_lst, asgT, asgTs, asgI, truth, cmpI, fr_int, fr_str, fr_bl, fr_non, fr_nil, eq_int, dispD, toCell, isTy, I.ty, isN, B21_1, i0, i1, i2, i3, j1, j2, q_want_set, q_want_want, q_want_if, q_want_while, q_want_try, n_want, l_want_tdw, l_want_iw, l_want_td, l_want_itd, l_want_iwtd, q_set_set, q_set_want, q_set_if, q_set_while, q_set_try, n_set, l_set_tdw, l_set_iw, l_set_td, l_set_itd, l_set_iwtd, q_tell_set, q_tell_want, q_tell_if, q_tell_while, q_tell_try, n_tell, l_tell_tdw, l_tell_iw, l_tell_td, l_tell_itd, l_tell_iwtd, q_give_set, q_give_want, q_give_if, q_give_while, q_give_try, n_give, l_give_tdw, l_give_iw, l_give_td, l_give_itd, l_give_iwtd, q_fail_set, q_fail_want, q_fail_if, q_fail_while, q_fail_try, n_fail, l_fail_tdw, l_fail_iw, l_fail_td, l_fail_itd, l_fail_iwtd, q_while_set, q_while_want, q_while_if, q_while_while, q_while_try, n_while, l_while_tdw, l_while_iw, l_while_td, l_while_itd, l_while_iwtd, q_if_set, q_if_want, q_if_if, q_if_while, q_if_try, n_if, l_if_tdw, l_if_iw, l_if_td, l_if_itd, l_if_iwtd, q_try_set, q_try_want, q_try_if, q_try_while, q_try_try, n_try, l_try_tdw, l_try_iw, l_try_td, l_try_itd, l_try_iwtd, q_do_set, q_do_want, q_do_if, q_do_while, q_do_try, n_do, l_do_tdw, l_do_iw, l_do_td, l_do_itd, l_do_iwtd, f_tdw, f_iw, f_td, f_itd, f_iwtd, f_tgf, e1, t1, t2, ha, hb, lt_big, set1, set2, set3, sh1, sh2, sh3, get2, get3, addL, negD, recv, x_if]
set_option maxHeartbeats 8000000 in
theorem r21_dd {a b : List Rw} (ha : ∀ M, Φ 21 [.tup (Rw.is a)] M = .ok (.lst ((Rw.lns a).map .str)) M) (hb : ∀ M, Φ 21 [.tup (Rw.is b)] M = .ok (.lst ((Rw.lns b).map .str)) M) : Row21 Φ W (.dd a b) := by
  rintro x0 τ M l hl ⟨Mp, x2, x3, x4, x5, rfl, rfl⟩
  have i0 : ixD (Rw.dd a b).i (.int 0) = some (.str "do") := by rw [Rw.i]; rfl
  have i1 : ixD (Rw.dd a b).i (.int 1) = some (.tup (Rw.is a)) := by rw [Rw.i]; rfl
  have i3 : ixD (Rw.dd a b).i (.int (-1)) = some (.tup (Rw.is b)) := by rw [Rw.i]; rfl
  have j2 : ixD (.lst [.str "else", .str "catch", .str "undo"]) (.int 2) = some (.str "undo") := rfl
  rw [Rw.ln] at hl ⊢
  simp only [List.length_cons, List.length_append, List.length_nil] at hl
  rw [Rw.i] at i0 i1 i3 ⊢
  refine ⟨_, [x0, some (.obj (Mp.length + 1 + 1)), some (.tup [.str "do", .tup (Rw.is a), .tup (Rw.is b)]), some (.str "do"), some (.str "undo"), x5],
    Mp ++ [.lst ((l ++ [("do" : Str)]).map .str), .lst ((l ++ ("do" : Str) :: Rw.lns a).map .str), .lst ((l ++ ("do" : Str) :: (Rw.lns a ++ ("undo" : Str) :: (Rw.lns b ++ [("end" : Str)]))).map .str)], rfl, ?_,
    Mp ++ [.lst ((l ++ [("do" : Str)]).map .str), .lst ((l ++ ("do" : Str) :: Rw.lns a).map .str)], some (.tup [.str "do", .tup (Rw.is a), .tup (Rw.is b)]), some (.str "do"), some (.str "undo"), x5, by simp, by simp⟩
  simp (disch := first | omega | (simp only [List.length_append, List.length_map, List.length_cons, List.length_nil]; omega)) [DefT.fn, evSs, evS, evE, evEs, evIt, Rs.R.bind, Rs.R.of, Rs.R.out, opM, prep, Op.deep, opD, sh_int, sh_str, sh_bl, sh_non, sh_tup, sh_lst, asgT, asgTs, asgI, truth, cmpI, fr_int, fr_str, fr_bl, fr_non, fr_nil, eq_int, dispD, toCell, isTy, I.ty, isN, B21_1, i0, i1, i3, j2, q_want_set, q_want_want, q_want_if, q_want_while, q_want_try, n_want, l_want_tdw, l_want_iw, l_want_td, l_want_itd, l_want_iwtd, q_set_set, q_set_want, q_set_if, q_set_while, q_set_try, n_set, l_set_tdw, l_set_iw, l_set_td, l_set_itd, l_set_iwtd, q_tell_set, q_tell_want, q_tell_if, q_tell_while, q_tell_try, n_tell, l_tell_tdw, l_tell_iw, l_tell_td, l_tell_itd, l_tell_iwtd, q_give_set, q_give_want, q_give_if, q_give_while, q_give_try, n_give, l_give_tdw, l_give_iw, l_give_td, l_give_itd, l_give_iwtd, q_fail_set, q_fail_want, q_fail_if, q_fail_while, q_fail_try, n_fail, l_fail_tdw, l_fail_iw, l_fail_td, l_fail_itd, l_fail_iwtd, q_while_set, q_while_want, q_while_if, q_while_while, q_while_try, n_while, l_while_tdw, l_while_iw, l_while_td, l_while_itd, l_while_iwtd, q_if_set, q_if_want, q_if_if, q_if_while, q_if_try, n_if, l_if_tdw, l_if_iw, l_if_td, l_if_itd, l_if_iwtd, q_try_set, q_try_want, q_try_if, q_try_while, q_try_try, n_try, l_try_tdw, l_try_iw, l_try_td, l_try_itd, l_try_iwtd, q_do_set, q_do_want, q_do_if, q_do_while, q_do_try, n_do, l_do_tdw, l_do_iw, l_do_td, l_do_itd, l_do_iwtd, f_tdw, f_iw, f_td, f_itd, f_iwtd, f_tgf, ha, hb, lt_big, set1, set2, set3, sh1, sh2, sh3, get2, get3, addL, negD, recv, x_do]
set_option maxHeartbeats 8000000 in
theorem r21_tri {nm : Option Str} {a b : List Rw} (hnm : OptOk nm) (ha : ∀ M, Φ 21 [.tup (Rw.is a)] M = .ok (.lst ((Rw.lns a).map .str)) M) (hb : ∀ M, Φ 21 [.tup (Rw.is b)] M = .ok (.lst ((Rw.lns b).map .str)) M) : Row21 Φ W (.tri a nm b) := by
  rintro x0 τ M l hl ⟨Mp, x2, x3, x4, x5, rfl, rfl⟩
  have i0 : ixD (Rw.tri a nm b).i (.int 0) = some (.str "try") := by rw [Rw.i]; rfl
  have i1 : ixD (Rw.tri a nm b).i (.int 1) = some (.tup (Rw.is a)) := by rw [Rw.i]; rfl
  have i2 : ixD (Rw.tri a nm b).i (.int 2) = some (optI nm) := by rw [Rw.i]; rfl
  have i3 : ixD (Rw.tri a nm b).i (.int (-1)) = some (.tup (Rw.is b)) := by rw [Rw.i]; rfl
  have j2 : ixD (.lst [.str "else", .str "catch", .str "undo"]) (.int 1) = some (.str "catch") := rfl
  rw [Rw.ln] at hl ⊢
  simp only [List.length_cons, List.length_append, List.length_nil] at hl
  rw [Rw.i] at i0 i1 i2 i3 ⊢
  refine ⟨_, [x0, some (.obj (Mp.length + 1 + 1)), some (.tup [.str "try", .tup (Rw.is a), optI nm, .tup (Rw.is b)]), some (.str "try"), some (.str (catchT nm)), x5],
    Mp ++ [.lst ((l ++ [("try" : Str)]).map .str), .lst ((l ++ ("try" : Str) :: Rw.lns a).map .str), .lst ((l ++ ("try" : Str) :: (Rw.lns a ++ catchT nm :: (Rw.lns b ++ [("end" : Str)]))).map .str)], rfl, ?_,
    Mp ++ [.lst ((l ++ [("try" : Str)]).map .str), .lst ((l ++ ("try" : Str) :: Rw.lns a).map .str)], some (.tup [.str "try", .tup (Rw.is a), optI nm, .tup (Rw.is b)]), some (.str "try"), some (.str (catchT nm)), x5, by simp, by simp⟩
  cases nm with
  | none =>
    simp only [optI, catchT] at i0 i1 i2 i3 ⊢
    simp (disch := first | omega | (simp only [List.length_append, List.length_map, List.length_cons, List.length_nil]; omega)) [DefT.fn, evSs, evS, evE, evEs, evIt, Rs.R.bind, Rs.R.of, Rs.R.out, opM, prep, Op.deep, opD, sh_int, sh_str, sh_bl, sh_non, sh_tup, sh_lst, asgT, asgTs, asgI, truth, cmpI, fr_int, fr_str, fr_bl, fr_non, fr_nil, eq_int, dispD, toCell, isTy, I.ty, isN, B21_1, i0, i1, i2, i3, j2, q_want_set, q_want_want, q_want_if, q_want_while, q_want_try, n_want, l_want_tdw, l_want_iw, l_want_td, l_want_itd, l_want_iwtd, q_set_set, q_set_want, q_set_if, q_set_while, q_set_try, n_set, l_set_tdw, l_set_iw, l_set_td, l_set_itd, l_set_iwtd, q_tell_set, q_tell_want, q_tell_if, q_tell_while, q_tell_try, n_tell, l_tell_tdw, l_tell_iw, l_tell_td, l_tell_itd, l_tell_iwtd, q_give_set, q_give_want, q_give_if, q_give_while, q_give_try, n_give, l_give_tdw, l_give_iw, l_give_td, l_give_itd, l_give_iwtd, q_fail_set, q_fail_want, q_fail_if, q_fail_while, q_fail_try, n_fail, l_fail_tdw, l_fail_iw, l_fail_td, l_fail_itd, l_fail_iwtd, q_while_set, q_while_want, q_while_if, q_while_while, q_while_try, n_while, l_while_tdw, l_while_iw, l_while_td, l_while_itd, l_while_iwtd, q_if_set, q_if_want, q_if_if, q_if_while, q_if_try, n_if, l_if_tdw, l_if_iw, l_if_td, l_if_itd, l_if_iwtd, q_try_set, q_try_want, q_try_if, q_try_while, q_try_try, n_try, l_try_tdw, l_try_iw, l_try_td, l_try_itd, l_try_iwtd, q_do_set, q_do_want, q_do_if, q_do_while, q_do_try, n_do, l_do_tdw, l_do_iw, l_do_td, l_do_itd, l_do_iwtd, f_tdw, f_iw, f_td, f_itd, f_iwtd, f_tgf, ha, hb, lt_big, set1, set2, set3, sh1, sh2, sh3, get2, get3, addL, negD, recv, x_try]
  | some n =>
    have t1 := add_tx t_catch0 t_sp (by decide)
    have t2 := add_tx (t_catch0.app t_sp) (hnm n rfl) (by decide)
    rw [e_catch] at t1 t2
    simp only [optI, catchT] at i0 i1 i2 i3 ⊢
    simp (disch := first | omega | (simp only [List.length_append, List.length_map, List.length_cons, List.length_nil]; omega)) [DefT.fn, evSs, evS, evE, evEs, evIt, Rs.R.bind, Rs.R.of, Rs.R.out, opM, prep, Op.deep, opD, sh_int, sh_str, sh_bl, sh_non, sh_tup, sh_lst, asgT, asgTs, asgI, truth, cmpI, fr_int, fr_str, fr_bl, fr_non, fr_nil, eq_int, dispD, toCell, isTy, I.ty, isN, B21_1, i0, i1, i2, i3, j2, q_want_set, q_want_want, q_want_if, q_want_while, q_want_try, n_want, l_want_tdw, l_want_iw, l_want_td, l_want_itd, l_want_iwtd, q_set_set, q_set_want, q_set_if, q_set_while, q_set_try, n_set, l_set_tdw, l_set_iw, l_set_td, l_set_itd, l_set_iwtd, q_tell_set, q_tell_want, q_tell_if, q_tell_while, q_tell_try, n_tell, l_tell_tdw, l_tell_iw, l_tell_td, l_tell_itd, l_tell_iwtd, q_give_set, q_give_want, q_give_if, q_give_while, q_give_try, n_give, l_give_tdw, l_give_iw, l_give_td, l_give_itd, l_give_iwtd, q_fail_set, q_fail_want, q_fail_if, q_fail_while, q_fail_try, n_fail, l_fail_tdw, l_fail_iw, l_fail_td, l_fail_itd, l_fail_iwtd, q_while_set, q_while_want, q_while_if, q_while_while, q_while_try, n_while, l_while_tdw, l_while_iw, l_while_td, l_while_itd, l_while_iwtd, q_if_set, q_if_want, q_if_if, q_if_while, q_if_try, n_if, l_if_tdw, l_if_iw, l_if_td, l_if_itd, l_if_iwtd, q_try_set, q_try_want, q_try_if, q_try_while, q_try_try, n_try, l_try_tdw, l_try_iw, l_try_td, l_try_itd, l_try_iwtd, q_do_set, q_do_want, q_do_if, q_do_while, q_do_try, n_do, l_do_tdw, l_do_iw, l_do_td, l_do_itd, l_do_iwtd, f_tdw, f_iw, f_td, f_itd, f_iwtd, f_tgf, ha, hb, lt_big, set1, set2, set3, sh1, sh2, sh3, get2, get3, addL, negD, recv, x_try, t1, t2]
set_option maxHeartbeats 8000000 in
theorem loopB {x0 x2 x3 x4 : Option I} {Mp : Mem} (hb : ∀ (b : Br) (M : Mem), BrOk b → Φ 20 [b.i] M = .ok (.str b.t) M) : ∀ (bs : List Br) (l : List Str) (x5 : Option I), (∀ b ∈ bs, BrOk b) → l.length + bs.length ≤ 150000 →
    ∃ x5', eachL (.nm 5) (evSs Φ W B21_0) (bs.map Br.i) [x0, some (.obj Mp.length), x2, x3, x4, x5] (Mp ++ [.lst (l.map .str)]) = some (.nx [x0, some (.obj Mp.length), x2, x3, x4, x5'] (Mp ++ [.lst ((l ++ bs.map Br.t).map .str)]))
  | [], l, x5, _, _ => ⟨x5, by simp [eachL]⟩
  | b :: bs, l, x5, h, hl => by
    rw [List.length_cons] at hl
    have e1 := hb b (Mp ++ [.lst (l.map .str)]) (h b List.mem_cons_self)
    obtain ⟨x5', e⟩ := loopB (x0 := x0) (x2 := x2) (x3 := x3) (x4 := x4) (Mp := Mp) hb bs (l ++ [b.t]) (some b.i) (fun x hx => h x (List.mem_cons_of_mem _ hx)) (by simp; omega)
    refine ⟨x5', ?_⟩
    show eachL (.nm 5) (evSs Φ W B21_0) (b.i :: bs.map Br.i) _ _ = _
    unfold eachL
    have eb : evSs Φ W B21_0 [x0, some (.obj Mp.length), x2, x3, x4, some b.i] (Mp ++ [.lst (l.map .str)]) = some (.nx [x0, some (.obj Mp.length), x2, x3, x4, some b.i] (Mp ++ [.lst ((l ++ [b.t]).map .str)])) := by
      simp (disch := first | omega | (simp only [List.length_append, List.length_map, List.length_cons, List.length_nil]; omega)) [DefT.fn, evSs, evS, evE, evEs, evIt, Rs.R.bind, Rs.R.of, Rs.R.out, opM, prep, Op.deep, opD, sh_int, sh_str, sh_bl, sh_non, sh_tup, sh_lst, asgT, asgTs, asgI, truth, cmpI, fr_int, fr_str, fr_bl, fr_non, fr_nil, eq_int, dispD, toCell, isTy, I.ty, isN, B21_0, e1, lt_big, set1]
    have ea : asgT (.nm 5) b.i [x0, some (.obj Mp.length), x2, x3, x4, x5] = some [x0, some (.obj Mp.length), x2, x3, x4, some b.i] := by simp [asgT, asgI]
    rw [ea]
    dsimp only
    rw [eb]
    dsimp only
    rw [e, List.append_assoc]
    rfl
set_option maxHeartbeats 8000000 in
theorem r21_want {k : Int} {bs : List Br} (hb : ∀ (b : Br) (M : Mem), BrOk b → Φ 20 [b.i] M = .ok (.str b.t) M) (h0 : 0 ≤ k) (h1 : k ≤ 10) (h3 : ∀ b ∈ bs, BrOk b) : Row21 Φ W (.want k bs) := by
  rintro x0 τ M l hl ⟨Mp, x2, x3, x4, x5, rfl, rfl⟩
  have i0 : ixD (Rw.want k bs).i (.int 0) = some (.str "want") := by rw [Rw.i]; rfl
  have i1 : ixD (Rw.want k bs).i (.int 1) = some (.int k) := by rw [Rw.i]; rfl
  have i2 : ixD (Rw.want k bs).i (.int 2) = some (.tup (bs.map Br.i)) := by rw [Rw.i]; rfl
  have hk : k.natAbs.log2 < 1920 := by
    have := log_lt (n := 64) h0 (by omega) (by omega)
    omega
  have tn : Tx 10 (Str.ofString k.repr) := num_tx h0 (show k < 10 ^ 10 by omega)
  have t1 := add_tx s_want t_sp (by decide)
  have t2 := add_tx (s_want.app t_sp) tn (by decide)
  rw [Rw.ln] at hl ⊢
  simp only [List.length_cons, List.length_append, List.length_nil, List.length_map] at hl
  rw [← e_want]
  rw [Rw.i] at i0 i1 i2 ⊢
  obtain ⟨x5', e⟩ := loopB (W := W) (x0 := x0) (x2 := some (.tup [.str "want", .int k, .tup (bs.map Br.i)])) (x3 := some (.str "want")) (x4 := some (.str "want")) (Mp := Mp) hb bs (l ++ ["want" ++ " " ++ Str.ofString k.repr]) x5 h3 (by simp; omega)
  have es : ∀ M, seqItems M (.tup (bs.map Br.i)) = some (.vals (bs.map Br.i)) := fun _ => rfl
  refine ⟨_, [x0, some (.obj Mp.length), some (.tup [.str "want", .int k, .tup (bs.map Br.i)]), some (.str "want"), some (.str "end"), x5'],
    Mp ++ [.lst ((l ++ ("want" ++ " " ++ Str.ofString k.repr) :: (bs.map Br.t ++ [("end" : Str)])).map .str)], rfl, ?_, Mp, some (.tup [.str "want", .int k, .tup (bs.map Br.i)]), some (.str "want"), some (.str "end"), x5', by simp, rfl⟩
  generalize hL : bs.map Br.t = L at e ⊢
  have hLl : L.length = bs.length := by rw [← hL, List.length_map]
  simp only [List.map_append, List.map_cons, List.map_nil, List.append_assoc, List.cons_append, List.nil_append] at e
  simp (disch := first | omega | (simp only [List.length_append, List.length_map, List.length_cons, List.length_nil]; omega)) [DefT.fn, evSs, evS, evE, evEs, evIt, Rs.R.bind, Rs.R.of, Rs.R.out, opM, prep, Op.deep, opD, sh_int, sh_str, sh_bl, sh_non, sh_tup, sh_lst, asgT, asgTs, asgI, truth, cmpI, fr_int, fr_str, fr_bl, fr_non, fr_nil, eq_int, dispD, toCell, isTy, I.ty, isN, B21_1, i0, i1, i2, q_want_set, q_want_want, q_want_if, q_want_while, q_want_try, n_want, l_want_tdw, l_want_iw, l_want_td, l_want_itd, l_want_iwtd, q_set_set, q_set_want, q_set_if, q_set_while, q_set_try, n_set, l_set_tdw, l_set_iw, l_set_td, l_set_itd, l_set_iwtd, q_tell_set, q_tell_want, q_tell_if, q_tell_while, q_tell_try, n_tell, l_tell_tdw, l_tell_iw, l_tell_td, l_tell_itd, l_tell_iwtd, q_give_set, q_give_want, q_give_if, q_give_while, q_give_try, n_give, l_give_tdw, l_give_iw, l_give_td, l_give_itd, l_give_iwtd, q_fail_set, q_fail_want, q_fail_if, q_fail_while, q_fail_try, n_fail, l_fail_tdw, l_fail_iw, l_fail_td, l_fail_itd, l_fail_iwtd, q_while_set, q_while_want, q_while_if, q_while_while, q_while_try, n_while, l_while_tdw, l_while_iw, l_while_td, l_while_itd, l_while_iwtd, q_if_set, q_if_want, q_if_if, q_if_while, q_if_try, n_if, l_if_tdw, l_if_iw, l_if_td, l_if_itd, l_if_iwtd, q_try_set, q_try_want, q_try_if, q_try_while, q_try_try, n_try, l_try_tdw, l_try_iw, l_try_td, l_try_itd, l_try_iwtd, q_do_set, q_do_want, q_do_if, q_do_while, q_do_try, n_do, l_do_tdw, l_do_iw, l_do_td, l_do_itd, l_do_iwtd, f_tdw, f_iw, f_td, f_itd, f_iwtd, f_tgf, hk, t1, t2, lt_big, set1, es, e]
end
/-! ### whole blocks -/
def Blk21 (W d : Nat) : Prop := ∀ (b : List Rw) (F : Nat) (M : Mem), (∀ r ∈ b, RwOk d r) → (Rw.lns b).length ≤ 10000 → d + 6 ≤ F → evCall T.P W F 21 [.tup (Rw.is b)] M = .ok (.lst ((Rw.lns b).map .str)) M
theorem lns_two {d : Nat} {r : Rw} {b : List Rw} (h : r ∈ b) (hl : (Rw.lns b).length ≤ 10000) : r.ln.length ≤ 10000 := Nat.le_trans (lns_part h) hl
set_option maxHeartbeats 8000000 in
theorem blk21 {W : Nat} : ∀ d : Nat, Blk21 W d := by
  intro d
  induction d with
  | zero =>
    intro b F M ok hl hF
    obtain ⟨k, rfl⟩ : ∃ k, F = k + 1 := ⟨F - 1, by omega⟩
    rw [call0 P21 rfl rfl rfl (flats1 (x := .tup (Rw.is b)) (rws_flat b))]
    have hw : ∀ (w : Wt) (M : Mem), WtOk 3 w → evCall T.P W k 19 [w.i] M = .ok (.str w.t) M := fun w M h => text19 h (Nat.le_refl _) (by omega)
    have hb : ∀ (b : Br) (M : Mem), BrOk b → evCall T.P W k 20 [b.i] M = .ok (.str b.t) M := fun b M h => btext20 h (by omega)
    have hrow : ∀ r ∈ b, Row21 (evCall T.P W k) W r := fun r hr => by
      have ok1 := ok r hr
      have ln1 := Nat.le_trans (lns_part hr) hl
      cases ok1 with
      | want h0 h1 h2 h3 => exact r21_want hb h0 h1 h3
      | set h1 h2 => exact r21_set hw h1 h2
      | say h2 => exact r21_say hw h2
    generalize evCall T.P W k = Φ at hrow
    obtain ⟨τ', M', e, Mp, x2, x3, x4, x5, rfl, rfl⟩ := loop21 (W := W) (some (.tup (Rw.is b))) b [some (.tup (Rw.is b)), some (.obj 0), none, none, none, none] [.lst []] [] hrow (by simp; omega) ⟨[], none, none, none, none, rfl, rfl⟩
    suffices evSs Φ W D21.fn.body (List.map some [I.tup (Rw.is b)] ++ List.replicate (D21.fn.ns - D21.fn.np) none) [] = some (.ret (.obj Mp.length) (Mp ++ [.lst ((Rw.lns b).map .str)])) by
      rw [this]
      exact back_obj (i := Mp.length) (by simp) (flats_strs _)
    have es : ∀ M, seqItems M (.tup (Rw.is b)) = some (.vals (Rw.is b)) := fun _ => rfl
    rw [List.nil_append] at e
    simp [DefT.fn, evSs, evS, evE, evEs, evIt, Rs.R.bind, Rs.R.of, Rs.R.out, opM, prep, Op.deep, opD, sh_int, sh_str, sh_bl, sh_non, sh_tup, sh_lst, asgT, asgTs, asgI, truth, cmpI, fr_int, fr_str, fr_bl, fr_non, fr_nil, eq_int, dispD, toCell, isTy, I.ty, isN, D21, es]
    simp [DefT.fn, evSs, evS, evE, evEs, evIt, Rs.R.bind, Rs.R.of, Rs.R.out, opM, prep, Op.deep, opD, sh_int, sh_str, sh_bl, sh_non, sh_tup, sh_lst, asgT, asgTs, asgI, truth, cmpI, fr_int, fr_str, fr_bl, fr_non, fr_nil, eq_int, dispD, toCell, isTy, I.ty, isN, e]
  | succ d ih =>
    intro b F M ok hl hF
    obtain ⟨k, rfl⟩ : ∃ k, F = k + 1 := ⟨F - 1, by omega⟩
    have hI := fun (b : List Rw) (M : Mem) (h1 : ∀ r ∈ b, RwOk d r) (h2 : (Rw.lns b).length ≤ 10000) => ih b k M h1 h2 (by omega)
    rw [call0 P21 rfl rfl rfl (flats1 (x := .tup (Rw.is b)) (rws_flat b))]
    have hw : ∀ (w : Wt) (M : Mem), WtOk 3 w → evCall T.P W k 19 [w.i] M = .ok (.str w.t) M := fun w M h => text19 h (Nat.le_refl _) (by omega)
    have hb : ∀ (b : Br) (M : Mem), BrOk b → evCall T.P W k 20 [b.i] M = .ok (.str b.t) M := fun b M h => btext20 h (by omega)
    have hrow : ∀ r ∈ b, Row21 (evCall T.P W k) W r := fun r hr => by
      have ok1 := ok r hr
      have ln1 := Nat.le_trans (lns_part hr) hl
      cases ok1 with
      | want h0 h1 h2 h3 => exact r21_want hb h0 h1 h3
      | set h1 h2 => exact r21_set hw h1 h2
      | say h2 => exact r21_say hw h2
      | whl h h1 =>
        rw [Rw.ln] at ln1
        simp only [List.length_cons, List.length_append, List.length_nil] at ln1
        exact r21_whl hw (fun M => hI _ M h1 (by omega)) h
      | iff h h1 h2 =>
        rw [Rw.ln] at ln1
        simp only [List.length_cons, List.length_append, List.length_nil] at ln1
        exact r21_iff hw (fun M => hI _ M h1 (by omega)) (fun M => hI _ M h2 (by omega)) h
      | tri h h1 h2 =>
        rw [Rw.ln] at ln1
        simp only [List.length_cons, List.length_append, List.length_nil] at ln1
        exact r21_tri h (fun M => hI _ M h1 (by omega)) (fun M => hI _ M h2 (by omega))
      | dd h1 h2 =>
        rw [Rw.ln] at ln1
        simp only [List.length_cons, List.length_append, List.length_nil] at ln1
        exact r21_dd (fun M => hI _ M h1 (by omega)) (fun M => hI _ M h2 (by omega))
    generalize evCall T.P W k = Φ at hrow
    obtain ⟨τ', M', e, Mp, x2, x3, x4, x5, rfl, rfl⟩ := loop21 (W := W) (some (.tup (Rw.is b))) b [some (.tup (Rw.is b)), some (.obj 0), none, none, none, none] [.lst []] [] hrow (by simp; omega) ⟨[], none, none, none, none, rfl, rfl⟩
    suffices evSs Φ W D21.fn.body (List.map some [I.tup (Rw.is b)] ++ List.replicate (D21.fn.ns - D21.fn.np) none) [] = some (.ret (.obj Mp.length) (Mp ++ [.lst ((Rw.lns b).map .str)])) by
      rw [this]
      exact back_obj (i := Mp.length) (by simp) (flats_strs _)
    have es : ∀ M, seqItems M (.tup (Rw.is b)) = some (.vals (Rw.is b)) := fun _ => rfl
    rw [List.nil_append] at e
    simp [DefT.fn, evSs, evS, evE, evEs, evIt, Rs.R.bind, Rs.R.of, Rs.R.out, opM, prep, Op.deep, opD, sh_int, sh_str, sh_bl, sh_non, sh_tup, sh_lst, asgT, asgTs, asgI, truth, cmpI, fr_int, fr_str, fr_bl, fr_non, fr_nil, eq_int, dispD, toCell, isTy, I.ty, isN, D21, es]
    simp [DefT.fn, evSs, evS, evE, evEs, evIt, Rs.R.bind, Rs.R.of, Rs.R.out, opM, prep, Op.deep, opD, sh_int, sh_str, sh_bl, sh_non, sh_tup, sh_lst, asgT, asgTs, asgI, truth, cmpI, fr_int, fr_str, fr_bl, fr_non, fr_nil, eq_int, dispD, toCell, isTy, I.ty, isN, e]
end K07

namespace K07
open PySem PySem.Spec PyProof.Rows L2 Rs
structure Er where
  t : Str
  ps : List Str
  b : List Rw
def Er.i (e : Er) : I := .tup [.str e.t, .tup (e.ps.map .str), .tup (Rw.is e.b)]
def Er.head (e : Er) : Str := Txt.join " " ("errand" :: e.t :: e.ps)
def Er.ln (e : Er) : List Str := e.head :: (Rw.lns e.b ++ [("end" : Str)])
structure ErOk (e : Er) : Prop where
  t : Tx 8 e.t
  p : ∀ s ∈ e.ps, Tx 8 s
  l : e.ps.length ≤ 3
  b : ∀ r ∈ e.b, RwOk 4 r
  n : (Rw.lns e.b).length ≤ 1000
def ers : List Er → List Str
  | [] => []
  | e :: es => e.ln ++ ers es
theorem t_errand : Tx 8 "errand" := tx_of (by decide +kernel)
theorem aft_tx : ∀ (l : List Str) (a : Str) (m : Nat), Tx m a → (∀ s ∈ l, Tx 8 s) → Tx (m + 9 * l.length) (aft a l)
  | [], a, m, ha, _ => ha
  | s :: l, a, m, ha, h => by
    have := aft_tx l (a ++ " " ++ s) (m + 1 + 8) ((ha.app t_sp).app (h s List.mem_cons_self)) fun x hx => h x (List.mem_cons_of_mem _ hx)
    exact this.mono (by rw [List.length_cons]; omega)
theorem head_tx {e : Er} (h : ErOk e) : Tx 400 e.head := by
  unfold Er.head
  rw [join_aft]
  refine (aft_tx (e.t :: e.ps) "errand" 8 t_errand fun s hs => ?_).mono (by rw [List.length_cons]; have := h.l; omega)
  rcases List.mem_cons.mp hs with rfl | hs
  · exact h.t
  · exact h.p s hs
theorem er_tx {e : Er} (h : ErOk e) : ∀ s ∈ e.ln, Tx 400 s := by
  intro s hs
  unfold Er.ln at hs
  simp only [List.mem_cons, List.mem_append, List.not_mem_nil, or_false] at hs
  rcases hs with rfl | q | rfl
  · exact head_tx h
  · obtain ⟨r, hr, hs⟩ := lns_mem q
    exact ln_tx (h.b r hr) s hs
  · exact tEnd
theorem er_len {e : Er} (h : ErOk e) : e.ln.length ≤ 1002 := by
  have := h.n
  simp [Er.ln]; omega
theorem ers_tx : ∀ {es : List Er}, (∀ e ∈ es, ErOk e) → ∀ s ∈ ers es, Tx 400 s
  | [], _, s, hs => nomatch hs
  | e :: es, h, s, hs => by
    rcases List.mem_append.mp (show s ∈ e.ln ++ ers es from hs) with q | q
    · exact er_tx (h e List.mem_cons_self) s q
    · exact ers_tx (fun x hx => h x (List.mem_cons_of_mem _ hx)) s q
theorem ers_len : ∀ {es : List Er}, (∀ e ∈ es, ErOk e) → (ers es).length ≤ 1002 * es.length
  | [], _ => Nat.le_refl _
  | e :: es, h => by
    have h1 := er_len (h e List.mem_cons_self)
    have h2 := ers_len fun x hx => h x (List.mem_cons_of_mem e hx)
    show (e.ln ++ ers es).length ≤ _
    rw [List.length_append, List.length_cons]; omega
theorem er_flat (e : Er) : e.i.flat = true := by
  show (true && (I.flats (e.ps.map .str) && (I.flats (Rw.is e.b) && true))) = true
  rw [flats_strs, rws_flat]; rfl
theorem ers_flat (es : List Er) : I.flats (es.map Er.i) = true := flats_of fun x hx => by
  obtain ⟨e, _, rfl⟩ := List.mem_map.mp hx
  exact er_flat e
theorem P6 : T.P 6 = some D6.fn := rfl
theorem P7 : T.P 7 = some D7.fn := rfl
theorem P22 : T.P 22 = some D22.fn := rfl
theorem join_hd {e : Er} (h : ErOk e) (M : Mem) : mthD M .join (.str " ") [.lst (.str "errand" :: .str e.t :: e.ps.map .str)] = some (.str e.head) :=
  mth_join (l := "errand" :: e.t :: e.ps) rfl (join_fit (m := 8) (fun x hx => by
    simp only [List.mem_cons] at hx
    rcases hx with rfl | rfl | hx
    · exact t_errand
    · exact h.t
    · exact h.p x hx) sp_len (by have := h.l; simp only [List.length_cons]; omega))
set_option maxHeartbeats 8000000 in
theorem er6 {W F : Nat} {M : Mem} {e : Er} (h : ErOk e) (hF : 23 ≤ F) : evCall T.P W F 6 [e.i] M = .ok (.lst (e.ln.map .str)) M := by
  obtain ⟨k, rfl⟩ : ∃ k, F = k + 1 := ⟨F - 1, by omega⟩
  rw [call0 P6 rfl rfl rfl (flats1 (er_flat e))]
  have hb : evCall T.P W k 5 [.tup (Rw.is e.b)] [] = .ok (.lst ((Rw.lns e.b).map .str)) [] := bT W 4 e.b k [] h.b (by have := h.n; omega) (by omega)
  generalize evCall T.P W k = Φ at hb
  suffices evSs Φ W D6.fn.body (List.map some [e.i] ++ List.replicate (D6.fn.ns - D6.fn.np) none) [] = some (.ret (.lst (e.ln.map .str)) []) by
    rw [this]
    exact back_ret (flats_strs _)
  have i0 : ixD e.i (.int 0) = some (.str e.t) := rfl
  have i1 : ixD e.i (.int 1) = some (.tup (e.ps.map .str)) := rfl
  have i2 : ixD e.i (.int 2) = some (.tup (Rw.is e.b)) := rfl
  have hs : ∀ M, sh M e.i = e.i := fun _ => rfl
  have j := join_hd h []
  have hl := h.l
  have hn := h.n
  rw [Er.ln]
  generalize e.i = ei at i0 i1 i2 hs ⊢
  simp (disch := first | omega | (simp only [List.length_append, List.length_map, List.length_cons, List.length_nil]; omega)) [DefT.fn, evSs, evS, evE, evEs, evIt, Rs.R.bind, Rs.R.of, Rs.R.out, opM, prep, Op.deep, opD, sh_int, sh_str, sh_bl, sh_non, sh_tup, sh_lst, asgT, asgTs, asgI, truth, cmpI, fr_int, fr_str, fr_bl, fr_non, fr_nil, eq_int, dispD, toCell, isTy, I.ty, isN, D6, hs, i0, i1, i2, hb, addL, recv, j]
set_option maxHeartbeats 8000000 in
theorem loop7 {Φ : Oracle} {W : Nat} {x0 : Option I} : ∀ (es : List Er) (l : List Str) (x2 : Option I), (∀ (e : Er) (M : Mem), e ∈ es → Φ 6 [e.i] M = .ok (.lst (e.ln.map .str)) M) → l.length + (ers es).length ≤ 100000 →
    ∃ x2', eachL (.nm 2) (evSs Φ W B7_0) (es.map Er.i) [x0, some (.obj 0), x2] [.lst (l.map .str)] = some (.nx [x0, some (.obj 0), x2'] [.lst ((l ++ ers es).map .str)])
  | [], l, x2, _, _ => ⟨x2, by simp [eachL, ers]⟩
  | r :: rs, l, x2, h, hl => by
    rw [ers, List.length_append] at hl
    have e1 := h r [.lst (l.map .str)] List.mem_cons_self
    obtain ⟨x2', e⟩ := loop7 (x0 := x0) rs (l ++ r.ln) (some r.i) (fun x M hx => h x M (List.mem_cons_of_mem _ hx)) (by rw [List.length_append]; omega)
    refine ⟨x2', ?_⟩
    rw [ers]
    show eachL (.nm 2) (evSs Φ W B7_0) (r.i :: rs.map Er.i) _ _ = _
    unfold eachL
    have hsz : l.length + r.ln.length ≤ sizeLine := by rw [sl24]; omega
    have eb : evSs Φ W B7_0 [x0, some (.obj 0), some r.i] [.lst (l.map .str)] = some (.nx [x0, some (.obj 0), some r.i] [.lst ((l ++ r.ln).map .str)]) := by
      simp [DefT.fn, evSs, evS, evE, evEs, evIt, Rs.R.bind, Rs.R.of, Rs.R.out, opM, prep, Op.deep, opD, sh_int, sh_str, sh_bl, sh_non, sh_tup, sh_lst, asgT, asgTs, asgI, truth, cmpI, fr_int, fr_str, fr_bl, fr_non, fr_nil, eq_int, dispD, toCell, isTy, I.ty, isN, B7_0, e1, hsz]
    have ea : asgT (.nm 2) r.i [x0, some (.obj 0), x2] = some [x0, some (.obj 0), some r.i] := by simp [asgT, asgI]
    rw [ea]
    dsimp only
    rw [eb]
    dsimp only
    rw [e, List.append_assoc]
def NL : Str := "\n"
theorem nl_len : NL.length = 1 := by decide +kernel
def text (es : List Er) : Str := Txt.join NL (ers es)
set_option maxHeartbeats 8000000 in
theorem written_ok {W F : Nat} {M : Mem} {es : List Er} (h : ∀ e ∈ es, ErOk e) (hl : es.length ≤ 30) (hF : 24 ≤ F) : evCall T.P W F 7 [.tup (es.map Er.i)] M = .ok (.str (text es)) M := by
  obtain ⟨k, rfl⟩ : ∃ k, F = k + 1 := ⟨F - 1, by omega⟩
  rw [call0 P7 rfl rfl rfl (flats1 (x := .tup (es.map Er.i)) (ers_flat es))]
  have hb : ∀ (e : Er) (M : Mem), e ∈ es → evCall T.P W k 6 [e.i] M = .ok (.lst (e.ln.map .str)) M := fun e M he => er6 (h e he) (by omega)
  generalize evCall T.P W k = Φ at hb
  suffices ∃ M1, evSs Φ W D7.fn.body (List.map some [I.tup (es.map Er.i)] ++ List.replicate (D7.fn.ns - D7.fn.np) none) [] = some (.ret (.str (text es)) M1) by
    obtain ⟨M1, e⟩ := this
    rw [e]
    exact back_ret rfl
  have hn := ers_len h
  obtain ⟨x2', e⟩ := loop7 (W := W) (x0 := some (.tup (es.map Er.i))) es [] none hb (by simp; omega)
  have hes : ∀ M, seqItems M (.tup (es.map Er.i)) = some (.vals (es.map Er.i)) := fun _ => rfl
  rw [List.nil_append, List.map_nil] at e
  have j : mthD [.lst ((ers es).map .str)] .join (.str NL) [.obj 0] = some (.str (text es)) := mth_join (l := ers es) rfl (join_fit (m := 400) (ers_tx h) nl_len (by omega))
  unfold NL at j
  refine ⟨[.lst ((ers es).map .str)], ?_⟩
  simp [DefT.fn, evSs, evS, evE, evEs, evIt, Rs.R.bind, Rs.R.of, Rs.R.out, opM, prep, Op.deep, opD, sh_int, sh_str, sh_bl, sh_non, sh_tup, sh_lst, asgT, asgTs, asgI, truth, cmpI, fr_int, fr_str, fr_bl, fr_non, fr_nil, eq_int, dispD, toCell, isTy, I.ty, isN, D7, hes]
  simp [DefT.fn, evSs, evS, evE, evEs, evIt, Rs.R.bind, Rs.R.of, Rs.R.out, opM, prep, Op.deep, opD, sh_int, sh_str, sh_bl, sh_non, sh_tup, sh_lst, asgT, asgTs, asgI, truth, cmpI, fr_int, fr_str, fr_bl, fr_non, fr_nil, eq_int, dispD, toCell, isTy, I.ty, isN, e, recv, j]
def St22 (x0 : Option I) (τ : Rs.Env) (M : Mem) (l : List Str) : Prop := ∃ (Mp : Mem) (x2 x3 x4 : Option I), M = Mp ++ [.lst (l.map .str)] ∧ τ = [x0, some (.obj Mp.length), x2, x3, x4]
set_option maxHeartbeats 8000000 in
theorem loop22 {Φ : Oracle} {W : Nat} {x0 : Option I} : ∀ (es : List Er) (l : List Str) (τ : Rs.Env) (M : Mem), (∀ e ∈ es, ErOk e) → (∀ (e : Er) (M : Mem), e ∈ es → Φ 21 [.tup (Rw.is e.b)] M = .ok (.lst ((Rw.lns e.b).map .str)) M) → l.length + (ers es).length ≤ 100000 → St22 x0 τ M l →
    ∃ τ' M', eachL (.tup (.cons (.nm 2) (.cons (.nm 3) (.cons (.nm 4) .nil)))) (evSs Φ W B22_0) (es.map Er.i) τ M = some (.nx τ' M') ∧ St22 x0 τ' M' (l ++ ers es)
  | [], l, τ, M, _, _, _, s => ⟨τ, M, by simp [eachL], by rw [ers, List.append_nil]; exact s⟩
  | r :: rs, l, τ, M, ok, h, hl, s => by
    rw [ers, List.length_append] at hl
    have e1 := h r
    have ok1 := ok r List.mem_cons_self
    have j := join_hd ok1
    have hl3 := ok1.l
    have hn := ok1.n
    obtain ⟨Mp, x2, x3, x4, rfl, rfl⟩ := s
    have lr : r.ln.length = (Rw.lns r.b).length + 2 := by simp [Er.ln]
    have eb : evSs Φ W B22_0 [x0, some (.obj Mp.length), some (.str r.t), some (.tup (r.ps.map .str)), some (.tup (Rw.is r.b))] (Mp ++ [.lst (l.map .str)]) =
        some (.nx [x0, some (.obj (Mp.length + 1)), some (.str r.t), some (.tup (r.ps.map .str)), some (.tup (Rw.is r.b))] (Mp ++ [.lst ((l ++ [r.head]).map .str), .lst ((l ++ r.ln).map .str)])) := by
      rw [Er.ln]
      simp (disch := first | omega | (simp only [List.length_append, List.length_map, List.length_cons, List.length_nil]; omega)) [DefT.fn, evSs, evS, evE, evEs, evIt, Rs.R.bind, Rs.R.of, Rs.R.out, opM, prep, Op.deep, opD, sh_int, sh_str, sh_bl, sh_non, sh_tup, sh_lst, asgT, asgTs, asgI, truth, cmpI, fr_int, fr_str, fr_bl, fr_non, fr_nil, eq_int, dispD, toCell, isTy, I.ty, isN, B22_0, j, recv, lt_big, set1, sh1, e1 _ List.mem_cons_self, addL]
    obtain ⟨τ', M', e, s'⟩ := loop22 (x0 := x0) rs (l ++ r.ln) [x0, some (.obj (Mp.length + 1)), some (.str r.t), some (.tup (r.ps.map .str)), some (.tup (Rw.is r.b))] (Mp ++ [.lst ((l ++ [r.head]).map .str), .lst ((l ++ r.ln).map .str)])
      (fun x hx => ok x (List.mem_cons_of_mem _ hx)) (fun x M hx => h x M (List.mem_cons_of_mem _ hx)) (by rw [List.length_append]; omega) ⟨Mp ++ [.lst ((l ++ [r.head]).map .str)], _, _, _, by simp, by simp; exact ⟨rfl, rfl, rfl⟩⟩
    refine ⟨τ', M', ?_, by rw [ers, ← List.append_assoc]; exact s'⟩
    show eachL _ (evSs Φ W B22_0) (r.i :: rs.map Er.i) _ _ = _
    unfold eachL
    have ea : asgT (.tup (.cons (.nm 2) (.cons (.nm 3) (.cons (.nm 4) .nil)))) r.i [x0, some (.obj Mp.length), x2, x3, x4] = some [x0, some (.obj Mp.length), some (.str r.t), some (.tup (r.ps.map .str)), some (.tup (Rw.is r.b))] := by simp [asgT, asgTs, asgI, Er.i]
    rw [ea]
    dsimp only
    rw [eb]
    exact e
set_option maxHeartbeats 8000000 in
theorem lines_ok {W F : Nat} {M : Mem} {es : List Er} (h : ∀ e ∈ es, ErOk e) (hl : es.length ≤ 30) (hF : 12 ≤ F) : evCall T.P W F 22 [.tup (es.map Er.i)] M = .ok (.lst ((ers es).map .str)) M := by
  obtain ⟨k, rfl⟩ : ∃ k, F = k + 1 := ⟨F - 1, by omega⟩
  rw [call0 P22 rfl rfl rfl (flats1 (x := .tup (es.map Er.i)) (ers_flat es))]
  have hb : ∀ (e : Er) (M : Mem), e ∈ es → evCall T.P W k 21 [.tup (Rw.is e.b)] M = .ok (.lst ((Rw.lns e.b).map .str)) M := fun e M he => blk21 4 e.b k M (h e he).b (by have := (h e he).n; omega) (by omega)
  generalize evCall T.P W k = Φ at hb
  have hn := ers_len h
  obtain ⟨τ', M', e, Mp, x2, x3, x4, rfl, rfl⟩ := loop22 (W := W) (x0 := some (.tup (es.map Er.i))) es [] [some (.tup (es.map Er.i)), some (.obj 0), none, none, none] [.lst []] h hb (by simp; omega) ⟨[], none, none, none, rfl, rfl⟩
  suffices evSs Φ W D22.fn.body (List.map some [I.tup (es.map Er.i)] ++ List.replicate (D22.fn.ns - D22.fn.np) none) [] = some (.ret (.obj Mp.length) (Mp ++ [.lst ((ers es).map .str)])) by
    rw [this]
    exact back_obj (i := Mp.length) (by simp) (flats_strs _)
  have hes : ∀ M, seqItems M (.tup (es.map Er.i)) = some (.vals (es.map Er.i)) := fun _ => rfl
  rw [List.nil_append] at e
  simp [DefT.fn, evSs, evS, evE, evEs, evIt, Rs.R.bind, Rs.R.of, Rs.R.out, opM, prep, Op.deep, opD, sh_int, sh_str, sh_bl, sh_non, sh_tup, sh_lst, asgT, asgTs, asgI, truth, cmpI, fr_int, fr_str, fr_bl, fr_non, fr_nil, eq_int, dispD, toCell, isTy, I.ty, isN, D22, hes]
  simp [DefT.fn, evSs, evS, evE, evEs, evIt, Rs.R.bind, Rs.R.of, Rs.R.out, opM, prep, Op.deep, opD, sh_int, sh_str, sh_bl, sh_non, sh_tup, sh_lst, asgT, asgTs, asgI, truth, cmpI, fr_int, fr_str, fr_bl, fr_non, fr_nil, eq_int, dispD, toCell, isTy, I.ty, isN, e]
end K07

namespace K07
open PySem PySem.Spec PyProof.Rows L2 Rs
theorem P8 : T.P 8 = some D8.fn := rfl
theorem P9 : T.P 9 = some D9.fn := rfl
theorem log_abs {a : Int} (h : a.natAbs < 2 ^ 100) : a.natAbs.log2 < 100 := by
  by_cases h1 : a.natAbs = 0
  · rw [h1]; decide
  · rw [Nat.log2_lt h1]; exact h
theorem mulB {a b : Int} (ha : a.natAbs < 2 ^ 100) (hb : b.natAbs < 2 ^ 100) : mulD (.int a) (.int b) = some (.int (a * b)) := by
  have := log_abs ha
  have := log_abs hb
  show (if a.natAbs.log2 + b.natAbs.log2 < 1000000 then some (I.int (a * b)) else none) = _
  rw [if_pos (by omega)]
theorem bnd_snoc {ns : List Int} {n : Int} (h : ∀ x ∈ ns, 0 ≤ x ∧ x < 1000000) (hn : 0 ≤ n ∧ n < 1000000) : ∀ x ∈ ns ++ [n], 0 ≤ x ∧ x < 1000000 := fun x hx => by
  rcases List.mem_append.mp hx with z | z
  · exact h x z
  · rw [List.mem_singleton.mp z]; exact hn
set_option maxHeartbeats 8000000 in
theorem numbers_ok {W F : Nat} {c : Int} {M : Mem} (hF : 1 ≤ F) : ∃ ns : List Int, (∀ n ∈ ns, 0 ≤ n ∧ n < 1000000) ∧ ns.length ≤ 60 ∧ evCall T.P W F 8 [.int c] M = .ok (.lst (ns.map .int)) M := by
  obtain ⟨k, rfl⟩ : ∃ k, F = k + 1 := ⟨F - 1, by omega⟩
  rw [call0 P8 rfl rfl rfl (flats1 (x := .int c) rfl)]
  generalize evCall T.P W k = Φ
  have habs : 0 ≤ (if c < 0 then -c else c) := by split <;> omega
  suffices ∃ ns : List Int, (∀ n ∈ ns, 0 ≤ n ∧ n < 1000000) ∧ ns.length ≤ 60 ∧ evSs Φ W D8.fn.body (List.map some [I.int c] ++ List.replicate (D8.fn.ns - D8.fn.np) none) [] = some (.ret (.obj 0) [.lst (ns.map .int)]) by
    obtain ⟨ns, h1, h2, e⟩ := this
    refine ⟨ns, h1, h2, ?_⟩
    rw [e]
    exact back_obj (i := 0) rfl (flats_ints _)
  by_cases hc : (10 : Int) ^ 18 ≤ (if c < 0 then -c else c)
  · obtain ⟨τ', M', e, ns, left, x3, rfl, rfl, h0, hl, hb⟩ := each_go (g := .nm 3) (b := evSs Φ W B8_1)
      (Inv := fun j τ M' => ∃ (ns : List Int) (left : Int) (x3 : Option I), M' = [.lst (ns.map .int)] ∧ τ = [some (.int c), some (.obj 0), some (.int left), x3, none] ∧ 0 ≤ left ∧ ns.length ≤ j ∧ ∀ n ∈ ns, 0 ≤ n ∧ n < 1000000)
      ((List.range 60).map fun k : Nat => I.int (k : Int)) 0 [some (.int c), some (.obj 0), some (.int (if c < 0 then -c else c)), none, none] [.lst []] ⟨[], _, none, rfl, rfl, habs, Nat.le_refl _, fun _ z => nomatch z⟩ (by
        rintro i τ M' y hy ⟨ns, left, x3, rfl, rfl, h0, hl, hb⟩
        obtain ⟨hi, x, rfl⟩ := range_int hy
        by_cases hp : 0 < left
        · refine ⟨_, [some (.int c), some (.obj 0), some (.int (left / 1000000)), some (.int x), none], [.lst ((ns ++ [left % 1000000]).map .int)], rfl, ?_, ns ++ [left % 1000000], left / 1000000, _, rfl, rfl, by omega, by simp; omega, bnd_snoc hb ⟨Int.emod_nonneg _ (by omega), Int.emod_lt_of_pos _ (by omega)⟩⟩
          simp (disch := first | omega | (simp only [List.length_append, List.length_map, List.length_cons, List.length_nil]; omega)) [DefT.fn, evSs, evS, evE, evEs, evIt, Rs.R.bind, Rs.R.of, Rs.R.out, opM, prep, Op.deep, opD, sh_int, sh_str, sh_bl, sh_non, sh_tup, sh_lst, asgT, asgTs, asgI, truth, cmpI, fr_int, fr_str, fr_bl, fr_non, fr_nil, eq_int, dispD, toCell, isTy, I.ty, isN, B8_1, hp, powD, modD, fdivD, l6, lt_big]
        · refine ⟨_, [some (.int c), some (.obj 0), some (.int left), some (.int x), none], [.lst (ns.map .int)], rfl, ?_, ns, left, _, rfl, rfl, h0, by omega, hb⟩
          simp (disch := first | omega | (simp only [List.length_append, List.length_map, List.length_cons, List.length_nil]; omega)) [DefT.fn, evSs, evS, evE, evEs, evIt, Rs.R.bind, Rs.R.of, Rs.R.out, opM, prep, Op.deep, opD, sh_int, sh_str, sh_bl, sh_non, sh_tup, sh_lst, asgT, asgTs, asgI, truth, cmpI, fr_int, fr_str, fr_bl, fr_non, fr_nil, eq_int, dispD, toCell, isTy, I.ty, isN, B8_1, hp])
    refine ⟨ns, hb, by simpa using hl, ?_⟩
    simp [DefT.fn, evSs, evS, evE, evEs, evIt, Rs.R.bind, Rs.R.of, Rs.R.out, opM, prep, Op.deep, opD, sh_int, sh_str, sh_bl, sh_non, sh_tup, sh_lst, asgT, asgTs, asgI, truth, cmpI, fr_int, fr_str, fr_bl, fr_non, fr_nil, eq_int, dispD, toCell, isTy, I.ty, isN, D8, powD, rangeItems] at e hc ⊢
    simp [hc, e]
  · obtain ⟨τ', M', e, ns, x3, x4, rfl, rfl, hl, hb⟩ := each_go (g := .nm 3) (b := evSs Φ W B8_0)
      (Inv := fun j τ M' => ∃ (ns : List Int) (x3 x4 : Option I), M' = [.lst (ns.map .int)] ∧ τ = [some (.int c), some (.obj 0), some (.int (if c < 0 then -c else c)), x3, x4] ∧ ns.length ≤ j ∧ ∀ n ∈ ns, 0 ≤ n ∧ n < 1000000)
      ((List.range 8).map fun k : Nat => I.int (k : Int)) 0 [some (.int c), some (.obj 0), some (.int (if c < 0 then -c else c)), none, none] [.lst []] ⟨[], none, none, rfl, rfl, Nat.le_refl _, fun _ z => nomatch z⟩ (by
        rintro i τ M' y hy ⟨ns, x3, x4, rfl, rfl, hl, hb⟩
        obtain ⟨hi, _⟩ := range_int hy
        obtain ⟨x, rfl, x0, x8⟩ : ∃ x : Int, y = .int x ∧ 0 ≤ x ∧ x < 8 := by
          rw [List.getElem?_map, List.getElem?_range hi] at hy
          cases hy
          exact ⟨i, rfl, by omega, by omega⟩
        have hq : 0 ≤ x * x ∧ x * x ≤ 49 := by
          have : x = 0 ∨ x = 1 ∨ x = 2 ∨ x = 3 ∨ x = 4 ∨ x = 5 ∨ x = 6 ∨ x = 7 := by omega
          rcases this with rfl | rfl | rfl | rfl | rfl | rfl | rfl | rfl <;> decide
        have hq2 : 977 * x * x = 977 * (x * x) := Int.mul_assoc _ _ _
        have hm := Int.emod_nonneg c (show (2147483647 : Int) ≠ 0 by omega)
        have hm2 := Int.emod_lt_of_pos c (show (0 : Int) < 2147483647 by omega)
        have m1 := mulB (a := 977) (b := x) (by decide) (by omega)
        have m2 := mulB (a := 977 * x) (b := x) (by omega) (by omega)
        have m3 := mulB (a := 31) (b := x) (by decide) (by omega)
        have m4 := mulB (a := c % 2147483647 + 977 * x * x + 31 * x + 1) (b := 48271) (by rw [hq2]; omega) (by decide)
        obtain ⟨s, hs⟩ : ∃ s : Int, s = c % 2147483647 + 977 * x * x + 31 * x + 1 := ⟨_, rfl⟩
        have m4 : mulD (.int (c % 2147483647 + 977 * x * x + 31 * x + 1)) (.int 48271) = some (.int (s * 48271)) := by rw [hs]; exact m4
        have ht := Int.emod_nonneg (s * 48271) (show (2147483647 : Int) ≠ 0 by omega)
        have ht2 := Int.emod_lt_of_pos (s * 48271) (show (0 : Int) < 2147483647 by omega)
        have m5 := mulB (a := s * 48271 % 2147483647) (b := s * 48271 % 2147483647) (by omega) (by omega)
        obtain ⟨t, htt⟩ : ∃ t : Int, t = s * 48271 % 2147483647 := ⟨_, rfl⟩
        have hu := Int.emod_nonneg (t * t) (show (2147483647 : Int) ≠ 0 by omega)
        have hu2 := Int.emod_lt_of_pos (t * t) (show (0 : Int) < 2147483647 by omega)
        rw [htt] at hu hu2
        have m6 := mulB (a := 40692) (b := x + 3) (by decide) (by omega)
        have m7 := mulB (a := s * 48271 % 2147483647 * (s * 48271 % 2147483647) % 2147483647 + 40692 * (x + 3)) (b := 69621) (by omega) (by decide)
        obtain ⟨v, hv⟩ : ∃ v : Int, v = (s * 48271 % 2147483647 * (s * 48271 % 2147483647) % 2147483647 + 40692 * (x + 3)) * 69621 % 2147483629 / 8 % 1000000 := ⟨_, rfl⟩
        refine ⟨_, [some (.int c), some (.obj 0), some (.int (if c < 0 then -c else c)), some (.int x), some (.int (s * 48271 % 2147483647 * (s * 48271 % 2147483647) % 2147483647))], [.lst ((ns ++ [v]).map .int)], rfl, ?_, ns ++ [v], _, _, rfl, rfl, by simp; omega, bnd_snoc hb ⟨by rw [hv]; exact Int.emod_nonneg _ (by omega), by rw [hv]; exact Int.emod_lt_of_pos _ (by omega)⟩⟩
        simp (disch := first | omega | (simp only [List.length_append, List.length_map, List.length_cons, List.length_nil]; omega)) [DefT.fn, evSs, evS, evE, evEs, evIt, Rs.R.bind, Rs.R.of, Rs.R.out, opM, prep, Op.deep, opD, sh_int, sh_str, sh_bl, sh_non, sh_tup, sh_lst, asgT, asgTs, asgI, truth, cmpI, fr_int, fr_str, fr_bl, fr_non, fr_nil, eq_int, dispD, toCell, isTy, I.ty, isN, B8_0, modD, m1, m2, m3, m4, m5, m6, m7, add_int, fdivD, l8, powD, lt_big, hv])
    refine ⟨ns, hb, by simp at hl; omega, ?_⟩
    simp [DefT.fn, evSs, evS, evE, evEs, evIt, Rs.R.bind, Rs.R.of, Rs.R.out, opM, prep, Op.deep, opD, sh_int, sh_str, sh_bl, sh_non, sh_tup, sh_lst, asgT, asgTs, asgI, truth, cmpI, fr_int, fr_str, fr_bl, fr_non, fr_nil, eq_int, dispD, toCell, isTy, I.ty, isN, D8, powD, rangeItems] at e hc ⊢
    simp [Int.not_le.mpr hc, e]
theorem sum_bnd : ∀ (L : List Int), (∀ n ∈ L, 0 ≤ n ∧ n < 1000000) → 0 ≤ L.sum ∧ L.sum ≤ 1000000 * (L.length : Int)
  | [], _ => ⟨Int.le_refl _, by simp⟩
  | n :: L, h => by
    have h1 := h n List.mem_cons_self
    have h2 := sum_bnd L fun m hm => h m (List.mem_cons_of_mem _ hm)
    rw [List.sum_cons, List.length_cons]
    constructor
    · omega
    · push_cast
      omega
theorem fit_ints (L : List Int) : Fit 64 (.lst (L.map .int)) := Fit.mono (fit_lst (n := 0) fun x hx => by
  obtain ⟨n, _, rfl⟩ := List.mem_map.mp hx
  exact fit_int n) (by decide)
theorem eq_nilI (L : List Int) : eqD (.lst (L.map .int)) (.lst []) = some L.isEmpty := by
  unfold eqD
  rw [(fit_ints L).fit, show (I.lst []).fit = true from rfl]
  cases L with
  | nil => rfl
  | cons n L => rfl
theorem cut_le {α : Type} (xs : List α) (lo hi : Option Int) : (cut xs lo hi).length ≤ xs.length := by
  unfold cut
  rw [List.length_take, List.length_drop]
  omega
set_option maxHeartbeats 8000000 in
theorem pot_ok {W F : Nat} {ns : List Int} (hn : ns.length ≤ 63) (hF : 2 ≤ F) : ∃ c : Cell, PotOk c ∧ evCall T.P W F 9 [.scr ns] [] = .ok (.obj 0) [c] := by
  obtain ⟨k, rfl⟩ : ∃ k, F = k + 1 := ⟨F - 1, by omega⟩
  rw [callF P9 rfl rfl]
  have hnum : ∀ (c : Int) (M : Mem), ∃ L : List Int, (∀ n ∈ L, 0 ≤ n ∧ n < 1000000) ∧ L.length ≤ 60 ∧ evCall T.P W k 8 [.int c] M = .ok (.lst (L.map .int)) M := fun c M => numbers_ok (by omega)
  generalize evCall T.P W k = Φ at hnum ⊢
  have hcut := cut_le ns none (some 63)
  obtain ⟨τ', M', e, L, x2, rfl, rfl, hl, hb⟩ := each_go (g := .nm 2) (b := evSs Φ W B9_0)
      (Inv := fun j τ M' => ∃ (L : List Int) (x2 : Option I), M' = [] ∧ τ = [some (.scr ns), some (.lst (L.map .int)), x2] ∧ L.length ≤ 60 * j ∧ ∀ n ∈ L, 0 ≤ n ∧ n < 1000000)
      (cut (ns.map I.int) none (some 63)) 0 [some (.scr ns), some (.lst []), none] [] ⟨[], none, rfl, rfl, Nat.le_refl _, fun _ z => nomatch z⟩ (by
        rintro i τ M' v hv ⟨L, x2, rfl, rfl, hl, hb⟩
        rw [cut_map] at hv
        have hi : i < (cut ns none (some 63)).length := by simpa using (List.getElem?_eq_some_iff.mp hv).1
        obtain ⟨x, rfl⟩ : ∃ x : Int, v = .int x := by
          rw [List.getElem?_map] at hv
          obtain ⟨y, hy, rfl⟩ := Option.map_eq_some_iff.mp hv
          exact ⟨_, rfl⟩
        obtain ⟨L2, hb2, hl2, e2⟩ := hnum x []
        refine ⟨_, [some (.scr ns), some (.lst ((L ++ L2).map .int)), some (.int x)], [], rfl, ?_, L ++ L2, _, rfl, rfl, by rw [List.length_append]; omega, fun n hn => (List.mem_append.mp hn).elim (hb n) (hb2 n)⟩
        simp (disch := first | omega | (simp only [List.length_append, List.length_map, List.length_cons, List.length_nil]; omega)) [DefT.fn, evSs, evS, evE, evEs, evIt, Rs.R.bind, Rs.R.of, Rs.R.out, opM, prep, Op.deep, opD, sh_int, sh_str, sh_bl, sh_non, sh_tup, sh_lst, asgT, asgTs, asgI, truth, cmpI, fr_int, fr_str, fr_bl, fr_non, fr_nil, eq_int, dispD, toCell, isTy, I.ty, isN, B9_0, addL, e2])
  have hL : L.length ≤ 3780 := by
    have : L.length ≤ 60 * (cut ns none (some 63)).length := by simpa [cut_map] using hl
    omega
  have fin : ∀ L : List Int, L.length ≤ 3780 → (∀ n ∈ L, 0 ≤ n ∧ n < 1000000) → mulD (.int 40693) (.int L.sum) = some (.int (40693 * L.sum)) := fun L hl hb => by
    obtain ⟨h1, h2⟩ := sum_bnd L hb
    exact mulB (by decide) (by omega)
  have hs : sliceD (.scr ns) none (some 63) = some (.lst (cut (ns.map I.int) none (some 63))) := rfl
  have hes : ∀ M, seqItems M (.lst (cut (ns.map I.int) none (some 63))) = some (.vals (cut (ns.map I.int) none (some 63))) := fun _ => rfl
  have hsc : ∀ M, sh M (.scr ns) = .scr ns := fun _ => rfl
  have hE := eq_nilI L
  generalize cut (ns.map I.int) none (some 63) = items at e hs hes
  have done : ∀ L2 : List Int, PotOk (pot L2 0 ((7919 + 40693 * L2.sum) % 2147483629)) := fun L2 => ⟨L2, 0, _, rfl, Int.le_refl _, Int.emod_nonneg _ (by omega), Int.emod_lt_of_pos _ (by omega)⟩
  by_cases hz : L = []
  · subst hz
    obtain ⟨L2, hb2, hl2, e2⟩ := hnum 0 []
    have hf := fin L2 (by omega) hb2
    have hi := intsI_ints L2
    have hE : eqD (.lst []) (.lst []) = some true := hE
    rw [List.map_nil] at e
    refine ⟨_, done L2, ?_⟩
    simp [DefT.fn, evSs, evS, evE, evEs, evIt, Rs.R.bind, Rs.R.of, Rs.R.out, opM, prep, Op.deep, opD, sh_int, sh_str, sh_bl, sh_non, sh_tup, sh_lst, asgT, asgTs, asgI, truth, cmpI, fr_int, fr_str, fr_bl, fr_non, fr_nil, eq_int, dispD, toCell, isTy, I.ty, isN, D9, hs, hes, hsc]
    simp [DefT.fn, evSs, evS, evE, evEs, evIt, Rs.R.bind, Rs.R.of, Rs.R.out, opM, prep, Op.deep, opD, sh_int, sh_str, sh_bl, sh_non, sh_tup, sh_lst, asgT, asgTs, asgI, truth, cmpI, fr_int, fr_str, fr_bl, fr_non, fr_nil, eq_int, dispD, toCell, isTy, I.ty, isN, e, hE, e2, hi, hf, add_int, modD, pot]
  · have hne : L.isEmpty = false := by cases L <;> simp_all
    have hf := fin L hL hb
    have hi := intsI_ints L
    have hfr := fr_ints (M := []) L
    rw [hne] at hE
    refine ⟨_, done L, ?_⟩
    simp [DefT.fn, evSs, evS, evE, evEs, evIt, Rs.R.bind, Rs.R.of, Rs.R.out, opM, prep, Op.deep, opD, sh_int, sh_str, sh_bl, sh_non, sh_tup, sh_lst, asgT, asgTs, asgI, truth, cmpI, fr_int, fr_str, fr_bl, fr_non, fr_nil, eq_int, dispD, toCell, isTy, I.ty, isN, D9, hs, hes, hsc]
    simp [DefT.fn, evSs, evS, evE, evEs, evIt, Rs.R.bind, Rs.R.of, Rs.R.out, opM, prep, Op.deep, opD, sh_int, sh_str, sh_bl, sh_non, sh_tup, sh_lst, asgT, asgTs, asgI, truth, cmpI, fr_int, fr_str, fr_bl, fr_non, fr_nil, eq_int, dispD, toCell, isTy, I.ty, isN, e, hE, hfr, hi, hf, add_int, modD, pot]
end K07

namespace K07
open PySem PySem.Spec PyProof.Rows L2 Rs
theorem eachG_go {nth : Mem → Nat → Option (Option I)} {g : Tg} {b : Rs.Env → Mem → Option Out} {Inv : Nat → Rs.Env → Mem → Prop} (xs : List I) : ∀ (w i : Nat) (τ : Rs.Env) (M : Mem), Inv i τ M → i ≤ xs.length → xs.length - i < w → (∀ i τ M, Inv i τ M → nth M i = some xs[i]?) →
    (∀ (i : Nat) (v : I) (τ : Rs.Env) (M : Mem), xs[i]? = some v → Inv i τ M → ∃ τ1 τ2 M2, asgT g v τ = some τ1 ∧ b τ1 M = some (.nx τ2 M2) ∧ Inv (i + 1) τ2 M2) → ∃ τ' M', eachG nth g b w i τ M = some (.nx τ' M') ∧ Inv xs.length τ' M'
  | 0, i, τ, M, _, _, hw, _, _ => absurd hw (Nat.not_lt_zero _)
  | w + 1, i, τ, M, h, hi, hw, hn, step => by
    unfold eachG
    rw [hn i τ M h]
    by_cases hlt : i < xs.length
    · have e : xs[i]? = some xs[i] := List.getElem?_eq_getElem hlt
      rw [e]
      obtain ⟨τ1, τ2, M2, e1, e2, h2⟩ := step i xs[i] τ M e h
      dsimp only
      rw [e1]
      dsimp only
      rw [e2]
      exact eachG_go xs w (i + 1) τ2 M2 h2 (by omega) (by omega) hn step
    · have e : i = xs.length := by omega
      subst e
      rw [List.getElem?_eq_none (Nat.le_refl _)]
      exact ⟨τ, M, rfl, h⟩
theorem self_set {M : Mem} {p : Nat} {c : Cell} (h : M[p]? = some c) : M.set p c = M := by
  apply List.ext_getElem?
  intro i
  by_cases hi : p = i
  · subst hi
    rw [List.getElem?_set_self (List.getElem?_eq_some_iff.mp h).1, h]
  · rw [List.getElem?_set_ne hi]
theorem words_at {W F p : Nat} {c : Cell} {many : Int} {M : Mem} (hF : 3 ≤ F) (hc : PotOk c) (hp : p < M.length) (h0 : 0 ≤ many) (h1 : many ≤ 100) :
    ∃ (ws : List Str) (c' : Cell), (∀ w ∈ ws, Tx 8 w) ∧ ws.length ≤ many.toNat ∧ (0 < many → ws ≠ []) ∧ PotOk c' ∧ evCall T.P W F 12 [.obj p, .int many] (M.set p c) = .ok (.lst (ws.map .str)) (M.set p c') := by
  obtain ⟨ws, c', a, b, d, e, f⟩ := words_ok (W := W) hF hc (set_own hp) h0 h1
  exact ⟨ws, c', a, b, d, e, by rw [f, List.set_set]⟩
theorem P18 : T.P 18 = some D18.fn := rfl
theorem hds_flat (hs : List Hd) : I.flats (hs.map hdI) = true := flats_of fun x hx => by
  obtain ⟨e, _, rfl⟩ := List.mem_map.mp hx
  show (true && (I.flats (e.2.map .str) && true)) = true
  rw [flats_strs]; rfl
section
variable {Φ : Oracle} {W : Nat}
variable (hT : ∀ (M : Mem) (c : Cell) (many : Int), PotOk c → 0 < M.length → 0 < many → ∃ (v : Int) (c' : Cell), 0 ≤ v ∧ v < many ∧ PotOk c' ∧ Φ 10 [.obj 0, .int many] (M.set 0 c) = .ok (.int v) (M.set 0 c'))
variable (hWs : ∀ (M : Mem) (c : Cell) (many : Int), PotOk c → 0 < M.length → 0 ≤ many → many ≤ 100 → ∃ (ws : List Str) (c' : Cell), (∀ w ∈ ws, Tx 8 w) ∧ ws.length ≤ many.toNat ∧ (0 < many → ws ≠ []) ∧ PotOk c' ∧ Φ 12 [.obj 0, .int many] (M.set 0 c) = .ok (.lst (ws.map .str)) (M.set 0 c'))
include hT hWs
set_option maxHeartbeats 8000000 in
theorem heads_ok {c : Cell} {ws : List Str} (hc : PotOk c) (hws : ∀ w ∈ ws, Tx 8 w) (hl : ws.length ≤ 100) {x1 x2 x4 x5 x6 x7 x8 x9 : Option I} :
    ∃ (hs : List Hd) (c' : Cell) (x4' : Option I), hs.length = ws.length ∧ (∀ x ∈ hs, HdOk x) ∧ PotOk c' ∧ eachL (.nm 4) (evSs Φ W B18_2) (ws.map .str) [some (.obj 0), x1, x2, some (.obj 1), x4, x5, x6, x7, x8, x9] [c, .lst []] = some (.nx [some (.obj 0), x1, x2, some (.obj 1), x4', x5, x6, x7, x8, x9] [c', .lst (hs.map hdI)]) := by
  obtain ⟨τ', M', e, hs, c', x4', rfl, rfl, h1, h2, h3⟩ := each_go (g := .nm 4) (b := evSs Φ W B18_2)
    (Inv := fun j τ M => ∃ (hs : List Hd) (c' : Cell) (x4' : Option I), M = [c', .lst (hs.map hdI)] ∧ τ = [some (.obj 0), x1, x2, some (.obj 1), x4', x5, x6, x7, x8, x9] ∧ hs.length = j ∧ (∀ x ∈ hs, HdOk x) ∧ PotOk c')
    (ws.map .str) 0 [some (.obj 0), x1, x2, some (.obj 1), x4, x5, x6, x7, x8, x9] [c, .lst []] ⟨[], c, x4, rfl, rfl, rfl, (fun _ z => nomatch z), hc⟩ (by
      rintro i τ M y hy ⟨hs, c', x4', rfl, rfl, h1, h2, h3⟩
      have hi : i < ws.length := by simpa using (List.getElem?_eq_some_iff.mp hy).1
      obtain ⟨t, ht, rfl⟩ : ∃ t ∈ ws, y = .str t := by
        obtain ⟨t, ht, e⟩ := List.mem_map.mp (List.mem_of_getElem? hy)
        exact ⟨t, ht, e.symm⟩
      obtain ⟨v, c1, v0, v1, hc1, e1⟩ := hT [c', .lst (hs.map hdI)] c' 4 h3 (by simp) (by decide)
      obtain ⟨ps, c2, hp, hpl, _, hc2, e2⟩ := hWs [c', .lst (hs.map hdI)] c1 v hc1 (by simp) v0 (by omega)
      simp only [List.set_cons_zero] at e1 e2
      refine ⟨_, [some (.obj 0), x1, x2, some (.obj 1), some (.str t), x5, x6, x7, x8, x9], [c2, .lst ((hs ++ [(t, ps)]).map hdI)], rfl, ?_, hs ++ [(t, ps)], c2, _, rfl, rfl, by simp; omega, fun x hx => ?_, hc2⟩
      · simp (disch := first | omega | (simp only [List.length_append, List.length_map, List.length_cons, List.length_nil]; omega)) [DefT.fn, evSs, evS, evE, evEs, evIt, Rs.R.bind, Rs.R.of, Rs.R.out, opM, prep, Op.deep, opD, sh_int, sh_str, sh_bl, sh_non, sh_tup, sh_lst, asgT, asgTs, asgI, truth, cmpI, fr_int, fr_str, fr_bl, fr_non, fr_nil, eq_int, dispD, toCell, isTy, I.ty, isN, B18_2, e1, e2, lt_big, hdI]
      · rcases List.mem_append.mp hx with w | w
        · exact h2 x w
        · rw [List.mem_singleton.mp w]
          exact ⟨hws t ht, hp, show ps.length ≤ 3 by omega⟩)
  exact ⟨hs, c', x4', by simpa using h1, h2, h3, e⟩
omit hT hWs in
set_option maxHeartbeats 8000000 in
theorem names_ok {K : Mem} {x0 x1 x2 x3 x4 x5 x6 x9 : Option I} : ∀ (ws nms : List Str) (x8 : Option I), (∀ w ∈ ws, Tx 8 w) → (∀ w ∈ nms, Tx 8 w) → nms.length + ws.length ≤ 100 →
    ∃ (nms' : List Str) (x8' : Option I), (∀ w ∈ nms', Tx 8 w) ∧ nms'.length ≤ nms.length + ws.length ∧ eachL (.nm 8) (evSs Φ W B18_0) (ws.map .str) [x0, x1, x2, x3, x4, x5, x6, some (.obj K.length), x8, x9] (K ++ [.lst (nms.map .str)]) = some (.nx [x0, x1, x2, x3, x4, x5, x6, some (.obj K.length), x8', x9] (K ++ [.lst (nms'.map .str)]))
  | [], nms, x8, _, h, _ => ⟨nms, x8, h, by simp, by simp [eachL]⟩
  | w :: ws, nms, x8, hw, h, hl => by
    rw [List.length_cons] at hl
    have hw1 := hw w List.mem_cons_self
    have f1 := fit_w hw1
    have f2 := fit_ws h
    have hfr : frz (K ++ [Cell.lst (nms.map .str)]) dpt (.obj K.length) = some (.lst (nms.map .str)) := frz_lst (by simp) (flats_strs nms)
    have ea : ∀ x8, asgT (.nm 8) (.str w) [x0, x1, x2, x3, x4, x5, x6, some (.obj K.length), x8, x9] = some [x0, x1, x2, x3, x4, x5, x6, some (.obj K.length), some (.str w), x9] := fun x8 => by simp [asgT, asgI]
    by_cases hm : ((I.pys (nms.map I.str)).any fun z => PyData.eqv z (I.str w).py) = true
    · have ei : innD (.str w) (.lst (nms.map .str)) = some true := by
        show (if (I.str w).fit && (I.lst (nms.map .str)).fit then some ((I.pys (nms.map I.str)).any fun z => PyData.eqv z (I.str w).py) else none) = _
        rw [f1, f2, hm]; rfl
      obtain ⟨nms', x8', h1, h2, e⟩ := names_ok (K := K) (x0 := x0) (x1 := x1) (x2 := x2) (x3 := x3) (x4 := x4) (x5 := x5) (x6 := x6) (x9 := x9) ws nms (some (.str w)) (fun x hx => hw x (List.mem_cons_of_mem _ hx)) h (by omega)
      refine ⟨nms', x8', h1, by rw [List.length_cons]; omega, ?_⟩
      show eachL (.nm 8) (evSs Φ W B18_0) (.str w :: ws.map .str) _ _ = _
      unfold eachL
      have eb : evSs Φ W B18_0 [x0, x1, x2, x3, x4, x5, x6, some (.obj K.length), some (.str w), x9] (K ++ [.lst (nms.map .str)]) = some (.nx [x0, x1, x2, x3, x4, x5, x6, some (.obj K.length), some (.str w), x9] (K ++ [.lst (nms.map .str)])) := by
        simp [DefT.fn, evSs, evS, evE, evEs, evIt, Rs.R.bind, Rs.R.of, Rs.R.out, opM, prep, Op.deep, opD, sh_int, sh_str, sh_bl, sh_non, sh_tup, sh_lst, asgT, asgTs, asgI, truth, cmpI, fr_int, fr_str, fr_bl, fr_non, fr_nil, eq_int, dispD, toCell, isTy, I.ty, isN, B18_0, hfr, ei]
      rw [ea]
      dsimp only
      rw [eb]
      exact e
    · have ei : innD (.str w) (.lst (nms.map .str)) = some false := by
        show (if (I.str w).fit && (I.lst (nms.map .str)).fit then some ((I.pys (nms.map I.str)).any fun z => PyData.eqv z (I.str w).py) else none) = _
        rw [f1, f2, eq_false_of_ne_true hm]; rfl
      obtain ⟨nms', x8', h1, h2, e⟩ := names_ok (K := K) (x0 := x0) (x1 := x1) (x2 := x2) (x3 := x3) (x4 := x4) (x5 := x5) (x6 := x6) (x9 := x9) ws (nms ++ [w]) (some (.str w)) (fun x hx => hw x (List.mem_cons_of_mem _ hx)) (fun x hx => by
        rcases List.mem_append.mp hx with q | q
        · exact h x q
        · rw [List.mem_singleton.mp q]; exact hw1) (by simp; omega)
      refine ⟨nms', x8', h1, by rw [List.length_append, List.length_singleton] at h2; rw [List.length_cons]; omega, ?_⟩
      show eachL (.nm 8) (evSs Φ W B18_0) (.str w :: ws.map .str) _ _ = _
      unfold eachL
      have eb : evSs Φ W B18_0 [x0, x1, x2, x3, x4, x5, x6, some (.obj K.length), some (.str w), x9] (K ++ [.lst (nms.map .str)]) = some (.nx [x0, x1, x2, x3, x4, x5, x6, some (.obj K.length), some (.str w), x9] (K ++ [.lst ((nms ++ [w]).map .str)])) := by
        simp (disch := first | omega | (simp only [List.length_append, List.length_map, List.length_cons, List.length_nil]; omega)) [DefT.fn, evSs, evS, evE, evEs, evIt, Rs.R.bind, Rs.R.of, Rs.R.out, opM, prep, Op.deep, opD, sh_int, sh_str, sh_bl, sh_non, sh_tup, sh_lst, asgT, asgTs, asgI, truth, cmpI, fr_int, fr_str, fr_bl, fr_non, fr_nil, eq_int, dispD, toCell, isTy, I.ty, isN, B18_0, hfr, ei, lt_big, set1]
      rw [ea]
      dsimp only
      rw [eb]
      exact e
end
end K07

namespace K07
open PySem PySem.Spec PyProof.Rows L2 Rs
/-- the state between two errands -/
structure St18 (hs : List Hd) (i : Nat) (τ : Rs.Env) (M : Mem) : Prop where
  ex : ∃ (c : Cell) (es : List Er) (left : Int) (x1 x4 x6 x7 x8 x9 : Option I), M[0]? = some c ∧ PotOk c ∧ M[1]? = some (.lst (hs.map hdI)) ∧ M[2]? = some (.lst (es.map Er.i)) ∧ 0 ≤ left ∧ left ≤ 26 ∧ (∀ e ∈ es, ErOk e) ∧ es.length = i ∧
    τ = [some (.obj 0), x1, some (.int left), some (.obj 1), x4, some (.obj 2), x6, x7, x8, x9]
section
variable {Φ : Oracle} {W : Nat} {hs : List Hd}
variable (hT : ∀ (M : Mem) (c : Cell) (many : Int), PotOk c → 0 < M.length → 0 < many → ∃ (v : Int) (c' : Cell), 0 ≤ v ∧ v < many ∧ PotOk c' ∧ Φ 10 [.obj 0, .int many] (M.set 0 c) = .ok (.int v) (M.set 0 c'))
variable (hWs : ∀ (M : Mem) (c : Cell) (many : Int), PotOk c → 0 < M.length → 0 ≤ many → many ≤ 100 → ∃ (ws : List Str) (c' : Cell), (∀ w ∈ ws, Tx 8 w) ∧ ws.length ≤ many.toNat ∧ (0 < many → ws ≠ []) ∧ PotOk c' ∧ Φ 12 [.obj 0, .int many] (M.set 0 c) = .ok (.lst (ws.map .str)) (M.set 0 c'))
variable (hB : ∀ (M : Mem) (r n : Nat) (names : List Str) (q : Int) (c : Cell), Rm M 0 r n 1 names hs → 0 ≤ q → PotOk c →
  ∃ (b : List Rw) (M' : Mem) (q' : Int) (c' : Cell), Post 0 r n 1 names hs 4 M M' q q' c' b ∧ Φ 17 [.obj 0, .obj r, .int 4, .bl false] (mm M 0 r n 1 q c) = .ok (.tup (Rw.is b)) (mm M' 0 r n 1 q' c'))
include hT hWs hB
set_option maxHeartbeats 8000000 in
theorem errand_step (hhs : hs ≠ []) (hhl : hs.length ≤ 100) (hho : ∀ x ∈ hs, HdOk x) (i : Nat) (v : I) (τ : Rs.Env) (M : Mem) (hv : (hs.map hdI)[i]? = some v) (s : St18 hs i τ M) :
    ∃ τ1 τ2 M2, asgT (.tup (.cons (.nm 4) (.cons (.nm 6) .nil))) v τ = some τ1 ∧ evSs Φ W B18_1 τ1 M = some (.nx τ2 M2) ∧ St18 hs (i + 1) τ2 M2 := by
  obtain ⟨c, es, left, x1, x4, x6, x7, x8, x9, g0, hc, g1, g2, l0, l26, hes, hel, rfl⟩ := s.ex
  have hi : i < hs.length := by simpa using (List.getElem?_eq_some_iff.mp hv).1
  obtain ⟨⟨t, ps⟩, hx, rfl⟩ := List.mem_map.mp (List.mem_of_getElem? hv)
  have hX := hho _ hx
  have L3 : 2 < M.length := (List.getElem?_eq_some_iff.mp g2).1
  -- names
  let B := M ++ [Cell.lst (ps.map .str)]
  have b0 : B[0]? = some c := by
    show (M ++ _)[0]? = _
    rw [List.getElem?_append_left (by omega)]; exact g0
  have bl : 0 < B.length := by show 0 < (M ++ _).length; simp
  obtain ⟨v1, c1, v10, v11, hc1, e1⟩ := hT B c 4 hc bl (by decide)
  rw [self_set b0] at e1
  obtain ⟨ws, c2, hw2, hl2, _, hc2, e2⟩ := hWs B c1 v1 hc1 bl v10 (by omega)
  have eK : B.set 0 c2 = M.set 0 c2 ++ [Cell.lst (ps.map .str)] := by
    show (M ++ _).set 0 c2 = _
    rw [List.set_append_left _ _ (by omega)]
  rw [eK] at e2
  have hpl : ps.length ≤ 3 := hX.l
  obtain ⟨nms, x8', hn, hnl, e3⟩ := names_ok (Φ := Φ) (W := W) (K := M.set 0 c2) (x0 := some (.obj 0)) (x1 := x1) (x2 := some (.int left)) (x3 := some (.obj 1)) (x4 := some (.str t)) (x5 := some (.obj 2)) (x6 := some (.tup (ps.map .str))) (x9 := x9) ws ps x8 hw2 hX.p (by omega)
  rw [List.length_set] at e3
  -- the room
  let q : Int := if left < 24 then left else 24
  have q0 : 0 ≤ q := by show 0 ≤ (if left < 24 then left else 24); split <;> omega
  have q1 : q ≤ left := by show (if left < 24 then left else 24) ≤ left; split <;> omega
  have q24 : q ≤ 24 := by show (if left < 24 then left else 24) ≤ 24; split <;> omega
  have hmin : opD .min [.int 24, .int left] = some (.int q) := rfl
  let R := M.set 0 c2 ++ [Cell.lst (nms.map .str), room M.length 1 q]
  have RL : R.length = M.length + 2 := by show (M.set 0 c2 ++ _).length = _; simp
  have r0 : R[0]? = some c2 := by
    show (M.set 0 c2 ++ _)[0]? = _
    rw [List.getElem?_append_left (by rw [List.length_set]; omega)]
    exact set_own (by omega)
  have r1 : R[1]? = some (.lst (hs.map hdI)) := by
    show (M.set 0 c2 ++ _)[1]? = _
    rw [List.getElem?_append_left (by rw [List.length_set]; omega)]
    exact set_get g1 (by decide)
  have r2 : R[2]? = some (.lst (es.map Er.i)) := by
    show (M.set 0 c2 ++ _)[2]? = _
    rw [List.getElem?_append_left (by rw [List.length_set]; omega)]
    exact set_get g2 (by decide)
  have rn : R[M.length]? = some (.lst (nms.map .str)) := by
    show (M.set 0 c2 ++ _)[M.length]? = _
    rw [List.getElem?_append_right (by rw [List.length_set]; omega), List.length_set, Nat.sub_self]; rfl
  have rr : R[M.length + 1]? = some (room M.length 1 q) := by
    show (M.set 0 c2 ++ _)[M.length + 1]? = _
    rw [List.getElem?_append_right (by rw [List.length_set]; omega), List.length_set, show M.length + 1 - M.length = 1 by omega]; rfl
  have Z : Rm R 0 (M.length + 1) M.length 1 nms hs := ⟨by omega, by omega, by omega, by omega, by decide, by omega, by omega, rn, r1, hn, by omega, hhs, hhl, hho⟩
  have em : mm R 0 (M.length + 1) M.length 1 q c2 = R := by
    unfold mm
    rw [self_set rr, self_set r0]
  obtain ⟨b, M3, q', c3, P, e4⟩ := hB R (M.length + 1) M.length nms q c2 Z q0 hc2
  rw [em] at e4
  have Z3 := P.rm
  let N := mm M3 0 (M.length + 1) M.length 1 q' c3
  have n1 : N[1]? = some (.lst (hs.map hdI)) := Z3.gH
  have n0 : N[0]? = some c3 := Z3.gP
  have nr : N[M.length + 1]? = some (room M.length 1 q') := Z3.gR
  have n2 : N[2]? = some (.lst (es.map Er.i)) := by
    show (mm M3 0 (M.length + 1) M.length 1 q' c3)[2]? = _
    rw [mm_get (by decide) (by omega), P.sm.g 2 (by omega) (by decide) (by omega)]
    exact r2
  have NL : 2 < N.length := (List.getElem?_eq_some_iff.mp n2).1
  let e : Er := ⟨t, ps, b⟩
  let Z' := N.set 2 (.lst ((es ++ [e]).map Er.i))
  have z0 : Z'[0]? = some c3 := set_get n0 (by decide)
  have z1 : Z'[1]? = some (.lst (hs.map hdI)) := set_get n1 (by decide)
  have z2 : Z'[2]? = some (.lst ((es ++ [e]).map Er.i)) := set_own NL
  have zr : Z'[M.length + 1]? = some (room M.length 1 q') := set_get nr (by omega)
  have okE : ErOk e := ⟨hX.t, hX.p, hpl, P.ok, by
    have := P.ln; have := P.q0
    show (Rw.lns b).length ≤ 1000
    omega⟩
  have pq0 := P.q0
  have pq1 := P.q1
  refine ⟨_, [some (.obj 0), x1, some (.int (left - q + q')), some (.obj 1), some (.str t), some (.obj 2), some (.tup (ps.map .str)), some (.obj M.length), x8', some (.obj (M.length + 1))], Z', rfl, ?_, ⟨c3, es ++ [e], left - q + q', x1, some (.str t), some (.tup (ps.map .str)), some (.obj M.length), x8', some (.obj (M.length + 1)), z0, P.pc, z1, z2, by omega, by omega, fun x hx => ?_, by simp; omega, rfl⟩⟩
  · have sR : sh R (.obj (M.length + 1)) = .lst [.obj M.length, .obj 1, .int q] := sh_obj rr
    have sZ : sh Z' (.obj (M.length + 1)) = .lst [.obj M.length, .obj 1, .int q'] := sh_obj zr
    have i2 : ∀ q : Int, ixD (.lst [.obj M.length, .obj 1, .int q]) (.int 2) = some (.int q) := fun _ => rfl
    have eB : M ++ [Cell.lst (ps.map .str)] = B := rfl
    have eR : M.set 0 c2 ++ [Cell.lst (nms.map .str), Cell.lst [.obj M.length, .obj 1, .int q]] = R := rfl
    have eN : mm M3 0 (M.length + 1) M.length 1 q' c3 = N := rfl
    have eZ : N.set 2 (.lst (es.map Er.i ++ [.tup [.str t, .tup (ps.map .str), .tup (Rw.is b)]])) = Z' := by
      show _ = N.set 2 (.lst ((es ++ [e]).map Er.i))
      rw [List.map_append]; rfl
    have hes' : ∀ M, seqItems M (.lst (ws.map .str)) = some (.vals (ws.map .str)) := fun _ => rfl
    have eqq : (if left < 24 then left else 24) = q := rfl
    have eld : es.length < sizeLine := lt_big (by omega)
    rw [eN] at e4
    clear_value B R N Z' q
    simp [DefT.fn, evSs, evS, evE, evEs, evIt, Rs.R.bind, Rs.R.of, Rs.R.out, opM, prep, Op.deep, opD, sh_int, sh_str, sh_bl, sh_non, sh_tup, sh_lst, asgT, asgTs, asgI, truth, cmpI, fr_int, fr_str, fr_bl, fr_non, fr_nil, eq_int, dispD, toCell, isTy, I.ty, isN, B18_1, eB, e1, e2, hes', hdI]
    simp [DefT.fn, evSs, evS, evE, evEs, evIt, Rs.R.bind, Rs.R.of, Rs.R.out, opM, prep, Op.deep, opD, sh_int, sh_str, sh_bl, sh_non, sh_tup, sh_lst, asgT, asgTs, asgI, truth, cmpI, fr_int, fr_str, fr_bl, fr_non, fr_nil, eq_int, dispD, toCell, isTy, I.ty, isN, e3, eqq, eR, i2, sR, subD, r2, e4, n2, eld, eZ, sZ, add_int, hmin]
  · rcases List.mem_append.mp hx with w | w
    · exact hes x w
    · rw [List.mem_singleton.mp w]; exact okE
end
end K07

namespace K07
open PySem PySem.Spec PyProof.Rows L2 Rs
set_option maxHeartbeats 8000000 in
theorem program_ok {W F p : Nat} {c : Cell} {M : Mem} (hW : 200 ≤ W) (hF : 21 ≤ F) (hc : PotOk c) (hp : M[p]? = some c) :
    ∃ (es : List Er) (c' : Cell), es ≠ [] ∧ es.length ≤ 10 ∧ (∀ e ∈ es, ErOk e) ∧ PotOk c' ∧ evCall T.P W F 18 [.obj p, .int 6, .int 26] M = .ok (.tup (es.map Er.i)) (M.set p c') := by
  obtain ⟨k, rfl⟩ : ∃ k, F = k + 1 := ⟨F - 1, by omega⟩
  have hT : ∀ (M : Mem) (c : Cell) (many : Int), PotOk c → 0 < M.length → 0 < many → ∃ (v : Int) (c' : Cell), 0 ≤ v ∧ v < many ∧ PotOk c' ∧ evCall T.P W k 10 [.obj 0, .int many] (M.set 0 c) = .ok (.int v) (M.set 0 c') := fun M c many hc hp hm => take_at (by omega) hc hp hm
  have hWs : ∀ (M : Mem) (c : Cell) (many : Int), PotOk c → 0 < M.length → 0 ≤ many → many ≤ 100 → ∃ (ws : List Str) (c' : Cell), (∀ w ∈ ws, Tx 8 w) ∧ ws.length ≤ many.toNat ∧ (0 < many → ws ≠ []) ∧ PotOk c' ∧ evCall T.P W k 12 [.obj 0, .int many] (M.set 0 c) = .ok (.lst (ws.map .str)) (M.set 0 c') := fun M c many hc hp h0 h1 => words_at (by omega) hc hp h0 h1
  have hB : ∀ (hs : List Hd) (M : Mem) (r n : Nat) (names : List Str) (q : Int) (c : Cell), Rm M 0 r n 1 names hs → 0 ≤ q → PotOk c →
      ∃ (b : List Rw) (M' : Mem) (q' : Int) (c' : Cell), Post 0 r n 1 names hs 4 M M' q q' c' b ∧ evCall T.P W k 17 [.obj 0, .obj r, .int 4, .bl false] (mm M 0 r n 1 q c) = .ok (.tup (Rw.is b)) (mm M' 0 r n 1 q' c') :=
    fun hs M r n names q c Z hq hc => blocks (W := W) 4 k M q c false (by omega) Z hq hc
  suffices ∃ (es : List Er) (c' : Cell) (M1 : Mem), es ≠ [] ∧ es.length ≤ 10 ∧ (∀ e ∈ es, ErOk e) ∧ PotOk c' ∧ M1[0]? = some c' ∧ evSs (evCall T.P W k) W D18.fn.body [some (.obj 0), some (.int 6), some (.int 26), none, none, none, none, none, none, none] [c] = some (.ret (.tup (es.map Er.i)) M1) by
    obtain ⟨es, c', M1, h1, h2, h3, h4, h5, e⟩ := this
    refine ⟨es, c', h1, h2, h3, h4, ?_⟩
    refine call1 (args := [.int 6, .int 26]) (M1 := M1) (v := .tup (es.map Er.i)) P18 rfl rfl rfl hp hc.flat rfl e h5 h4.frz ?_
    exact frz_flat _ (show (I.tup (es.map Er.i)).flat = true from ers_flat es)
  generalize evCall T.P W k = Φ at hT hWs hB
  obtain ⟨v, c1, v0, v1, hc1, e1⟩ := hT [c, .lst []] c 6 hc (by simp) (by decide)
  obtain ⟨ws, c2, hw, hl, hne, hc2, e2⟩ := hWs [c, .lst []] c1 (1 + v) hc1 (by simp) (by omega) (by omega)
  simp only [List.set_cons_zero] at e1 e2
  obtain ⟨hs, c3, x4, hsl, hho, hc3, e3⟩ := heads_ok (W := W) hT hWs (x1 := some (.int 6)) (x2 := some (.int 26)) (x4 := none) (x5 := none) (x6 := none) (x7 := none) (x8 := none) (x9 := none) hc2 hw (by omega)
  have hw0 := List.length_pos_iff.mpr (hne (by omega))
  have hhs : hs ≠ [] := List.length_pos_iff.mp (by omega)
  obtain ⟨τ', M', e4, s⟩ := eachG_go (nth := (cellItem · 1)) (g := .tup (.cons (.nm 4) (.cons (.nm 6) .nil))) (b := evSs Φ W B18_1) (Inv := St18 hs) (hs.map hdI) W 0
    [some (.obj 0), some (.int 6), some (.int 26), some (.obj 1), x4, some (.obj 2), none, none, none, none] [c3, .lst (hs.map hdI), .lst []]
    ⟨c3, [], 26, _, _, _, _, _, _, rfl, hc3, rfl, rfl, by decide, by decide, (fun _ z => nomatch z), rfl, rfl⟩ (Nat.zero_le _) (by simp; omega) (fun i τ M s => by
      obtain ⟨c, es, left, x1, x4, x6, x7, x8, x9, g0, hc, g1, g2, l0, l26, hes, hel, rfl⟩ := s.ex
      show (match M[1]? with
        | some (.lst xs) => some xs[i]?
        | _ => none) = _
      rw [g1]) (fun i v τ M hv s => errand_step hT hWs (hB hs) hhs (by omega) hho i v τ M hv s)
  obtain ⟨c4, es, left, y1, y4, y6, y7, y8, y9, g0, hc4, g1, g2, l0, l26, hes, hel, rfl⟩ := s.ex
  rw [List.length_map] at hel
  refine ⟨es, c4, M', fun z => ?_, by omega, hes, hc4, g0, ?_⟩
  · rw [z] at hel
    have : hs.length = 0 := hel.symm
    omega
  · have hes' : ∀ M, seqItems M (.lst (ws.map .str)) = some (.vals (ws.map .str)) := fun _ => rfl
    have sf : sh M' (.obj 2) = .lst (es.map Er.i) := sh_obj g2
    simp [DefT.fn, evSs, evS, evE, evEs, evIt, Rs.R.bind, Rs.R.of, Rs.R.out, opM, prep, Op.deep, opD, sh_int, sh_str, sh_bl, sh_non, sh_tup, sh_lst, asgT, asgTs, asgI, truth, cmpI, fr_int, fr_str, fr_bl, fr_non, fr_nil, eq_int, dispD, toCell, isTy, I.ty, isN, D18, e1, add_int, e2, hes']
    simp [DefT.fn, evSs, evS, evE, evEs, evIt, Rs.R.bind, Rs.R.of, Rs.R.out, opM, prep, Op.deep, opD, sh_int, sh_str, sh_bl, sh_non, sh_tup, sh_lst, asgT, asgTs, asgI, truth, cmpI, fr_int, fr_str, fr_bl, fr_non, fr_nil, eq_int, dispD, toCell, isTy, I.ty, isN, e3, seqItems]
    simp [DefT.fn, evSs, evS, evE, evEs, evIt, Rs.R.bind, Rs.R.of, Rs.R.out, opM, prep, Op.deep, opD, sh_int, sh_str, sh_bl, sh_non, sh_tup, sh_lst, asgT, asgTs, asgI, truth, cmpI, fr_int, fr_str, fr_bl, fr_non, fr_nil, eq_int, dispD, toCell, isTy, I.ty, isN, e4, sf]
theorem canLay_app {a b : Str} (ha : PyData.canLay0 (.str a) = true) (hb : PyData.canLay0 (.str b) = true) : PyData.canLay0 (.str (a ++ b)) = true := by
  simp only [PyData.canLay0, PyData.strOk, Array.all_eq_true', decide_eq_true_eq] at ha hb ⊢
  intro c hc
  have e : (a ++ b).cps = a.cps ++ b.cps := rfl
  rw [e] at hc
  exact (Array.mem_append.mp hc).elim (ha c) (hb c)
theorem canLay_join {s : Str} (hs : PyData.canLay0 (.str s) = true) : ∀ l : List Str, (∀ x ∈ l, PyData.canLay0 (.str x) = true) → PyData.canLay0 (.str (Txt.join s l)) = true
  | [], _ => by
    rw [TL.join_eq]
    show PyData.canLay0 (.str Str.empty) = true
    decide +kernel
  | [a], h => by
    rw [join_one]; exact h a List.mem_cons_self
  | a :: b :: l, h => by
    rw [join_cons]
    exact canLay_app (canLay_app (h a List.mem_cons_self) hs) (canLay_join hs (b :: l) fun x hx => h x (List.mem_cons_of_mem _ hx))
theorem text_lay {es : List Er} (h : ∀ e ∈ es, ErOk e) : PyData.canLay0 (.str (text es)) = true := canLay_join (by decide +kernel) _ fun x hx => (ers_tx h x hx).ok
theorem ers_ne {es : List Er} (h : es ≠ []) : ers es ≠ [] := by
  cases es with
  | nil => exact absurd rfl h
  | cons e es => exact (fun z => nomatch (show e.head :: _ = [] from z))
theorem split_text {es : List Er} (h : ∀ e ∈ es, ErOk e) (hne : es ≠ []) : Txt.split (text es) NL = ers es := by
  have e1 : NL = SX.S [10] := by decide +kernel
  have e2 : ers es = ((ers es).map fun x : Str => x.cps.toList).map SX.S := by
    rw [List.map_map]
    conv => lhs; rw [← List.map_id (ers es)]
    apply List.map_congr_left
    intro x _
    exact (SX.S_tl x).symm
  unfold text
  rw [e1, e2, SX.join_S, SX.split_S (by decide) (by decide), SX.spl_join (by simpa using ers_ne hne)]
  intro p hp hc
  obtain ⟨x, hx, rfl⟩ := List.mem_map.mp hp
  exact ((ers_tx h x hx).2 10 hc).2 rfl
theorem text_len {es : List Er} (h : ∀ e ∈ es, ErOk e) (hl : es.length ≤ 30) : (text es).length + 2 ≤ sizeLine := by
  have h1 := StrLaws.join_length_le NL (ers es)
  have h2 := sum_tx (m := 400) (ers es) (ers_tx h)
  have h3 := ers_len h
  have e : text es = Str.join NL (ers es) := TL.join_eq _ _
  rw [e, sl24]
  rw [nl_len] at h1
  omega
theorem P23 : T.P 23 = some D23.fn := rfl
set_option maxHeartbeats 8000000 in
theorem law_holds : ∀ ns : List Int, ns.length ≤ 63 → ∃ M, evCall T.P 1000000 40 23 [.scr ns] [] = .ok (.bl true) M := by
  intro ns hn
  rw [call0 P23 rfl rfl rfl (flats1 (x := .scr ns) rfl)]
  obtain ⟨c, hc, e1⟩ := pot_ok (W := 1000000) (F := 39) hn (by decide)
  obtain ⟨es, c', hne, hl, ok, hc', e2⟩ := program_ok (W := 1000000) (F := 39) (p := 0) (M := [c]) (by decide) (by decide) hc rfl
  have okr : ∀ e ∈ es.reverse, ErOk e := fun e he => ok e (List.mem_reverse.mp he)
  have hlr : es.reverse.length ≤ 30 := by rw [List.length_reverse]; omega
  have e3 : ∀ M, evCall T.P 1000000 39 7 [.tup (es.map Er.i)] M = .ok (.str (text es)) M := fun M => written_ok ok (by omega) (by decide)
  have e4 : ∀ M, evCall T.P 1000000 39 22 [.tup (es.map Er.i)] M = .ok (.lst ((ers es).map .str)) M := fun M => lines_ok ok (by omega) (by decide)
  have e5 : ∀ M, evCall T.P 1000000 39 7 [.tup (es.reverse.map Er.i)] M = .ok (.str (text es.reverse)) M := fun M => written_ok okr hlr (by decide)
  have e6 : ∀ M, evCall T.P 1000000 39 22 [.tup (es.reverse.map Er.i)] M = .ok (.lst ((ers es.reverse).map .str)) M := fun M => lines_ok okr hlr (by decide)
  have sp : ∀ M, mthD M .split (.str (text es)) [.str NL] = some (.lst ((ers es).map .str)) := fun M => by
    show (if (NL.length == 0) = false ∧ (text es).length + 2 ≤ sizeLine then some (I.lst ((Txt.split (text es) NL).map .str)) else none) = _
    rw [if_pos ⟨by rw [nl_len]; rfl, text_len ok (by omega)⟩, split_text ok hne]
  have jn : ∀ M, mthD M .join (.str NL) [.lst ((ers es.reverse).map .str)] = some (.str (text es.reverse)) := fun M => mth_join (l := ers es.reverse) rfl (join_fit (m := 400) (ers_tx okr) nl_len (by have := ers_len okr; omega))
  have q1 : eqD (.lst ((ers es).map .str)) (.lst ((ers es).map .str)) = some true := eqD_self (fit_strs fun s hs => (ers_tx ok s hs).ok)
  have q2 : eqD (.str (text es.reverse)) (.str (text es.reverse)) = some true := eqD_self (Fit.mono (fit_str (n := 0) (text_lay okr)) (by decide))
  have q3 : eqD (.str (text es)) (.str (text es)) = some true := eqD_self (Fit.mono (fit_str (n := 0) (text_lay ok)) (by decide))
  have fr := fun M => fr_strs M (ers es)
  have hsc : ∀ M, sh M (.scr ns) = .scr ns := fun _ => rfl
  have rv : revT (.tup (es.map Er.i)) = some (.tup (es.reverse.map Er.i)) := by
    show some (I.tup (es.map Er.i).reverse) = _
    rw [List.map_reverse]
  have s0 : [c].set 0 c' = [c'] := rfl
  rw [s0] at e2
  generalize (text es) = t1 at e3 sp q3
  generalize (text es.reverse) = t2 at e5 jn q2
  generalize es.reverse.map Er.i = r2 at e5 e6 rv
  generalize es.map Er.i = r1 at e2 e3 e4 rv
  generalize evCall T.P 1000000 39 = Φ at e1 e2 e3 e4 e5 e6
  unfold NL at sp jn
  have e : evSs Φ 1000000 D23.fn.body (List.map some [I.scr ns] ++ List.replicate (D23.fn.ns - D23.fn.np) none) [] = some (.ret (.bl true) [c']) := by
    simp [DefT.fn, evSs, evS, evE, evEs, evIt, Rs.R.bind, Rs.R.of, Rs.R.out, opM, prep, Op.deep, opD, sh_int, sh_str, sh_bl, sh_non, sh_tup, sh_lst, asgT, asgTs, asgI, truth, cmpI, fr_int, fr_str, fr_bl, fr_non, fr_nil, eq_int, dispD, toCell, isTy, I.ty, isN, D23, e1, e2, e3, e4, e5, e6, recv, sp, jn, q1, q2, q3, fr, rv]
  rw [e]
  exact ⟨_, back_ret rfl⟩
end K07

namespace K07
open PySem PySem.Spec PyProof.Rows L2 Rs
theorem all_mk {l : PySem.W.OpenLaw} {w : World} {K : PySem.W.Frag} {h : Heap} {mg : Str → Option Value} {fa : Addr} {f0 f1 f2 f3 f4 f5 f6 f7 f8 f9 f10 f11 f12 f13 f14 f15 f16 f17 f18 f19 f20 f21 f22 f23 : Addr} {od0 od1 od2 od3 od4 od5 od6 od7 od8 od9 od10 od11 od12 od13 od14 od15 od16 od17 od18 od19 od20 od21 od22 od23 : Option Addr} {an0 an1 an2 an3 an4 an5 an6 an7 an8 an9 an10 an11 an12 an13 an14 an15 an16 an17 an18 an19 an20 an21 an22 an23 : Option Addr} {sl0 sl1 sl2 sl3 sl4 sl5 sl6 sl7 sl8 sl9 sl10 sl11 sl12 sl13 sl14 sl15 sl16 sl17 sl18 sl19 sl20 sl21 sl22 sl23 : Array (Option Value)} {oc0 oc1 oc2 oc3 oc4 oc5 oc6 oc7 oc8 oc9 oc10 oc11 oc12 oc13 oc14 oc15 oc16 oc17 oc18 oc19 oc20 oc21 oc22 oc23 : Value} {kV0 kV1 kV2 kV3 kV4 kV5 kV6 kV7 kV8 kV9 kV10 kV11 kV12 kV13 kV14 kV15 kV16 kV17 kV18 kV19 kV20 kV21 kV22 kV23 : Value} {dc0 dc1 dc2 dc3 dc4 dc5 dc6 dc7 dc8 dc9 dc10 dc11 dc12 dc13 dc14 dc15 dc16 dc17 dc18 dc19 dc20 dc21 dc22 dc23 : Value} {pm0 pm1 pm2 pm3 pm4 pm5 pm6 pm7 pm8 pm9 pm10 pm11 pm12 pm13 pm14 pm15 pm16 pm17 pm18 pm19 pm20 pm21 pm22 pm23 : Value} {cd0 cd1 cd2 cd3 cd4 cd5 cd6 cd7 cd8 cd9 cd10 cd11 cd12 cd13 cd14 cd15 cd16 cd17 cd18 cd19 cd20 cd21 cd22 cd23 : Value} {ct0 ct1 ct2 ct3 ct4 ct5 ct6 ct7 ct8 ct9 ct10 ct11 ct12 ct13 ct14 ct15 ct16 ct17 ct18 ct19 ct20 ct21 ct22 ct23 : Value} (X : K.In h) (G : h.Ns mainGlobals mg) (hfa : mg "law" = some (.ref fa))
    (a0 : PySem.W.nsIn K mainGlobals "worth_text" = some (some (.ref f0))) (l0 : K.lookup f0 = some ⟨oc0, od0, .func (PySem.W.fnOf "worth_text" "worth_text" (defArgs (top 1)) (defBody (top 1)) (defScope (top 1)) .none kV0 dc0 pm0 an0 cd0 ct0), sl0⟩) (c0 : PySem.W.codeIn K cd0 "worth_text" = true) (k0 : PySem.W.keepIn K (.ref f0) = true)
    (a1 : PySem.W.nsIn K mainGlobals "branch_text" = some (some (.ref f1))) (l1 : K.lookup f1 = some ⟨oc1, od1, .func (PySem.W.fnOf "branch_text" "branch_text" (defArgs (top 2)) (defBody (top 2)) (defScope (top 2)) .none kV1 dc1 pm1 an1 cd1 ct1), sl1⟩) (c1 : PySem.W.codeIn K cd1 "branch_text" = true) (k1 : PySem.W.keepIn K (.ref f1) = true)
    (a2 : PySem.W.nsIn K mainGlobals "catch_text" = some (some (.ref f2))) (l2 : K.lookup f2 = some ⟨oc2, od2, .func (PySem.W.fnOf "catch_text" "catch_text" (defArgs (top 3)) (defBody (top 3)) (defScope (top 3)) .none kV2 dc2 pm2 an2 cd2 ct2), sl2⟩) (c2 : PySem.W.codeIn K cd2 "catch_text" = true) (k2 : PySem.W.keepIn K (.ref f2) = true)
    (a3 : PySem.W.nsIn K mainGlobals "nest_lines" = some (some (.ref f3))) (l3 : K.lookup f3 = some ⟨oc3, od3, .func (PySem.W.fnOf "nest_lines" "nest_lines" (defArgs (top 4)) (defBody (top 4)) (defScope (top 4)) .none kV3 dc3 pm3 an3 cd3 ct3), sl3⟩) (c3 : PySem.W.codeIn K cd3 "nest_lines" = true) (k3 : PySem.W.keepIn K (.ref f3) = true)
    (a4 : PySem.W.nsIn K mainGlobals "row_lines" = some (some (.ref f4))) (l4 : K.lookup f4 = some ⟨oc4, od4, .func (PySem.W.fnOf "row_lines" "row_lines" (defArgs (top 5)) (defBody (top 5)) (defScope (top 5)) .none kV4 dc4 pm4 an4 cd4 ct4), sl4⟩) (c4 : PySem.W.codeIn K cd4 "row_lines" = true) (k4 : PySem.W.keepIn K (.ref f4) = true)
    (a5 : PySem.W.nsIn K mainGlobals "block_lines" = some (some (.ref f5))) (l5 : K.lookup f5 = some ⟨oc5, od5, .func (PySem.W.fnOf "block_lines" "block_lines" (defArgs (top 6)) (defBody (top 6)) (defScope (top 6)) .none kV5 dc5 pm5 an5 cd5 ct5), sl5⟩) (c5 : PySem.W.codeIn K cd5 "block_lines" = true) (k5 : PySem.W.keepIn K (.ref f5) = true)
    (a6 : PySem.W.nsIn K mainGlobals "errand_lines" = some (some (.ref f6))) (l6 : K.lookup f6 = some ⟨oc6, od6, .func (PySem.W.fnOf "errand_lines" "errand_lines" (defArgs (top 7)) (defBody (top 7)) (defScope (top 7)) .none kV6 dc6 pm6 an6 cd6 ct6), sl6⟩) (c6 : PySem.W.codeIn K cd6 "errand_lines" = true) (k6 : PySem.W.keepIn K (.ref f6) = true)
    (a7 : PySem.W.nsIn K mainGlobals "written" = some (some (.ref f7))) (l7 : K.lookup f7 = some ⟨oc7, od7, .func (PySem.W.fnOf "written" "written" (defArgs (top 8)) (defBody (top 8)) (defScope (top 8)) .none kV7 dc7 pm7 an7 cd7 ct7), sl7⟩) (c7 : PySem.W.codeIn K cd7 "written" = true) (k7 : PySem.W.keepIn K (.ref f7) = true)
    (a8 : PySem.W.nsIn K mainGlobals "_law_numbers" = some (some (.ref f8))) (l8 : K.lookup f8 = some ⟨oc8, od8, .func (PySem.W.fnOf "_law_numbers" "_law_numbers" (defArgs (top 10)) (defBody (top 10)) (defScope (top 10)) .none kV8 dc8 pm8 an8 cd8 ct8), sl8⟩) (c8 : PySem.W.codeIn K cd8 "_law_numbers" = true) (k8 : PySem.W.keepIn K (.ref f8) = true)
    (a9 : PySem.W.nsIn K mainGlobals "_law_pot" = some (some (.ref f9))) (l9 : K.lookup f9 = some ⟨oc9, od9, .func (PySem.W.fnOf "_law_pot" "_law_pot" (defArgs (top 11)) (defBody (top 11)) (defScope (top 11)) .none kV9 dc9 pm9 an9 cd9 ct9), sl9⟩) (c9 : PySem.W.codeIn K cd9 "_law_pot" = true) (k9 : PySem.W.keepIn K (.ref f9) = true)
    (a10 : PySem.W.nsIn K mainGlobals "_law_take" = some (some (.ref f10))) (l10 : K.lookup f10 = some ⟨oc10, od10, .func (PySem.W.fnOf "_law_take" "_law_take" (defArgs (top 12)) (defBody (top 12)) (defScope (top 12)) .none kV10 dc10 pm10 an10 cd10 ct10), sl10⟩) (c10 : PySem.W.codeIn K cd10 "_law_take" = true) (k10 : PySem.W.keepIn K (.ref f10) = true)
    (a11 : PySem.W.nsIn K mainGlobals "_law_word" = some (some (.ref f11))) (l11 : K.lookup f11 = some ⟨oc11, od11, .func (PySem.W.fnOf "_law_word" "_law_word" (defArgs (top 13)) (defBody (top 13)) (defScope (top 13)) .none kV11 dc11 pm11 an11 cd11 ct11), sl11⟩) (c11 : PySem.W.codeIn K cd11 "_law_word" = true) (k11 : PySem.W.keepIn K (.ref f11) = true)
    (a12 : PySem.W.nsIn K mainGlobals "_law_words" = some (some (.ref f12))) (l12 : K.lookup f12 = some ⟨oc12, od12, .func (PySem.W.fnOf "_law_words" "_law_words" (defArgs (top 14)) (defBody (top 14)) (defScope (top 14)) .none kV12 dc12 pm12 an12 cd12 ct12), sl12⟩) (c12 : PySem.W.codeIn K cd12 "_law_words" = true) (k12 : PySem.W.keepIn K (.ref f12) = true)
    (a13 : PySem.W.nsIn K mainGlobals "_law_worth" = some (some (.ref f13))) (l13 : K.lookup f13 = some ⟨oc13, od13, .func (PySem.W.fnOf "_law_worth" "_law_worth" (defArgs (top 15)) (defBody (top 15)) (defScope (top 15)) .none kV13 dc13 pm13 an13 cd13 ct13), sl13⟩) (c13 : PySem.W.codeIn K cd13 "_law_worth" = true) (k13 : PySem.W.keepIn K (.ref f13) = true)
    (a14 : PySem.W.nsIn K mainGlobals "_law_branch" = some (some (.ref f14))) (l14 : K.lookup f14 = some ⟨oc14, od14, .func (PySem.W.fnOf "_law_branch" "_law_branch" (defArgs (top 16)) (defBody (top 16)) (defScope (top 16)) .none kV14 dc14 pm14 an14 cd14 ct14), sl14⟩) (c14 : PySem.W.codeIn K cd14 "_law_branch" = true) (k14 : PySem.W.keepIn K (.ref f14) = true)
    (a15 : PySem.W.nsIn K mainGlobals "_law_nest" = some (some (.ref f15))) (l15 : K.lookup f15 = some ⟨oc15, od15, .func (PySem.W.fnOf "_law_nest" "_law_nest" (defArgs (top 17)) (defBody (top 17)) (defScope (top 17)) .none kV15 dc15 pm15 an15 cd15 ct15), sl15⟩) (c15 : PySem.W.codeIn K cd15 "_law_nest" = true) (k15 : PySem.W.keepIn K (.ref f15) = true)
    (a16 : PySem.W.nsIn K mainGlobals "_law_row" = some (some (.ref f16))) (l16 : K.lookup f16 = some ⟨oc16, od16, .func (PySem.W.fnOf "_law_row" "_law_row" (defArgs (top 18)) (defBody (top 18)) (defScope (top 18)) .none kV16 dc16 pm16 an16 cd16 ct16), sl16⟩) (c16 : PySem.W.codeIn K cd16 "_law_row" = true) (k16 : PySem.W.keepIn K (.ref f16) = true)
    (a17 : PySem.W.nsIn K mainGlobals "_law_block" = some (some (.ref f17))) (l17 : K.lookup f17 = some ⟨oc17, od17, .func (PySem.W.fnOf "_law_block" "_law_block" (defArgs (top 19)) (defBody (top 19)) (defScope (top 19)) .none kV17 dc17 pm17 an17 cd17 ct17), sl17⟩) (c17 : PySem.W.codeIn K cd17 "_law_block" = true) (k17 : PySem.W.keepIn K (.ref f17) = true)
    (a18 : PySem.W.nsIn K mainGlobals "_law_program" = some (some (.ref f18))) (l18 : K.lookup f18 = some ⟨oc18, od18, .func (PySem.W.fnOf "_law_program" "_law_program" (defArgs (top 20)) (defBody (top 20)) (defScope (top 20)) .none kV18 dc18 pm18 an18 cd18 ct18), sl18⟩) (c18 : PySem.W.codeIn K cd18 "_law_program" = true) (k18 : PySem.W.keepIn K (.ref f18) = true)
    (a19 : PySem.W.nsIn K mainGlobals "_law_worth_text" = some (some (.ref f19))) (l19 : K.lookup f19 = some ⟨oc19, od19, .func (PySem.W.fnOf "_law_worth_text" "_law_worth_text" (defArgs (top 21)) (defBody (top 21)) (defScope (top 21)) .none kV19 dc19 pm19 an19 cd19 ct19), sl19⟩) (c19 : PySem.W.codeIn K cd19 "_law_worth_text" = true) (k19 : PySem.W.keepIn K (.ref f19) = true)
    (a20 : PySem.W.nsIn K mainGlobals "_law_branch_text" = some (some (.ref f20))) (l20 : K.lookup f20 = some ⟨oc20, od20, .func (PySem.W.fnOf "_law_branch_text" "_law_branch_text" (defArgs (top 22)) (defBody (top 22)) (defScope (top 22)) .none kV20 dc20 pm20 an20 cd20 ct20), sl20⟩) (c20 : PySem.W.codeIn K cd20 "_law_branch_text" = true) (k20 : PySem.W.keepIn K (.ref f20) = true)
    (a21 : PySem.W.nsIn K mainGlobals "_law_rows_text" = some (some (.ref f21))) (l21 : K.lookup f21 = some ⟨oc21, od21, .func (PySem.W.fnOf "_law_rows_text" "_law_rows_text" (defArgs (top 23)) (defBody (top 23)) (defScope (top 23)) .none kV21 dc21 pm21 an21 cd21 ct21), sl21⟩) (c21 : PySem.W.codeIn K cd21 "_law_rows_text" = true) (k21 : PySem.W.keepIn K (.ref f21) = true)
    (a22 : PySem.W.nsIn K mainGlobals "_law_lines" = some (some (.ref f22))) (l22 : K.lookup f22 = some ⟨oc22, od22, .func (PySem.W.fnOf "_law_lines" "_law_lines" (defArgs (top 24)) (defBody (top 24)) (defScope (top 24)) .none kV22 dc22 pm22 an22 cd22 ct22), sl22⟩) (c22 : PySem.W.codeIn K cd22 "_law_lines" = true) (k22 : PySem.W.keepIn K (.ref f22) = true)
    (a23 : PySem.W.nsIn K mainGlobals "law" = some (some (.ref f23))) (l23 : K.lookup f23 = some ⟨oc23, od23, .func (PySem.W.fnOf "law" "law" (defArgs (top 25)) (defBody (top 25)) (defScope (top 25)) .none kV23 dc23 pm23 an23 cd23 ct23), sl23⟩) (c23 : PySem.W.codeIn K cd23 "law" = true) (k23 : PySem.W.keepIn K (.ref f23) = true)
    (z0 : PySem.W.nsIn K mainGlobals "len" = some none)
    (z1 : PySem.W.nsIn K mainGlobals "abs" = some none)
    (z2 : PySem.W.nsIn K mainGlobals "sum" = some none)
    (z3 : PySem.W.nsIn K mainGlobals "tuple" = some none)
    (z4 : PySem.W.nsIn K mainGlobals "list" = some none)
    (z5 : PySem.W.nsIn K mainGlobals "int" = some none)
    (z6 : PySem.W.nsIn K mainGlobals "str" = some none)
    (z7 : PySem.W.nsIn K mainGlobals "bool" = some none)
    (z8 : PySem.W.nsIn K mainGlobals "all" = some none)
    (z9 : PySem.W.nsIn K mainGlobals "any" = some none)
    (z10 : PySem.W.nsIn K mainGlobals "isinstance" = some none)
    (z11 : PySem.W.nsIn K mainGlobals "range" = some none)
    (z12 : PySem.W.nsIn K mainGlobals "enumerate" = some none)
    (z13 : PySem.W.nsIn K mainGlobals "zip" = some none)
    (z14 : PySem.W.nsIn K mainGlobals "dict" = some none)
    (z15 : PySem.W.nsIn K mainGlobals "min" = some none)
    (z16 : PySem.W.nsIn K mainGlobals "max" = some none)
    (z17 : PySem.W.nsIn K mainGlobals "sorted" = some none)
    (z18 : PySem.W.nsIn K mainGlobals "set" = some none)
    (z19 : PySem.W.nsIn K mainGlobals "repr" = some none)
    : ∃ fd : FuncData, (∀ (s : Shared) (v : Value), BindsTo s fd ⟨[v], []⟩ [("_law_script", v)]) ∧ ∀ base : Heap, K.In base → base.Ns mainGlobals mg → FnOk l.prog w K mg base (L2.CX l.prog w) 40 fa fd ["_law_script"] (spL K) := by
  have e := hfa.symm.trans (PySem.W.mg_of X G a23)
  cases e
  have F0 := fun_mk (st := top 1) l0 c0 k0
  have b0 := F0.binds (ps := ["one"]) fun _ _ _ _ _ _ us hl => match us, hl with | [_], _ => rfl
  have q0 : ∀ ks ord, (0, ks, ord) ∈ T.kws → KBinds K (PySem.W.fnOf "worth_text" "worth_text" (defArgs (top 1)) (defBody (top 1)) (defScope (top 1)) .none kV0 dc0 pm0 an0 cd0 ct0) D0.ps ks (gK ord) (gK ord) := fun ks ord hm => absurd hm (by simp [T])
  have F1 := fun_mk (st := top 2) l1 c1 k1
  have b1 := F1.binds (ps := ["branch"]) fun _ _ _ _ _ _ us hl => match us, hl with | [_], _ => rfl
  have q1 : ∀ ks ord, (1, ks, ord) ∈ T.kws → KBinds K (PySem.W.fnOf "branch_text" "branch_text" (defArgs (top 2)) (defBody (top 2)) (defScope (top 2)) .none kV1 dc1 pm1 an1 cd1 ct1) D1.ps ks (gK ord) (gK ord) := fun ks ord hm => absurd hm (by simp [T])
  have F2 := fun_mk (st := top 3) l2 c2 k2
  have b2 := F2.binds (ps := ["name"]) fun _ _ _ _ _ _ us hl => match us, hl with | [_], _ => rfl
  have q2 : ∀ ks ord, (2, ks, ord) ∈ T.kws → KBinds K (PySem.W.fnOf "catch_text" "catch_text" (defArgs (top 3)) (defBody (top 3)) (defScope (top 3)) .none kV2 dc2 pm2 an2 cd2 ct2) D2.ps ks (gK ord) (gK ord) := fun ks ord hm => absurd hm (by simp [T])
  have F3 := fun_mk (st := top 4) l3 c3 k3
  have b3 := F3.binds (ps := ["row"]) fun _ _ _ _ _ _ us hl => match us, hl with | [_], _ => rfl
  have q3 : ∀ ks ord, (3, ks, ord) ∈ T.kws → KBinds K (PySem.W.fnOf "nest_lines" "nest_lines" (defArgs (top 4)) (defBody (top 4)) (defScope (top 4)) .none kV3 dc3 pm3 an3 cd3 ct3) D3.ps ks (gK ord) (gK ord) := fun ks ord hm => absurd hm (by simp [T])
  have F4 := fun_mk (st := top 5) l4 c4 k4
  have b4 := F4.binds (ps := ["row"]) fun _ _ _ _ _ _ us hl => match us, hl with | [_], _ => rfl
  have q4 : ∀ ks ord, (4, ks, ord) ∈ T.kws → KBinds K (PySem.W.fnOf "row_lines" "row_lines" (defArgs (top 5)) (defBody (top 5)) (defScope (top 5)) .none kV4 dc4 pm4 an4 cd4 ct4) D4.ps ks (gK ord) (gK ord) := fun ks ord hm => absurd hm (by simp [T])
  have F5 := fun_mk (st := top 6) l5 c5 k5
  have b5 := F5.binds (ps := ["block"]) fun _ _ _ _ _ _ us hl => match us, hl with | [_], _ => rfl
  have q5 : ∀ ks ord, (5, ks, ord) ∈ T.kws → KBinds K (PySem.W.fnOf "block_lines" "block_lines" (defArgs (top 6)) (defBody (top 6)) (defScope (top 6)) .none kV5 dc5 pm5 an5 cd5 ct5) D5.ps ks (gK ord) (gK ord) := fun ks ord hm => absurd hm (by simp [T])
  have F6 := fun_mk (st := top 7) l6 c6 k6
  have b6 := F6.binds (ps := ["errand"]) fun _ _ _ _ _ _ us hl => match us, hl with | [_], _ => rfl
  have q6 : ∀ ks ord, (6, ks, ord) ∈ T.kws → KBinds K (PySem.W.fnOf "errand_lines" "errand_lines" (defArgs (top 7)) (defBody (top 7)) (defScope (top 7)) .none kV6 dc6 pm6 an6 cd6 ct6) D6.ps ks (gK ord) (gK ord) := fun ks ord hm => absurd hm (by simp [T])
  have F7 := fun_mk (st := top 8) l7 c7 k7
  have b7 := F7.binds (ps := ["program"]) fun _ _ _ _ _ _ us hl => match us, hl with | [_], _ => rfl
  have q7 : ∀ ks ord, (7, ks, ord) ∈ T.kws → KBinds K (PySem.W.fnOf "written" "written" (defArgs (top 8)) (defBody (top 8)) (defScope (top 8)) .none kV7 dc7 pm7 an7 cd7 ct7) D7.ps ks (gK ord) (gK ord) := fun ks ord hm => by
    have hm : (ks = (["program"] : List Str) ∧ ord = ([0] : List Nat)) := by simpa [T] using hm
    rcases hm with ⟨rfl, rfl⟩
    · exact ⟨fun s us ws _ hl => match us, ws, hl with | [], _ :: _, _ => .of_eq rfl | [], [], hl => by revert hl; simp [gK, pick, D7] | _ :: _, _, hl => by revert hl; simp [gK, D7], gK_vals⟩
  have F8 := fun_mk (st := top 10) l8 c8 k8
  have b8 := F8.binds (ps := ["_law_cell"]) fun _ _ _ _ _ _ us hl => match us, hl with | [_], _ => rfl
  have q8 : ∀ ks ord, (8, ks, ord) ∈ T.kws → KBinds K (PySem.W.fnOf "_law_numbers" "_law_numbers" (defArgs (top 10)) (defBody (top 10)) (defScope (top 10)) .none kV8 dc8 pm8 an8 cd8 ct8) D8.ps ks (gK ord) (gK ord) := fun ks ord hm => absurd hm (by simp [T])
  have F9 := fun_mk (st := top 11) l9 c9 k9
  have b9 := F9.binds (ps := ["_law_script"]) fun _ _ _ _ _ _ us hl => match us, hl with | [_], _ => rfl
  have q9 : ∀ ks ord, (9, ks, ord) ∈ T.kws → KBinds K (PySem.W.fnOf "_law_pot" "_law_pot" (defArgs (top 11)) (defBody (top 11)) (defScope (top 11)) .none kV9 dc9 pm9 an9 cd9 ct9) D9.ps ks (gK ord) (gK ord) := fun ks ord hm => absurd hm (by simp [T])
  have F10 := fun_mk (st := top 12) l10 c10 k10
  have b10 := F10.binds (ps := ["_law_pot_here", "_law_many"]) fun _ _ _ _ _ _ us hl => match us, hl with | [_, _], _ => rfl
  have q10 : ∀ ks ord, (10, ks, ord) ∈ T.kws → KBinds K (PySem.W.fnOf "_law_take" "_law_take" (defArgs (top 12)) (defBody (top 12)) (defScope (top 12)) .none kV10 dc10 pm10 an10 cd10 ct10) D10.ps ks (gK ord) (gK ord) := fun ks ord hm => absurd hm (by simp [T])
  have F11 := fun_mk (st := top 13) l11 c11 k11
  have b11 := F11.binds (ps := ["_law_pot_here"]) fun _ _ _ _ _ _ us hl => match us, hl with | [_], _ => rfl
  have q11 : ∀ ks ord, (11, ks, ord) ∈ T.kws → KBinds K (PySem.W.fnOf "_law_word" "_law_word" (defArgs (top 13)) (defBody (top 13)) (defScope (top 13)) .none kV11 dc11 pm11 an11 cd11 ct11) D11.ps ks (gK ord) (gK ord) := fun ks ord hm => absurd hm (by simp [T])
  have F12 := fun_mk (st := top 14) l12 c12 k12
  have b12 := F12.binds (ps := ["_law_pot_here", "_law_many"]) fun _ _ _ _ _ _ us hl => match us, hl with | [_, _], _ => rfl
  have q12 : ∀ ks ord, (12, ks, ord) ∈ T.kws → KBinds K (PySem.W.fnOf "_law_words" "_law_words" (defArgs (top 14)) (defBody (top 14)) (defScope (top 14)) .none kV12 dc12 pm12 an12 cd12 ct12) D12.ps ks (gK ord) (gK ord) := fun ks ord hm => absurd hm (by simp [T])
  have F13 := fun_mk (st := top 15) l13 c13 k13
  have b13 := F13.binds (ps := ["_law_pot_here", "_law_names", "_law_deep"]) fun _ _ _ _ _ _ us hl => match us, hl with | [_, _, _], _ => rfl
  have q13 : ∀ ks ord, (13, ks, ord) ∈ T.kws → KBinds K (PySem.W.fnOf "_law_worth" "_law_worth" (defArgs (top 15)) (defBody (top 15)) (defScope (top 15)) .none kV13 dc13 pm13 an13 cd13 ct13) D13.ps ks (gK ord) (gK ord) := fun ks ord hm => absurd hm (by simp [T])
  have F14 := fun_mk (st := top 16) l14 c14 k14
  have b14 := F14.binds (ps := ["_law_pot_here", "_law_room"]) fun _ _ _ _ _ _ us hl => match us, hl with | [_, _], _ => rfl
  have q14 : ∀ ks ord, (14, ks, ord) ∈ T.kws → KBinds K (PySem.W.fnOf "_law_branch" "_law_branch" (defArgs (top 16)) (defBody (top 16)) (defScope (top 16)) .none kV14 dc14 pm14 an14 cd14 ct14) D14.ps ks (gK ord) (gK ord) := fun ks ord hm => absurd hm (by simp [T])
  have F15 := fun_mk (st := top 17) l15 c15 k15
  have b15 := F15.binds (ps := ["_law_pot_here", "_law_room", "_law_way", "_law_deep", "_law_undoing"]) fun _ _ _ _ _ _ us hl => match us, hl with | [_, _, _, _, _], _ => rfl
  have q15 : ∀ ks ord, (15, ks, ord) ∈ T.kws → KBinds K (PySem.W.fnOf "_law_nest" "_law_nest" (defArgs (top 17)) (defBody (top 17)) (defScope (top 17)) .none kV15 dc15 pm15 an15 cd15 ct15) D15.ps ks (gK ord) (gK ord) := fun ks ord hm => absurd hm (by simp [T])
  have F16 := fun_mk (st := top 18) l16 c16 k16
  have b16 := F16.binds (ps := ["_law_pot_here", "_law_room", "_law_deep", "_law_undoing"]) fun _ _ _ _ _ _ us hl => match us, hl with | [_, _, _, _], _ => rfl
  have q16 : ∀ ks ord, (16, ks, ord) ∈ T.kws → KBinds K (PySem.W.fnOf "_law_row" "_law_row" (defArgs (top 18)) (defBody (top 18)) (defScope (top 18)) .none kV16 dc16 pm16 an16 cd16 ct16) D16.ps ks (gK ord) (gK ord) := fun ks ord hm => absurd hm (by simp [T])
  have F17 := fun_mk (st := top 19) l17 c17 k17
  have b17 := F17.binds (ps := ["_law_pot_here", "_law_room", "_law_deep", "_law_undoing"]) fun _ _ _ _ _ _ us hl => match us, hl with | [_, _, _, _], _ => rfl
  have q17 : ∀ ks ord, (17, ks, ord) ∈ T.kws → KBinds K (PySem.W.fnOf "_law_block" "_law_block" (defArgs (top 19)) (defBody (top 19)) (defScope (top 19)) .none kV17 dc17 pm17 an17 cd17 ct17) D17.ps ks (gK ord) (gK ord) := fun ks ord hm => absurd hm (by simp [T])
  have F18 := fun_mk (st := top 20) l18 c18 k18
  have b18 := F18.binds (ps := ["_law_pot_here", "_law_most", "_law_left"]) fun _ _ _ _ _ _ us hl => match us, hl with | [_, _, _], _ => rfl
  have q18 : ∀ ks ord, (18, ks, ord) ∈ T.kws → KBinds K (PySem.W.fnOf "_law_program" "_law_program" (defArgs (top 20)) (defBody (top 20)) (defScope (top 20)) .none kV18 dc18 pm18 an18 cd18 ct18) D18.ps ks (gK ord) (gK ord) := fun ks ord hm => absurd hm (by simp [T])
  have F19 := fun_mk (st := top 21) l19 c19 k19
  have b19 := F19.binds (ps := ["_law_one"]) fun _ _ _ _ _ _ us hl => match us, hl with | [_], _ => rfl
  have q19 : ∀ ks ord, (19, ks, ord) ∈ T.kws → KBinds K (PySem.W.fnOf "_law_worth_text" "_law_worth_text" (defArgs (top 21)) (defBody (top 21)) (defScope (top 21)) .none kV19 dc19 pm19 an19 cd19 ct19) D19.ps ks (gK ord) (gK ord) := fun ks ord hm => absurd hm (by simp [T])
  have F20 := fun_mk (st := top 22) l20 c20 k20
  have b20 := F20.binds (ps := ["_law_branch_here"]) fun _ _ _ _ _ _ us hl => match us, hl with | [_], _ => rfl
  have q20 : ∀ ks ord, (20, ks, ord) ∈ T.kws → KBinds K (PySem.W.fnOf "_law_branch_text" "_law_branch_text" (defArgs (top 22)) (defBody (top 22)) (defScope (top 22)) .none kV20 dc20 pm20 an20 cd20 ct20) D20.ps ks (gK ord) (gK ord) := fun ks ord hm => absurd hm (by simp [T])
  have F21 := fun_mk (st := top 23) l21 c21 k21
  have b21 := F21.binds (ps := ["_law_block_here"]) fun _ _ _ _ _ _ us hl => match us, hl with | [_], _ => rfl
  have q21 : ∀ ks ord, (21, ks, ord) ∈ T.kws → KBinds K (PySem.W.fnOf "_law_rows_text" "_law_rows_text" (defArgs (top 23)) (defBody (top 23)) (defScope (top 23)) .none kV21 dc21 pm21 an21 cd21 ct21) D21.ps ks (gK ord) (gK ord) := fun ks ord hm => absurd hm (by simp [T])
  have F22 := fun_mk (st := top 24) l22 c22 k22
  have b22 := F22.binds (ps := ["_law_program_here"]) fun _ _ _ _ _ _ us hl => match us, hl with | [_], _ => rfl
  have q22 : ∀ ks ord, (22, ks, ord) ∈ T.kws → KBinds K (PySem.W.fnOf "_law_lines" "_law_lines" (defArgs (top 24)) (defBody (top 24)) (defScope (top 24)) .none kV22 dc22 pm22 an22 cd22 ct22) D22.ps ks (gK ord) (gK ord) := fun ks ord hm => absurd hm (by simp [T])
  have F23 := fun_mk (st := top 25) l23 c23 k23
  have b23 := F23.binds (ps := ["_law_script"]) fun _ _ _ _ _ _ us hl => match us, hl with | [_], _ => rfl
  have q23 : ∀ ks ord, (23, ks, ord) ∈ T.kws → KBinds K (PySem.W.fnOf "law" "law" (defArgs (top 25)) (defBody (top 25)) (defScope (top 25)) .none kV23 dc23 pm23 an23 cd23 ct23) D23.ps ks (gK ord) (gK ord) := fun ks ord hm => absurd hm (by simp [T])
  refine ⟨_, fun s v => .of_eq rfl, fun base _ _ => law_at (Wn := 1000000) (i := 23) (d := D23) (T := T) ⟨K, fun _ => 0, fun _ => 0⟩ rfl T_ok (fun i d hd => ?_) (fun x hx => ?_) (fun p hp => ?_) rfl rfl (PySem.W.mg_of X G a23) F23 law_holds base⟩
  · match i, hd with
    | 0, hd => cases hd; exact ⟨_, _, F0, PySem.W.mg_of X G a0, b0, q0⟩
    | 1, hd => cases hd; exact ⟨_, _, F1, PySem.W.mg_of X G a1, b1, q1⟩
    | 2, hd => cases hd; exact ⟨_, _, F2, PySem.W.mg_of X G a2, b2, q2⟩
    | 3, hd => cases hd; exact ⟨_, _, F3, PySem.W.mg_of X G a3, b3, q3⟩
    | 4, hd => cases hd; exact ⟨_, _, F4, PySem.W.mg_of X G a4, b4, q4⟩
    | 5, hd => cases hd; exact ⟨_, _, F5, PySem.W.mg_of X G a5, b5, q5⟩
    | 6, hd => cases hd; exact ⟨_, _, F6, PySem.W.mg_of X G a6, b6, q6⟩
    | 7, hd => cases hd; exact ⟨_, _, F7, PySem.W.mg_of X G a7, b7, q7⟩
    | 8, hd => cases hd; exact ⟨_, _, F8, PySem.W.mg_of X G a8, b8, q8⟩
    | 9, hd => cases hd; exact ⟨_, _, F9, PySem.W.mg_of X G a9, b9, q9⟩
    | 10, hd => cases hd; exact ⟨_, _, F10, PySem.W.mg_of X G a10, b10, q10⟩
    | 11, hd => cases hd; exact ⟨_, _, F11, PySem.W.mg_of X G a11, b11, q11⟩
    | 12, hd => cases hd; exact ⟨_, _, F12, PySem.W.mg_of X G a12, b12, q12⟩
    | 13, hd => cases hd; exact ⟨_, _, F13, PySem.W.mg_of X G a13, b13, q13⟩
    | 14, hd => cases hd; exact ⟨_, _, F14, PySem.W.mg_of X G a14, b14, q14⟩
    | 15, hd => cases hd; exact ⟨_, _, F15, PySem.W.mg_of X G a15, b15, q15⟩
    | 16, hd => cases hd; exact ⟨_, _, F16, PySem.W.mg_of X G a16, b16, q16⟩
    | 17, hd => cases hd; exact ⟨_, _, F17, PySem.W.mg_of X G a17, b17, q17⟩
    | 18, hd => cases hd; exact ⟨_, _, F18, PySem.W.mg_of X G a18, b18, q18⟩
    | 19, hd => cases hd; exact ⟨_, _, F19, PySem.W.mg_of X G a19, b19, q19⟩
    | 20, hd => cases hd; exact ⟨_, _, F20, PySem.W.mg_of X G a20, b20, q20⟩
    | 21, hd => cases hd; exact ⟨_, _, F21, PySem.W.mg_of X G a21, b21, q21⟩
    | 22, hd => cases hd; exact ⟨_, _, F22, PySem.W.mg_of X G a22, b22, q22⟩
    | 23, hd => cases hd; exact ⟨_, _, F23, PySem.W.mg_of X G a23, b23, q23⟩
    | _ + 24, hd => exact nomatch hd
  · simp only [bltsOf, List.mem_cons, List.not_mem_nil, or_false] at hx
    rcases hx with rfl | rfl | rfl | rfl | rfl | rfl | rfl | rfl | rfl | rfl | rfl | rfl | rfl | rfl | rfl | rfl | rfl | rfl | rfl | rfl
    · exact PySem.W.mg_none_of X G z0
    · exact PySem.W.mg_none_of X G z1
    · exact PySem.W.mg_none_of X G z2
    · exact PySem.W.mg_none_of X G z3
    · exact PySem.W.mg_none_of X G z4
    · exact PySem.W.mg_none_of X G z5
    · exact PySem.W.mg_none_of X G z6
    · exact PySem.W.mg_none_of X G z7
    · exact PySem.W.mg_none_of X G z8
    · exact PySem.W.mg_none_of X G z9
    · exact PySem.W.mg_none_of X G z10
    · exact PySem.W.mg_none_of X G z11
    · exact PySem.W.mg_none_of X G z12
    · exact PySem.W.mg_none_of X G z13
    · exact PySem.W.mg_none_of X G z14
    · exact PySem.W.mg_none_of X G z15
    · exact PySem.W.mg_none_of X G z16
    · exact PySem.W.mg_none_of X G z17
    · exact PySem.W.mg_none_of X G z18
    · exact PySem.W.mg_none_of X G z19
  · exact nomatch hp
theorem walk {l : PySem.W.OpenLaw} {q : Program} {loose : List Str} {XP : (Str → Option Value) → Heap → Prop} {YP : World → Heap → Prop} {d : DefRec} {K : Params → PySem.W.Frag} (hn : l.most = some 63) (hdf : d.params.defaults = []) (hY : ∀ (w : World) (h : Heap), YP w h → (K w.params).In h)
    (F : ∀ (w : World) (mg : Str → Option Value) (fa : Addr) (h : Heap), (K w.params).In h → h.Ns mainGlobals mg → mg d.name = some (.ref fa) →
      ∃ fd : FuncData, (∀ (s : Shared) (u : Value), BindsTo s fd ⟨[u], []⟩ [("_law_script", u)]) ∧ ∀ base : Heap, (K w.params).In base → base.Ns mainGlobals mg → FnOk l.prog w (K w.params) mg base (L2.CX l.prog w) 40 fa fd ["_law_script"] (spL (K w.params))) :
    PySem.W.WalkO q loose XP YP l.row.toRowW d [] (fun f vs => PySem.call f vs) :=
  L2.walk_of (n := 63) (k := 40) (x := "_law_script") (CX := fun w => L2.CX l.prog w) (sp := fun w => spL (K w.params)) hn (by decide) hdf ⟨rfl, by decide, by decide⟩ hY F (fun _ _ a ns hl hO hS => spL_at hl hO hS) fun _ _ _ _ _ h => cx_none h
end K07
open PySem PySem.W PyProof.Rows
set_option maxRecDepth 100000 in
set_option maxHeartbeats 0 in
theorem PySem.Challenge.cw_errandwide_k07_programs_written_holds : PySem.Challenge.rw_errandwide_k07_programs_written.Holds := by
  w_on; o_law; k_head; (case hw => w_witness2)
  k_fill
  refine K07.walk (l := PySem.Challenge.rw_errandwide_k07_programs_written) rfl rfl (fun w h Y => PySem.W.kIn_of Y) ?F
  case F =>
    intro w mg fa h KX G hmg
    refine' K07.all_mk KX G hmg ?a0 ?l0 ?c0 ?k0 ?a1 ?l1 ?c1 ?k1 ?a2 ?l2 ?c2 ?k2 ?a3 ?l3 ?c3 ?k3 ?a4 ?l4 ?c4 ?k4 ?a5 ?l5 ?c5 ?k5 ?a6 ?l6 ?c6 ?k6 ?a7 ?l7 ?c7 ?k7 ?a8 ?l8 ?c8 ?k8 ?a9 ?l9 ?c9 ?k9 ?a10 ?l10 ?c10 ?k10 ?a11 ?l11 ?c11 ?k11 ?a12 ?l12 ?c12 ?k12 ?a13 ?l13 ?c13 ?k13 ?a14 ?l14 ?c14 ?k14 ?a15 ?l15 ?c15 ?k15 ?a16 ?l16 ?c16 ?k16 ?a17 ?l17 ?c17 ?k17 ?a18 ?l18 ?c18 ?k18 ?a19 ?l19 ?c19 ?k19 ?a20 ?l20 ?c20 ?k20 ?a21 ?l21 ?c21 ?k21 ?a22 ?l22 ?c22 ?k22 ?a23 ?l23 ?c23 ?k23 ?z0 ?z1 ?z2 ?z3 ?z4 ?z5 ?z6 ?z7 ?z8 ?z9 ?z10 ?z11 ?z12 ?z13 ?z14 ?z15 ?z16 ?z17 ?z18 ?z19
    (case a0 => k_is)
    (case l0 => k_is)
    (case c0 => k_is)
    (case k0 => k_is)
    (case a1 => k_is)
    (case l1 => k_is)
    (case c1 => k_is)
    (case k1 => k_is)
    (case a2 => k_is)
    (case l2 => k_is)
    (case c2 => k_is)
    (case k2 => k_is)
    (case a3 => k_is)
    (case l3 => k_is)
    (case c3 => k_is)
    (case k3 => k_is)
    (case a4 => k_is)
    (case l4 => k_is)
    (case c4 => k_is)
    (case k4 => k_is)
    (case a5 => k_is)
    (case l5 => k_is)
    (case c5 => k_is)
    (case k5 => k_is)
    (case a6 => k_is)
    (case l6 => k_is)
    (case c6 => k_is)
    (case k6 => k_is)
    (case a7 => k_is)
    (case l7 => k_is)
    (case c7 => k_is)
    (case k7 => k_is)
    (case a8 => k_is)
    (case l8 => k_is)
    (case c8 => k_is)
    (case k8 => k_is)
    (case a9 => k_is)
    (case l9 => k_is)
    (case c9 => k_is)
    (case k9 => k_is)
    (case a10 => k_is)
    (case l10 => k_is)
    (case c10 => k_is)
    (case k10 => k_is)
    (case a11 => k_is)
    (case l11 => k_is)
    (case c11 => k_is)
    (case k11 => k_is)
    (case a12 => k_is)
    (case l12 => k_is)
    (case c12 => k_is)
    (case k12 => k_is)
    (case a13 => k_is)
    (case l13 => k_is)
    (case c13 => k_is)
    (case k13 => k_is)
    (case a14 => k_is)
    (case l14 => k_is)
    (case c14 => k_is)
    (case k14 => k_is)
    (case a15 => k_is)
    (case l15 => k_is)
    (case c15 => k_is)
    (case k15 => k_is)
    (case a16 => k_is)
    (case l16 => k_is)
    (case c16 => k_is)
    (case k16 => k_is)
    (case a17 => k_is)
    (case l17 => k_is)
    (case c17 => k_is)
    (case k17 => k_is)
    (case a18 => k_is)
    (case l18 => k_is)
    (case c18 => k_is)
    (case k18 => k_is)
    (case a19 => k_is)
    (case l19 => k_is)
    (case c19 => k_is)
    (case k19 => k_is)
    (case a20 => k_is)
    (case l20 => k_is)
    (case c20 => k_is)
    (case k20 => k_is)
    (case a21 => k_is)
    (case l21 => k_is)
    (case c21 => k_is)
    (case k21 => k_is)
    (case a22 => k_is)
    (case l22 => k_is)
    (case c22 => k_is)
    (case k22 => k_is)
    (case a23 => k_is)
    (case l23 => k_is)
    (case c23 => k_is)
    (case k23 => k_is)
    (case z0 => k_is)
    (case z1 => k_is)
    (case z2 => k_is)
    (case z3 => k_is)
    (case z4 => k_is)
    (case z5 => k_is)
    (case z6 => k_is)
    (case z7 => k_is)
    (case z8 => k_is)
    (case z9 => k_is)
    (case z10 => k_is)
    (case z11 => k_is)
    (case z12 => k_is)
    (case z13 => k_is)
    (case z14 => k_is)
    (case z15 => k_is)
    (case z16 => k_is)
    (case z17 => k_is)
    (case z18 => k_is)
    (case z19 => k_is)

